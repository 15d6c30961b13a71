import PyProof.Rows.All
import PyProof.InstNe
import Wide.All
import OpenK.AllK
import Wide.FinOn
import HandS.Base
import HandS.Call
import HandS.List
import HandS.Comp
import HandS.Ends
import HandS.Iter
import HandS.Words
import HandS.EndTab
import HandS.Nested
import KE.KNestM
import KE.SortKeyHeap
import HandS.TupAny
import HandS.Deep
import HandS.IsInst
import HandS.Wide
import HandS.ForMost
import KE.GoesEnum
import KE.GoesMore
import HandS.Property
import HandS.MakeKwOnly
import HandS.OwnEq
import HandS.Style
import HandS.Conv
import HandS.Star
import HandS.EndOwn
import HandS.Zip
import HandS.EndBits
import KE.RegKIsAll
import PySem.Challenge.RW_thinsnaps_k01_whole_states
set_option Elab.async false
set_option linter.all false
set_option maxRecDepth 100000
set_option maxHeartbeats 4000000
/-! Mv: a functional layer over HandS: deep values, a small heap, one lemma a construct. -/
namespace Mv
open PySem PySem.Spec L2

/-- the written part, the module's names -/
structure KC where
  K : PySem.W.Frag
  mg : Str → Option Value
instance : Coe KC PySem.W.Frag := ⟨KC.K⟩
abbrev kc (X : Cx) : KC := ⟨X.K, X.mg⟩
/-- the defs that hold lambdas -/
def lamDefs : List Str := ["choices_of", "good_states", "choices_in"]
/-- their tables of code objects, with the lambdas' name -/
def tabsK (K : PySem.W.Frag) : List (Addr × Str) := lamDefs.filterMap fun x => (PySem.W.tabIn K x).map fun p => (p.2, (x ++ ".<locals>.") ++ "<lambda>")
abbrev TabsH (K : KC) (H : Hp) : Prop := LamX.Tabs (tabsK K.K) H
theorem tabs_upd {T : List (Addr × Str)} {H : Hp} {a : Addr} {o u : HO} (t : LamX.Tabs T H) (e : H a = some u) (n1 : ∀ ps, u ≠ .tbl ps) (n2 : ∀ φ, u ≠ .ext φ) : LamX.Tabs T (upd H a o) := fun p hp => by
  obtain ⟨ps, h1, h2, h3⟩ := t p hp
  refine ⟨ps, by rw [upd_ne fun z => by rw [z, e] at h1; exact n1 _ (Option.some.inj h1)]; exact h1, h2, fun pos cv hc => ?_⟩
  obtain ⟨c, e1, e2⟩ := h3 pos cv hc
  exact ⟨c, e1, by rw [upd_ne fun z => by rw [z, e] at e2; exact n2 _ (Option.some.inj e2)]; exact e2⟩
theorem tabs_new {T : List (Addr × Str)} {H : Hp} {a : Addr} {o : HO} (t : LamX.Tabs T H) (e : H a = none) : LamX.Tabs T (upd H a o) := t.ext fun b u h => by rw [upd_ne (ne_of_none h e)]; exact h

/-! ### values, objects -/
inductive MV where
  | non | bl (b : Bool) | int (i : Int) | str (x : Str) | ref (n : Nat) | tup (xs : List MV)
inductive MO where
  | lst (xs : List MV) | frz (xs : List MV) | dct (kvs : List (MV × MV)) | fdc (kvs : List (MV × MV)) | ins (c : Nat) (fs : List MV)
abbrev MH := List MO
abbrev MEnv := List (Option MV)

mutual
inductive IsV (K : KC) (φ : List Addr) (H : Hp) : MV → V → Prop
  | non : IsV K φ H .non .non
  | bl (b : Bool) : IsV K φ H (.bl b) (.bl b)
  | int (i : Int) : IsV K φ H (.int i) (.int i)
  | str (x : Str) : IsV K φ H (.str x) (.str x)
  | ref {n : Nat} {a : Addr} : φ[n]? = some a → IsV K φ H (.ref n) (.ref a)
  | tup {a : Addr} {vs : List V} {xs : List MV} : SqT K H a vs → IsVs K φ H xs vs → IsV K φ H (.tup xs) (.ref a)
inductive IsVs (K : KC) (φ : List Addr) (H : Hp) : List MV → List V → Prop
  | nil : IsVs K φ H [] []
  | cons {x : MV} {v : V} {xs : List MV} {vs : List V} : IsV K φ H x v → IsVs K φ H xs vs → IsVs K φ H (x :: xs) (v :: vs)
end

/-- φ, H go on as φ', H' -/
structure Keep (φ : List Addr) (H : Hp) (φ' : List Addr) (H' : Hp) : Prop where
  ext : ∃ more, φ' = φ ++ more ∧ ∀ b ∈ more, H b = none
  dom : ∀ b o, H b = some o → ∃ o', H' b = some o'
  out : ∀ b o, H b = some o → (∀ ps, o ≠ .tbl ps) → b ∉ φ → H' b = some o
  tup : ∀ b xs, H b = some (.tup xs) → H' b = some (.tup xs)
  frz : ∀ b o u, H b = some (.frz o u) → H' b = some (.frz o u)

section
variable {K : KC} {φ φ1 φ2 : List Addr} {H H1 H2 : Hp}
theorem Keep.refl : Keep φ H φ H := ⟨⟨[], by simp⟩, fun _ o e => ⟨o, e⟩, fun _ _ e _ _ => e, fun _ _ e => e, fun _ _ _ e => e⟩
theorem Keep.back (a : Keep φ H φ1 H1) {b : Addr} (h : H1 b = none) : H b = none := by
  cases q : H b with
  | none => rfl
  | some o =>
    obtain ⟨o', e⟩ := a.dom b o q
    rw [h] at e; cases e
theorem Keep.trans (a : Keep φ H φ1 H1) (b : Keep φ1 H1 φ2 H2) : Keep φ H φ2 H2 := by
  obtain ⟨m1, e1, f1⟩ := a.ext
  obtain ⟨m2, e2, f2⟩ := b.ext
  have nn : ∀ c o, H c = some o → c ∉ φ → c ∉ φ1 := fun c o h n z => by
    rw [e1] at z
    rcases List.mem_append.mp z with z | z
    · exact n z
    · rw [f1 c z] at h; cases h
  refine ⟨⟨m1 ++ m2, by rw [e2, e1, List.append_assoc], fun c hc => ?_⟩, fun c o h => ?_, fun c o h nt n => b.out c o (a.out c o h nt n) nt (nn c o h n), fun c xs h => b.tup c xs (a.tup c xs h), fun c o u h => b.frz c o u (a.frz c o u h)⟩
  · rcases List.mem_append.mp hc with hc | hc
    · exact f1 c hc
    · exact a.back (f2 c hc)
  · obtain ⟨o', e⟩ := a.dom c o h
    exact b.dom c o' e
/-- an untracked new object is laid -/
theorem Keep.new {p : Addr} {o : HO} (h : H p = none) : Keep φ H φ (upd H p o) := by
  have k : ∀ b u, H b = some u → upd H p o b = some u := fun b u e => by rw [upd_ne (ne_of_none e h)]; exact e
  exact ⟨⟨[], by simp⟩, fun b u e => ⟨u, k b u e⟩, fun b u e _ _ => k b u e, fun b xs e => k b _ e, fun b u v e => k b _ e⟩
theorem Keep.lay {p : Addr} {o : HO} (h : H p = none) : Keep φ H (φ ++ [p]) (upd H p o) := by
  have k : ∀ b u, H b = some u → upd H p o b = some u := fun b u e => by rw [upd_ne (ne_of_none e h)]; exact e
  exact ⟨⟨[p], rfl, fun b hb => by rw [List.mem_singleton.mp hb]; exact h⟩, fun b u e => ⟨u, k b u e⟩, fun b u e _ _ => k b u e, fun b xs e => k b _ e, fun b u v e => k b _ e⟩
theorem Keep.get (a : Keep φ H φ1 H1) {n : Nat} {p : Addr} (e : φ[n]? = some p) : φ1[n]? = some p := by
  obtain ⟨m, rfl, _⟩ := a.ext
  rw [List.getElem?_append_left (List.getElem?_eq_some_iff.mp e).1]
  exact e
theorem Keep.sqT (a : Keep φ H φ1 H1) {p : Addr} {vs : List V} (h : SqT K H p vs) : SqT K H1 p vs := by
  rcases h with (h | ⟨o, h⟩) | h
  · exact .inl (.inl (a.tup _ _ h))
  · exact .inl (.inr ⟨o, a.frz _ _ _ h⟩)
  · exact .inr h
mutual
theorem IsV.keep (a : Keep φ H φ1 H1) : ∀ {x : MV} {v : V}, IsV K φ H x v → IsV K φ1 H1 x v
  | _, _, .non => .non
  | _, _, .bl b => .bl b
  | _, _, .int i => .int i
  | _, _, .str s => .str s
  | _, _, .ref e => .ref (a.get e)
  | _, _, .tup h t => .tup (a.sqT h) (IsVs.keep a t)
theorem IsVs.keep (a : Keep φ H φ1 H1) : ∀ {xs : List MV} {vs : List V}, IsVs K φ H xs vs → IsVs K φ1 H1 xs vs
  | _, _, .nil => .nil
  | _, _, .cons h t => .cons (IsV.keep a h) (IsVs.keep a t)
end
theorem IsVs.length : ∀ {xs : List MV} {vs : List V}, IsVs K φ H xs vs → vs.length = xs.length
  | _, _, .nil => rfl
  | _, _, .cons _ t => by simp [IsVs.length t]
theorem IsVs.get : ∀ {xs : List MV} {vs : List V} {i : Nat} {x : MV}, IsVs K φ H xs vs → xs[i]? = some x → ∃ v, vs[i]? = some v ∧ IsV K φ H x v
  | _, _, _, _, .nil, e => by simp at e
  | _, _, 0, _, .cons h t, e => by simp at e; subst e; exact ⟨_, rfl, h⟩
  | _, _, i + 1, _, .cons h t, e => by
    obtain ⟨v, e1, h1⟩ := IsVs.get t (by simpa using e)
    exact ⟨v, by simpa using e1, h1⟩
theorem IsVs.append : ∀ {xs ys : List MV} {vs ws : List V}, IsVs K φ H xs vs → IsVs K φ H ys ws → IsVs K φ H (xs ++ ys) (vs ++ ws)
  | _, _, _, _, .nil, h => h
  | _, _, _, _, .cons a t, h => .cons a (IsVs.append t h)
theorem IsVs.drop : ∀ {xs : List MV} {vs : List V} (n : Nat), IsVs K φ H xs vs → IsVs K φ H (xs.drop n) (vs.drop n)
  | _, _, 0, h => h
  | _, _, _ + 1, .nil => .nil
  | _, _, n + 1, .cons _ t => IsVs.drop n t
theorem IsVs.take : ∀ {xs : List MV} {vs : List V} (n : Nat), IsVs K φ H xs vs → IsVs K φ H (xs.take n) (vs.take n)
  | _, _, 0, h => .nil
  | _, _, _ + 1, .nil => .nil
  | _, _, n + 1, .cons a t => .cons a (IsVs.take n t)
theorem IsVs.set {x : MV} {v : V} (h : IsV K φ H x v) : ∀ {xs : List MV} {vs : List V} (n : Nat), IsVs K φ H xs vs → IsVs K φ H (xs.set n x) (vs.set n v)
  | _, _, _, .nil => .nil
  | _, _, 0, .cons _ t => .cons h t
  | _, _, n + 1, .cons a t => .cons a (IsVs.set h n t)
end

def kMV : Key → MV
  | .inl i => .int i
  | .inr x => .str x
/-- a dict's keys (tuples), its values -/
def DR (K : KC) (φ : List Addr) (H : Hp) (kvs : List (MV × MV)) (ws : List (List Key × V)) : Prop := kvs.length ≤ 100000 ∧ (ws.map fun p => MV.tup (p.1.map kMV)) = kvs.map (·.1) ∧ IsVs K φ H (kvs.map (·.2)) (ws.map (·.2))
/-- the classes: their names, their fields in the order in which they are stored -/
def tab : List (Str × List Str) := [("Promise", ["far", "least", "parts", "many"]), ("Turn", ["states"]), ("Ranks", ["ranks"]), ("Search", ["steps", "ticks"]), ("Fewest", ["number", "turn", "ranks"]), ("Least", ["part", "turn", "ranks"]),
  ("Keeps", ["states"]), ("Misses", ["time", "age"]), ("Same", ["states"]), ("Differ", ["time"]), ("Deal", ["choice", "doubts"]), ("Thrift", ["mean", "states", "heights"]), ("Session", ["plan", "price", "now", "lines", "mark"]), ("Trial", ["session", "now", "lines", "mark"])]
/-- an instance's class, its fields -/
def InsR (K : KC) (H : Hp) (a : Addr) (c n : Nat) (gs : List (Str × V)) : Prop := ∃ C dx nm fl, tab[c]? = some (nm, fl) ∧ K.mg nm = some (.ref C) ∧ Cls K C ∧ H a = some (.ins C dx gs) ∧ gs.map (·.1) = fl.take n ∧ n ≤ fl.length
theorem InsR.ex {K : KC} {H : Hp} {a : Addr} {c n : Nat} {gs : List (Str × V)} (r : InsR K H a c n gs) : ∃ u, H a = some u := by
  obtain ⟨C, dx, nm, fl, _, _, _, e, _⟩ := r; exact ⟨_, e⟩
theorem InsR.to {K : KC} {H H1 : Hp} {a : Addr} {c n : Nat} {gs : List (Str × V)} (r : InsR K H a c n gs) (e : H1 a = H a) : InsR K H1 a c n gs := by
  obtain ⟨C, dx, nm, fl, q1, q2, q3, q, q4, q5⟩ := r; exact ⟨C, dx, nm, fl, q1, q2, q3, e.trans q, q4, q5⟩
/-- an object of the small heap, as it stands -/
def OR (K : KC) (φ : List Addr) (H : Hp) (a : Addr) : MO → Prop
  | .lst xs => xs.length ≤ sizeLine ∧ ∃ vs, H a = some (.lst vs) ∧ IsVs K φ H xs vs
  | .frz xs => xs.length ≤ sizeLine ∧ ∃ o vs, H a = some (.frz o (.lst vs)) ∧ IsVs K φ H xs vs
  | .dct kvs => ∃ ws, H a = some (.dT ws) ∧ DR K φ H kvs ws
  | .fdc kvs => ∃ o ws, H a = some (.frz o (.dT ws)) ∧ DR K φ H kvs ws
  | .ins c fs => ∃ gs, InsR K H a c fs.length gs ∧ IsVs K φ H fs (gs.map (·.2))
structure HR (K : KC) (φ : List Addr) (H : Hp) (h : MH) : Prop where
  len : φ.length = h.length
  nd : φ.Nodup
  at_ : ∀ (n : Nat) (a : Addr) (o : MO), φ[n]? = some a → h[n]? = some o → OR K φ H a o
  tb : TabsH K H
structure ER (K : KC) (φ : List Addr) (H : Hp) (σ : St) (env : MEnv) : Prop where
  len : σ.length = env.length
  at_ : ∀ (i : Nat) (x : MV), env[i]? = some (some x) → ∃ v, σ[i]? = some (some v) ∧ IsV K φ H x v

section
variable {K : KC} {φ φ1 φ2 : List Addr} {H H1 H2 : Hp} {h : MH} {σ : St} {env : MEnv}
theorem OR.ex {a : Addr} {o : MO} (r : OR K φ H a o) : ∃ u, H a = some u := by
  cases o with
  | lst xs => obtain ⟨_, vs, e, _⟩ := r; exact ⟨_, e⟩
  | frz xs => obtain ⟨_, o, vs, e, _⟩ := r; exact ⟨_, e⟩
  | dct _ => obtain ⟨ws, e, _⟩ := r; exact ⟨_, e⟩
  | fdc _ => obtain ⟨o, ws, e, _⟩ := r; exact ⟨_, e⟩
  | ins _ _ => obtain ⟨gs, e, _⟩ := r; exact e.ex
theorem OR.exN {a : Addr} {o : MO} (r : OR K φ H a o) : ∃ u, H a = some u ∧ (∀ ps, u ≠ .tbl ps) ∧ ∀ φ, u ≠ .ext φ := by
  cases o with
  | lst xs => obtain ⟨_, vs, e, _⟩ := r; exact ⟨_, e, fun _ z => (by cases z), fun _ z => (by cases z)⟩
  | frz xs => obtain ⟨_, o, vs, e, _⟩ := r; exact ⟨_, e, fun _ z => (by cases z), fun _ z => (by cases z)⟩
  | dct _ => obtain ⟨ws, e, _⟩ := r; exact ⟨_, e, fun _ z => (by cases z), fun _ z => (by cases z)⟩
  | fdc _ => obtain ⟨o, ws, e, _⟩ := r; exact ⟨_, e, fun _ z => (by cases z), fun _ z => (by cases z)⟩
  | ins _ _ =>
    obtain ⟨gs, e, _⟩ := r
    obtain ⟨C, dx, nm, fl, _, _, _, e, _⟩ := e
    exact ⟨_, e, fun _ z => (by cases z), fun _ z => (by cases z)⟩
theorem HR.ex (r : HR K φ H h) {a : Addr} (ha : a ∈ φ) : ∃ u, H a = some u := by
  obtain ⟨n, e⟩ := List.mem_iff_getElem?.mp ha
  have hn : n < h.length := by rw [← r.len]; exact (List.getElem?_eq_some_iff.mp e).1
  exact (r.at_ n a _ e (List.getElem?_eq_getElem hn)).ex
theorem HR.fresh (r : HR K φ H h) {p : Addr} (hp : H p = none) : p ∉ φ := fun z => by
  obtain ⟨u, e⟩ := r.ex z
  rw [hp] at e; cases e
theorem HR.addr (r : HR K φ H h) {n : Nat} {o : MO} (e : h[n]? = some o) : ∃ a, φ[n]? = some a := by
  have hn : n < φ.length := by rw [r.len]; exact (List.getElem?_eq_some_iff.mp e).1
  exact ⟨_, List.getElem?_eq_getElem hn⟩
theorem OR.keepH {a : Addr} {o : MO} (r : OR K φ H a o) (k : Keep φ H φ1 H1) (e : H1 a = H a) : OR K φ1 H1 a o := by
  cases o with
  | lst xs => obtain ⟨l, vs, q, t⟩ := r; exact ⟨l, vs, e.trans q, t.keep k⟩
  | frz xs => obtain ⟨l, o, vs, q, t⟩ := r; exact ⟨l, o, vs, e.trans q, t.keep k⟩
  | dct _ => obtain ⟨ws, q, l, ek, t⟩ := r; exact ⟨ws, e.trans q, l, ek, t.keep k⟩
  | fdc _ => obtain ⟨o, ws, q, l, ek, t⟩ := r; exact ⟨o, ws, e.trans q, l, ek, t.keep k⟩
  | ins _ _ => obtain ⟨gs, q, t⟩ := r; exact ⟨gs, q.to e, t.keep k⟩
/-- what is laid beside the small heap -/
theorem HR.new (r : HR K φ H h) {p : Addr} {o : HO} (hp : H p = none) : HR K φ (upd H p o) h :=
  ⟨r.len, r.nd, fun n a u e1 e2 => (r.at_ n a u e1 e2).keepH (Keep.new hp) (upd_ne fun z => r.fresh hp (z ▸ List.mem_of_getElem? e1)), tabs_new r.tb hp⟩
theorem HR.layO (r : HR K φ H h) {p : Addr} {o : HO} {mo : MO} (hp : H p = none) (ho : OR K (φ ++ [p]) (upd H p o) p mo) :
    HR K (φ ++ [p]) (upd H p o) (h ++ [mo]) := by
  have np := r.fresh hp
  have k : Keep φ H (φ ++ [p]) (upd H p o) := Keep.lay hp
  refine ⟨by simp [r.len], ?_, fun n a u e1 e2 => ?_, tabs_new r.tb hp⟩
  · rw [List.nodup_append]
    refine ⟨r.nd, by simp, fun a ha b hb z => ?_⟩
    rw [List.mem_singleton.mp hb] at z
    exact np (z ▸ ha)
  · by_cases hn : n < φ.length
    · rw [List.getElem?_append_left hn] at e1
      rw [List.getElem?_append_left (by rw [← r.len]; exact hn)] at e2
      exact (r.at_ n a u e1 e2).keepH k (upd_ne fun z => np (z ▸ List.mem_of_getElem? e1))
    · have hn' : n = φ.length := by
        have := (List.getElem?_eq_some_iff.mp e1).1
        simp at this; omega
      subst hn'
      rw [List.getElem?_append_right (Nat.le_refl _)] at e1
      rw [List.getElem?_append_right (by rw [r.len]; exact Nat.le_refl _)] at e2
      simp at e1
      rw [r.len] at e2
      simp at e2
      subst e1 e2
      exact ho
theorem HR.lay (r : HR K φ H h) {p : Addr} {xs : List MV} {vs : List V} (hp : H p = none) (hl : xs.length ≤ sizeLine) (t : IsVs K φ H xs vs) :
    HR K (φ ++ [p]) (upd H p (.lst vs)) (h ++ [.lst xs]) := r.layO hp ⟨hl, vs, upd_same, t.keep (Keep.lay hp)⟩
theorem lay_at (r : HR K φ H h) {p : Addr} : (φ ++ [p])[h.length]? = some p := by
  rw [← r.len, List.getElem?_append_right (Nat.le_refl _)]
  simp
/-- a list, an instance is changed -/
theorem Keep.putO {a : Addr} {o : HO} {u : HO} (ha : a ∈ φ) (e : H a = some u) (n1 : ∀ xs, u ≠ .tup xs) (n2 : ∀ v w, u ≠ .frz v w) : Keep φ H φ (upd H a o) := by
  refine ⟨⟨[], by simp⟩, fun b o q => ?_, fun b o q nt n => ?_, fun b xs q => ?_, fun b o u q => ?_⟩
  · by_cases hb : b = a
    · subst hb; exact ⟨_, upd_same⟩
    · exact ⟨o, by rw [upd_ne hb]; exact q⟩
  · rw [upd_ne fun z => n (by rw [z]; exact ha)]; exact q
  · rw [upd_ne fun z => by rw [z, e] at q; cases q; exact n1 _ rfl]; exact q
  · rw [upd_ne fun z => by rw [z, e] at q; cases q; exact n2 _ _ rfl]; exact q
theorem Keep.put {a : Addr} {vs ws : List V} (ha : a ∈ φ) (e : H a = some (.lst vs)) : Keep φ H φ (upd H a (.lst ws)) := Keep.putO ha e (fun _ z => by cases z) (fun _ _ z => by cases z)
theorem HR.putO (r : HR K φ H h) {n : Nat} {a : Addr} {mo mo' : MO} {o : HO} (e1 : φ[n]? = some a) (e2 : h[n]? = some mo) (k : Keep φ H φ (upd H a o)) (ho : OR K φ (upd H a o) a mo') :
    HR K φ (upd H a o) (h.set n mo') := by
  have ht : TabsH K (upd H a o) := by
    have w := r.at_ n a mo e1 e2
    obtain ⟨u, eu, n1, n2⟩ := w.exN
    exact tabs_upd r.tb eu n1 n2
  refine ⟨by simp [r.len], r.nd, fun m b u q1 q2 => ?_, ht⟩
  by_cases hm : m = n
  · subst hm
    rw [e1] at q1; cases q1
    rw [List.getElem?_set_self (List.getElem?_eq_some_iff.mp e2).1] at q2
    cases q2
    exact ho
  · rw [List.getElem?_set_ne (Ne.symm hm)] at q2
    refine (r.at_ m b u q1 q2).keepH k (upd_ne fun z => hm ?_)
    subst z
    obtain ⟨h1, x1⟩ := List.getElem?_eq_some_iff.mp q1
    obtain ⟨h2, x2⟩ := List.getElem?_eq_some_iff.mp e1
    exact (List.getElem_inj r.nd).mp (x1.trans x2.symm)
theorem HR.put (r : HR K φ H h) {n : Nat} {a : Addr} {xs ys : List MV} {vs ws : List V} (e1 : φ[n]? = some a) (e2 : h[n]? = some (.lst xs)) (e : H a = some (.lst vs)) (hl : ys.length ≤ sizeLine) (t : IsVs K φ H ys ws) :
    HR K φ (upd H a (.lst ws)) (h.set n (.lst ys)) := r.putO e1 e2 (Keep.put (List.mem_of_getElem? e1) e) ⟨hl, ws, upd_same, t.keep (Keep.put (List.mem_of_getElem? e1) e)⟩
theorem ER.keep (r : ER K φ H σ env) (k : Keep φ H φ1 H1) : ER K φ1 H1 σ env :=
  ⟨r.len, fun i x e => let ⟨v, e1, t⟩ := r.at_ i x e; ⟨v, e1, t.keep k⟩⟩
theorem ER.set (r : ER K φ H σ env) {i : Nat} {x : MV} {v : V} (t : IsV K φ H x v) : ER K φ H (σ.set i (some v)) (env.set i (some x)) := by
  refine ⟨by simp [r.len], fun j y e => ?_⟩
  by_cases hj : i = j
  · subst hj
    have hi : i < env.length := by
      have := (List.getElem?_eq_some_iff.mp e).1
      simpa using this
    rw [List.getElem?_set_self hi] at e
    cases e
    exact ⟨v, by rw [List.getElem?_set_self (by rw [r.len]; exact hi)], t⟩
  · rw [List.getElem?_set_ne hj] at e
    obtain ⟨w, e1, t1⟩ := r.at_ j y e
    exact ⟨w, by rw [List.getElem?_set_ne hj]; exact e1, t1⟩
theorem ER.unset (r : ER K φ H σ env) (i : Nat) : ER K φ H (σ.set i none) (env.set i none) := by
  refine ⟨by simp [r.len], fun j y e => ?_⟩
  by_cases hj : i = j
  · subst hj
    have hi : i < env.length := by
      have := (List.getElem?_eq_some_iff.mp e).1
      simpa using this
    rw [List.getElem?_set_self hi] at e
    cases e
  · rw [List.getElem?_set_ne hj] at e
    obtain ⟨w, e1, t1⟩ := r.at_ j y e
    exact ⟨w, by rw [List.getElem?_set_ne hj]; exact e1, t1⟩
end

/-! ### what is computed -/
structure MX where
  cls : Nat
  arg : Option MV
inductive R (α : Type) where
  | ok (a : α) (h : MH) | exc (x : MX) (h : MH) | bad
def R.bind {α β : Type} (r : R α) (f : α → MH → R β) : R β := match r with
  | .ok a h => f a h
  | .exc x h => .exc x h
  | .bad => .bad
@[simp] theorem R.bind_ok {α β : Type} (a : α) (h : MH) (f : α → MH → R β) : (R.ok a h).bind f = f a h := rfl
@[simp] theorem R.bind_exc {α β : Type} (x : MX) (h : MH) (f : α → MH → R β) : (R.exc x h).bind f = .exc x h := rfl
@[simp] theorem R.bind_bad {α β : Type} (f : α → MH → R β) : (R.bad).bind f = .bad := rfl
abbrev ME := MEnv → MH → R MV
abbrev MT := MEnv → MH → R Bool
abbrev MA := MEnv → MH → R (List MV)
/-- what is wanted at an exception -/
abbrev XW := List Addr → Hp → MX → MH → Prop
abbrev WT := St → MEnv → XW
def W0 : WT := fun _ _ _ _ _ _ => False

def OkG {α β : Type} (K : KC) (isA : List Addr → Hp → α → β → Prop) (W : XW) (φ : List Addr) (H : Hp) (r : R α) (Q : β → Hp → Prop) : Prop := match r with
  | .ok a h' => ∀ φ' H' b, Keep φ H φ' H' → HR K φ' H' h' → isA φ' H' a b → Q b H'
  | .exc x h' => ∀ φ' H', Keep φ H φ' H' → HR K φ' H' h' → W φ' H' x h'
  | .bad => False
def tG {α β : Type} (K : KC) (isA : List Addr → Hp → α → β → Prop) (W : WT) (m : MEnv → MH → R α) : St → Hp → (β → Hp → Prop) → Prop := fun σ H Q =>
  ∃ φ env h, HR K φ H h ∧ ER K φ H σ env ∧ OkG K isA (W σ env) φ H (m env h) Q
def isB : List Addr → Hp → Bool → Bool → Prop := fun _ _ a b => a = b
abbrev tE (K : KC) (W : WT) (m : ME) : TE := tG K (IsV K) W m
abbrev tT (K : KC) (W : WT) (m : MT) : TT := tG K isB W m
abbrev tA (K : KC) (W : WT) (m : MA) : TA := tG K (IsVs K) W m

section
variable {K : KC} {W : WT} {φ φ1 : List Addr} {H H1 : Hp} {h : MH} {σ : St} {env : MEnv} {α β γ δ : Type}
theorem OkG.mono {isA : List Addr → Hp → α → β → Prop} {V : XW} {r : R α} {Q : β → Hp → Prop} (o : OkG K isA V φ H r Q) (k : Keep φ H φ1 H1) : OkG K isA V φ1 H1 r Q := by
  cases r with
  | ok a h' => exact fun φ' H' b k' r t => o φ' H' b (k.trans k') r t
  | exc x h' => exact fun φ' H' k' r => o φ' H' (k.trans k') r
  | bad => exact o
theorem OkG.imp {isA : List Addr → Hp → α → β → Prop} {V : XW} {r : R α} {Q Q' : β → Hp → Prop} (o : OkG K isA V φ H r Q) (q : ∀ b H', Q b H' → Q' b H') : OkG K isA V φ H r Q' := by
  cases r with
  | ok a h' => exact fun φ' H' b k' r t => q _ _ (o φ' H' b k' r t)
  | exc x h' => exact o
  | bad => exact o
theorem OkG.ok_here {isA : List Addr → Hp → α → β → Prop} {V : XW} {a : α} {b : β} {Q : β → Hp → Prop} (o : OkG K isA V φ H (.ok a h) Q) (r : HR K φ H h) (t : isA φ H a b) : Q b H := o φ H b Keep.refl r t
/-- first m, then what its value makes -/
theorem tG_step {isA : List Addr → Hp → α → β → Prop} {isC : List Addr → Hp → γ → δ → Prop} {m : MEnv → MH → R α} {k : α → MH → R γ} {P : β → Hp → Prop} {Q : δ → Hp → Prop} (hr : HR K φ H h) (er : ER K φ H σ env)
    (o : OkG K isC (W σ env) φ H ((m env h).bind k) Q)
    (n : ∀ φ1 H1 h1 a b, Keep φ H φ1 H1 → HR K φ1 H1 h1 → ER K φ1 H1 σ env → isA φ1 H1 a b → OkG K isC (W σ env) φ1 H1 (k a h1) Q → P b H1) : tG K isA W m σ H P := by
  refine ⟨φ, env, h, hr, er, ?_⟩
  cases e : m env h with
  | ok a h1 =>
    rw [e] at o
    exact fun φ1 H1 b kp r t => n φ1 H1 h1 a b kp r (er.keep kp) t (OkG.mono o kp)
  | exc x h1 => rw [e] at o; exact o
  | bad => rw [e] at o; exact o.elim
end

/-! ### weakening the judgements -/
section
variable {X : Cx}
theorem _root_.L2.PE.imp {e : Expr} {t t' : TE} (p : PE X e t) (q : ∀ σ H Q, t' σ H Q → t σ H Q) : PE X e t' := ⟨fun pins s σ H Q I h => p.run pins s σ H Q I (q σ H Q h)⟩
theorem _root_.L2.PT.imp {e : Expr} {t t' : TT} (p : PT X e t) (q : ∀ σ H Q, t' σ H Q → t σ H Q) : PT X e t' := ⟨fun pins s σ H Q I h => p.run pins s σ H Q I (q σ H Q h)⟩
theorem _root_.L2.PW.imp {e : Expr} {t t' : TT} (p : PW X e t) (q : ∀ σ H Q, t' σ H Q → t σ H Q) : PW X e t' := ⟨fun wh pins s σ H Q I h => p.run wh pins s σ H Q I (q σ H Q h)⟩
theorem _root_.L2.PA.imp {e : List Expr} {t t' : TA} (p : PA X e t) (q : ∀ σ H Q, t' σ H Q → t σ H Q) : PA X e t' := ⟨fun pos pins s σ H Q I h => p.run pos pins s σ H Q I (q σ H Q h)⟩
theorem _root_.L2.PS.imp {e : Stmt} {t t' : TS} (p : PS X e t) (q : ∀ D σ H, t' D σ H → t D σ H) : PS X e t' := ⟨fun pins s σ H D I h => p.run pins s σ H D I (q D σ H h)⟩
theorem _root_.L2.PSs.imp {e : List Stmt} {t t' : TS} (p : PSs X e t) (q : ∀ D σ H, t' D σ H → t D σ H) : PSs X e t' := ⟨fun pins s σ H D I h => p.run pins s σ H D I (q D σ H h)⟩
theorem _root_.L2.PI.imp {tg e : Expr} {t t' : TI} (p : PI X tg e t) (q : ∀ σ H R, t' σ H R → t σ H R) : PI X tg e t' := ⟨fun pins s σ H R I h => p.run pins s σ H R I (q σ H R h)⟩
end
end Mv

set_option maxHeartbeats 4000000
namespace Mv
open PySem PySem.Spec L2

/-- lists and texts stay below this -/
abbrev cap : Nat := 100000
theorem cap_line {n : Nat} (h : n ≤ cap) : n ≤ sizeLine := Nat.le_trans h (by rw [sizeLine_eq]; decide)
theorem cap_lt {n : Nat} (h : n ≤ cap) : n < sizeLine := Nat.lt_of_le_of_lt h (by rw [sizeLine_eq]; decide)

/-! ### names and constants -/
def mVar (i : Nat) : ME := fun env h => match env[i]? with
  | some (some v) => .ok v h
  | _ => .bad
def mC (v : MV) : ME := fun _ h => .ok v h
section
variable {X : Cx} {W : WT} {pos : Pos} {a b c : Expr} {ma mb mc : ME}
theorem se_var (i : Nat) {x : Str} (hN : X.N[i]? = some x := by rfl) (hv : Vis X.env.scope x := by first | exact Or.inl rfl | exact Or.inr (Or.inl rfl) | exact Or.inr (Or.inr rfl)) (hd : (x == ("__debug__" : Str)) = false := by decide)
    (hcd : (x == ("__classdict__" : Str)) = false := by decide) : PE X (.Name x pos) (tE (kc X) W (mVar i)) := (pe_var hN hv hd hcd).imp fun σ H Q => by
  rintro ⟨φ, env, h, hr, er, o⟩
  unfold mVar at o
  split at o
  · rename_i v e
    obtain ⟨u, e1, t⟩ := er.at_ i v e
    exact ⟨u, e1, o.ok_here hr t⟩
  · exact o.elim
theorem se_c {e : Expr} {v : MV} {u : V} (p : PE X e (tC u)) (t : ∀ φ H, IsV (kc X) φ H v u) : PE X e (tE (kc X) W (mC v)) := p.imp fun σ H Q => by
  rintro ⟨φ, env, h, hr, er, o⟩
  exact OkG.ok_here o hr (t φ H)
theorem se_int {i j} : PE X (.Constant (.int i) j pos) (tE (kc X) W (mC (.int i))) := se_c pe_int fun _ _ => .int i
theorem se_bl {b j} : PE X (.Constant (.bool b) j pos) (tE (kc X) W (mC (.bl b))) := se_c pe_bl fun _ _ => .bl b
theorem se_non {j} : PE X (.Constant .none j pos) (tE (kc X) W (mC .non)) := se_c pe_non fun _ _ => .non
theorem se_str {x j} : PE X (.Constant (.str x) j pos) (tE (kc X) W (mC (.str x))) := se_c pe_str fun _ _ => .str x
/-- a whole number of the module -/
theorem se_globI {x : Str} {i : Int} (hg : Gl X x) (hm : ∃ t, X.mg x = some (.int i t)) (hd : (x == ("__debug__" : Str)) = false := by decide) : PE X (.Name x pos) (tE (kc X) W (mC (.int i))) := by
  obtain ⟨t, hm⟩ := hm
  exact se_c (u := V.int i) (pe_glob hg hm ⟨t, rfl⟩ hd) fun _ _ => .int i
theorem se_globS {x : Str} {i : Str} (hg : Gl X x) (hm : ∃ t, X.mg x = some (.str i t)) (hd : (x == ("__debug__" : Str)) = false := by decide) : PE X (.Name x pos) (tE (kc X) W (mC (.str i))) := by
  obtain ⟨t, hm⟩ := hm
  exact se_c (u := V.str i) (pe_glob hg hm ⟨t, rfl⟩ hd) fun _ _ => .str i

/-! ### two operands -/
def mBin (f : MV → MV → MH → R MV) (ma mb : ME) : ME := fun env h => (ma env h).bind fun x h1 => (mb env h1).bind fun y h2 => f x y h2
theorem tOp_of {r : R2} {f : MV → MV → MH → R MV} {K : KC} (hs : ∀ (Z : XW) φ H h x y u v Q, HR K φ H h → IsV K φ H x u → IsV K φ H y v → OkG K (IsV K) Z φ H (f x y h) Q → r u v H Q) {σ : St} {H : Hp} {Q : VK} (o : tE K W (mBin f ma mb) σ H Q) : tOp r (tE K W ma) (tE K W mb) σ H Q := by
  obtain ⟨φ, env, h, hr, er, o⟩ := o
  refine tG_step hr er o fun φ1 H1 h1 x u k1 hr1 er1 t1 o1 => ?_
  refine tG_step hr1 er1 o1 fun φ2 H2 h2 y v k2 hr2 er2 t2 o2 => ?_
  exact hs _ φ2 H2 h2 x y u v Q hr2 (t1.keep k2) t2 o2
/-- r asks what f computes -/
def OpF (K : KC) (r : R2) (f : MV → MV → MH → R MV) : Prop := ∀ (Z : XW) φ H h x y u v Q, HR K φ H h → IsV K φ H x u → IsV K φ H y v → OkG K (IsV K) Z φ H (f x y h) Q → r u v H Q
theorem se_op {op : Operator} {r : R2} {f : MV → MV → MH → R MV} (ho : OpR X (binaryOp op) r) (hs : OpF (kc X) r f) (ha : PE X a (tE (kc X) W ma)) (hb : PE X b (tE (kc X) W mb)) : PE X (.BinOp a op b pos) (tE (kc X) W (mBin f ma mb)) :=
  (pe_op ho ha hb).imp fun _ _ _ o => tOp_of hs o
theorem se_cmp {op : CmpOp} {r : R2} {f : MV → MV → MH → R MV} (ho : OpR X (compareOp op) r) (hs : OpF (kc X) r f) (ha : PE X a (tE (kc X) W ma)) (hb : PE X b (tE (kc X) W mb)) (hm : behindInMarks op b = false := by first | exact nobehind _ (by decide) (by decide) | rfl) :
    PE X (.Compare a [op] [b] pos) (tE (kc X) W (mBin f ma mb)) := (pe_cmpR ho ha hb hm).imp fun _ _ _ o => tOp_of hs o
/-- a value as a test -/
def mAsB (m : ME) : MT := fun env h => (m env h).bind fun x h1 => match x with
  | .bl b => .ok b h1
  | _ => .bad
theorem tTest_of {t : TE} {K : KC} {m : ME} (ht : ∀ σ H Q, tE K W m σ H Q → t σ H Q) {σ : St} {H : Hp} {Q : Bool → Hp → Prop} (o : tT K W (mAsB m) σ H Q) : t σ H fun x H' => ∃ k, x = .bl k ∧ Q k H' := by
  obtain ⟨φ, env, h, hr, er, o⟩ := o
  refine ht _ _ _ (tG_step hr er o fun φ1 H1 h1 x u k1 hr1 er1 t1 o1 => ?_)
  cases t1 with
  | bl b => exact ⟨b, rfl, OkG.ok_here o1 hr1 rfl⟩
  | _ => exact o1.elim
theorem st_cmp {op : CmpOp} {r : R2} {f : MV → MV → MH → R MV} (ho : OpR X (compareOp op) r) (hs : OpF (kc X) r f) (ha : PE X a (tE (kc X) W ma)) (hb : PE X b (tE (kc X) W mb)) (hm : behindInMarks op b = false := by first | exact nobehind _ (by decide) (by decide) | rfl) :
    PT X (.Compare a [op] [b] pos) (tT (kc X) W (mAsB (mBin f ma mb))) := (pt_cmpR ho ha hb hm).imp fun _ _ _ o => tTest_of (fun _ _ _ q => tOp_of hs q) o
theorem st_val {e : Expr} {m : ME} (h : PE X e (tE (kc X) W m)) (he : ∀ whole, isTrue e X.env whole = (do let v ← whole; standAt e.pos; holding [v] (truthy v)) := by intro _; rfl) : PT X e (tT (kc X) W (mAsB m)) :=
  (pt_val h he).imp fun _ _ _ o => tTest_of (fun _ _ _ q => q) o
/-- a op b op' c -/
def mChain (f g : MV → MV → MH → R MV) (ma mb mc : ME) : ME := fun env h => (ma env h).bind fun x h1 => (mb env h1).bind fun y h2 => (f x y h2).bind fun z h3 => match z with
  | .bl true => (mc env h3).bind fun w h4 => g y w h4
  | .bl false => .ok (.bl false) h3
  | _ => .bad
/-- f's answer leaves the heap -/
def Quiet (f : MV → MV → MH → R MV) : Prop := ∀ x y h, f x y h = .bad ∨ ∃ b, f x y h = .ok (.bl b) h
theorem tChain_of {r r' : R2} {f g : MV → MV → MH → R MV} {K : KC} (hs : OpF K r f) (hs' : OpF K r' g) {σ : St} {H : Hp} {Q : VK} (o : tE K W (mChain f g ma mb mc) σ H Q) : tChain r r' (tE K W ma) (tE K W mb) (tE K W mc) σ H Q := by
  obtain ⟨φ, env, h, hr, er, o⟩ := o
  refine tG_step hr er o fun φ1 H1 h1 x u k1 hr1 er1 t1 o1 => ?_
  refine tG_step hr1 er1 o1 fun φ2 H2 h2 y v k2 hr2 er2 t2 o2 => ?_
  refine hs (W σ env) φ2 H2 h2 x y u v _ hr2 (t1.keep k2) t2 ?_
  cases e : f x y h2 with
  | ok z h3 =>
    rw [e] at o2
    intro φ3 H3 w k3 hr3 t3
    have o3 := OkG.mono o2 k3
    cases t3 with
    | bl b =>
      refine ⟨b, rfl, ?_⟩
      cases b with
      | true =>
        rw [if_pos rfl]
        refine tG_step hr3 (er2.keep k3) o3 fun φ4 H4 h4 y' v' k4 hr4 er4 t4 o4 => ?_
        exact hs' _ φ4 H4 h4 y y' v v' Q hr4 ((t2.keep k3).keep k4) t4 o4
      | false =>
        rw [if_neg Bool.false_ne_true]
        exact OkG.ok_here o3 hr3 (.bl false)
    | _ => exact o3.elim
  | exc z h3 => rw [e] at o2; exact o2
  | bad => rw [e] at o2; exact o2.elim
theorem se_chain {op op' : CmpOp} {r r' : R2} {f g : MV → MV → MH → R MV} (ho : OpR X (compareOp op) r) (hs : OpF (kc X) r f) (ho' : OpR X (compareOp op') r') (hs' : OpF (kc X) r' g) (ha : PE X a (tE (kc X) W ma)) (hb : PE X b (tE (kc X) W mb)) (hc : PE X c (tE (kc X) W mc))
    (hm : lastMarks [op, op'] [b, c] = false := by with_unfolding_all rfl) : PE X (.Compare a [op, op'] [b, c] pos) (tE (kc X) W (mChain f g ma mb mc)) := (pe_chain ho ho' ha hb hc hm).imp fun _ _ _ o => tChain_of hs hs' o
theorem st_chain {op op' : CmpOp} {r r' : R2} {f g : MV → MV → MH → R MV} (ho : OpR X (compareOp op) r) (hs : OpF (kc X) r f) (ho' : OpR X (compareOp op') r') (hs' : OpF (kc X) r' g) (ha : PE X a (tE (kc X) W ma)) (hb : PE X b (tE (kc X) W mb)) (hc : PE X c (tE (kc X) W mc))
    (hm : lastMarks [op, op'] [b, c] = false := by with_unfolding_all rfl) : PT X (.Compare a [op, op'] [b, c] pos) (tT (kc X) W (mAsB (mChain f g ma mb mc))) := (pt_chain ho ho' ha hb hc hm).imp fun _ _ _ o => tTest_of (fun _ _ _ q => tChain_of hs hs' q) o

/-! ### and, or, not, if -/
def mAndV (ma mb : ME) : ME := fun env h => (ma env h).bind fun x h1 => match x with
  | .bl true => mb env h1
  | .bl false => .ok (.bl false) h1
  | _ => .bad
def mOrV (ma mb : ME) : ME := fun env h => (ma env h).bind fun x h1 => match x with
  | .bl true => .ok (.bl true) h1
  | .bl false => mb env h1
  | _ => .bad
def mNotV (ma : ME) : ME := fun env h => (ma env h).bind fun x h1 => match x with
  | .bl b => .ok (.bl (!b)) h1
  | _ => .bad
variable {rest : List Expr} {ta tb : MT}
theorem se_one {op} (h : PE X a (tE (kc X) W ma)) : PE X (.BoolOp op [a] pos) (tE (kc X) W ma) := pe_one h
theorem se_and (ha : PE X a (tE (kc X) W ma)) (hb : PE X (.BoolOp .And (b :: rest) pos) (tE (kc X) W mb)) : PE X (.BoolOp .And (a :: b :: rest) pos) (tE (kc X) W (mAndV ma mb)) := (pe_and ha hb).imp fun σ H Q => by
  rintro ⟨φ, env, h, hr, er, o⟩
  refine tG_step hr er o fun φ1 H1 h1 x u k1 hr1 er1 t1 o1 => ?_
  cases t1 with
  | bl b =>
    refine ⟨b, rfl, ?_⟩
    cases b with
    | true => rw [if_pos rfl]; exact ⟨φ1, env, h1, hr1, er1, o1⟩
    | false => rw [if_neg Bool.false_ne_true]; exact OkG.ok_here o1 hr1 (.bl false)
  | _ => exact o1.elim
theorem se_or (ha : PE X a (tE (kc X) W ma)) (hb : PE X (.BoolOp .Or (b :: rest) pos) (tE (kc X) W mb)) : PE X (.BoolOp .Or (a :: b :: rest) pos) (tE (kc X) W (mOrV ma mb)) := (pe_or ha hb).imp fun σ H Q => by
  rintro ⟨φ, env, h, hr, er, o⟩
  refine tG_step hr er o fun φ1 H1 h1 x u k1 hr1 er1 t1 o1 => ?_
  cases t1 with
  | bl b =>
    refine ⟨b, rfl, ?_⟩
    cases b with
    | true => rw [if_pos rfl]; exact OkG.ok_here o1 hr1 (.bl true)
    | false => rw [if_neg Bool.false_ne_true]; exact ⟨φ1, env, h1, hr1, er1, o1⟩
  | _ => exact o1.elim
theorem se_not (ha : PE X a (tE (kc X) W ma)) : PE X (.UnaryOp .Not a pos) (tE (kc X) W (mNotV ma)) := (pe_not ha).imp fun σ H Q => by
  rintro ⟨φ, env, h, hr, er, o⟩
  refine tG_step hr er o fun φ1 H1 h1 x u k1 hr1 er1 t1 o1 => ?_
  cases t1 with
  | bl b => exact ⟨b, rfl, OkG.ok_here o1 hr1 (.bl _)⟩
  | _ => exact o1.elim
def mAndT (ta tb : MT) : MT := fun env h => (ta env h).bind fun c h1 => if c = true then tb env h1 else .ok false h1
def mOrT (ta tb : MT) : MT := fun env h => (ta env h).bind fun c h1 => if c = true then .ok true h1 else tb env h1
def mNotT (ta : MT) : MT := fun env h => (ta env h).bind fun c h1 => .ok (!c) h1
theorem sw_and1 (ha : PT X a (tT (kc X) W ta)) : PW X (.BoolOp .And [a] pos) (tT (kc X) W ta) := pw_and1 ha
theorem sw_or1 (ha : PT X a (tT (kc X) W ta)) : PW X (.BoolOp .Or [a] pos) (tT (kc X) W ta) := pw_or1 ha
theorem sw_and (ha : PT X a (tT (kc X) W ta)) (hb : PW X (.BoolOp .And (b :: rest) pos) (tT (kc X) W tb)) : PW X (.BoolOp .And (a :: b :: rest) pos) (tT (kc X) W (mAndT ta tb)) := (pw_and ha hb).imp fun σ H Q => by
  rintro ⟨φ, env, h, hr, er, o⟩
  refine tG_step hr er o fun φ1 H1 h1 x u k1 hr1 er1 t1 o1 => ?_
  cases t1
  cases x with
  | true => rw [if_pos rfl]; exact ⟨φ1, env, h1, hr1, er1, o1⟩
  | false => rw [if_neg Bool.false_ne_true]; exact OkG.ok_here o1 hr1 rfl
theorem sw_or (ha : PT X a (tT (kc X) W ta)) (hb : PW X (.BoolOp .Or (b :: rest) pos) (tT (kc X) W tb)) : PW X (.BoolOp .Or (a :: b :: rest) pos) (tT (kc X) W (mOrT ta tb)) := (pw_or ha hb).imp fun σ H Q => by
  rintro ⟨φ, env, h, hr, er, o⟩
  refine tG_step hr er o fun φ1 H1 h1 x u k1 hr1 er1 t1 o1 => ?_
  cases t1
  cases x with
  | true => rw [if_pos rfl]; exact OkG.ok_here o1 hr1 rfl
  | false => rw [if_neg Bool.false_ne_true]; exact ⟨φ1, env, h1, hr1, er1, o1⟩
theorem st_w {e : Expr} (h : PW X e (tT (kc X) W ta)) : PT X e (tT (kc X) W ta) := h.pt
theorem st_not (ha : PT X a (tT (kc X) W ta)) : PT X (.UnaryOp .Not a pos) (tT (kc X) W (mNotT ta)) := (pt_not ha).imp fun σ H Q => by
  rintro ⟨φ, env, h, hr, er, o⟩
  refine tG_step hr er o fun φ1 H1 h1 x u k1 hr1 er1 t1 o1 => ?_
  cases t1
  exact OkG.ok_here o1 hr1 rfl
def mIf (t : MT) (ma mb : ME) : ME := fun env h => (t env h).bind fun c h1 => if c = true then ma env h1 else mb env h1
theorem se_if (hc : PT X c (tT (kc X) W ta)) (ha : PE X a (tE (kc X) W ma)) (hb : PE X b (tE (kc X) W mb)) : PE X (.IfExp c a b pos) (tE (kc X) W (mIf ta ma mb)) := (pe_ifExp hc ha hb).imp fun σ H Q => by
  rintro ⟨φ, env, h, hr, er, o⟩
  refine tG_step hr er o fun φ1 H1 h1 x u k1 hr1 er1 t1 o1 => ?_
  cases t1
  cases x with
  | true => rw [if_pos rfl]; exact ⟨φ1, env, h1, hr1, er1, o1⟩
  | false => rw [if_neg Bool.false_ne_true]; exact ⟨φ1, env, h1, hr1, er1, o1⟩

/-! ### argument lists, displays -/
def mNil : MA := fun _ h => .ok [] h
def mCons (ma : ME) (r : MA) : MA := fun env h => (ma env h).bind fun x h1 => (r env h1).bind fun xs h2 => .ok (x :: xs) h2
/-- a list's items; a tuple's -/
def itemsOf (h : MH) : MV → Option (List MV)
  | .tup xs => some xs
  | .ref n => match h[n]? with
    | some (.lst xs) => some xs
    | some (.frz xs) => some xs
    | _ => none
  | _ => none
def mStar (ma : ME) (r : MA) : MA := fun env h => (ma env h).bind fun x h1 => match itemsOf h1 x with
  | some xs => (r env h1).bind fun ys h2 => .ok (xs ++ ys) h2
  | none => .bad
variable {es : List Expr} {mr : MA}
theorem sa_nil : PA X [] (tA (kc X) W mNil) := pa_nil.imp fun σ H Q => by
  rintro ⟨φ, env, h, hr, er, o⟩
  exact OkG.ok_here o hr .nil
theorem sa_cons (ha : PE X a (tE (kc X) W ma)) (hr : PA X es (tA (kc X) W mr)) (hs : starEach (a :: es) X.env = (false, eval a X.env) :: starEach es X.env := by rfl) : PA X (a :: es) (tA (kc X) W (mCons ma mr)) := (pa_cons ha hr hs).imp fun σ H Q => by
  rintro ⟨φ, env, h, hr, er, o⟩
  refine tG_step hr er o fun φ1 H1 h1 x u k1 hr1 er1 t1 o1 => ?_
  refine tG_step hr1 er1 o1 fun φ2 H2 h2 xs us k2 hr2 er2 t2 o2 => ?_
  exact OkG.ok_here o2 hr2 (.cons (t1.keep k2) t2)
def mTup (r : MA) : ME := fun env h => (r env h).bind fun xs h1 => if xs.length ≤ cap then .ok (.tup xs) h1 else .bad
def mLst (r : MA) : ME := fun env h => (r env h).bind fun xs h1 => if xs.length ≤ cap then .ok (.ref h1.length) (h1 ++ [.lst xs]) else .bad
/-- a new list -/
theorem lay_ok {K : KC} {Z : XW} {φ : List Addr} {H : Hp} {h : MH} {xs : List MV} {vs : List V} {p : Addr} {Q : VK} (hr : HR K φ H h) (t : IsVs K φ H xs vs) (hl : xs.length ≤ cap) (hp : H p = none) (o : OkG K (IsV K) Z φ H (.ok (.ref h.length) (h ++ [.lst xs])) Q) : Q (.ref p) (upd H p (.lst vs)) :=
  o (φ ++ [p]) _ (.ref p) (Keep.lay hp) (hr.lay hp (cap_line hl) t) (.ref (lay_at hr))
theorem tup_ok {K : KC} {Z : XW} {φ : List Addr} {H : Hp} {h : MH} {xs : List MV} {vs : List V} {p : Addr} {Q : VK} (hr : HR K φ H h) (t : IsVs K φ H xs vs) (hp : H p = none) (o : OkG K (IsV K) Z φ H (.ok (.tup xs) h) Q) : Q (.ref p) (upd H p (.tup vs)) :=
  o φ _ (.ref p) (Keep.new hp) (hr.new hp) (.tup (SqT.of upd_same) (t.keep (Keep.new hp)))
theorem se_tup {x1} (hr : PA X es (tA (kc X) W mr)) : PE X (.Tuple es x1 pos) (tE (kc X) W (mTup mr)) := (pe_tup hr).imp fun σ H Q => by
  rintro ⟨φ, env, h, hr, er, o⟩
  refine tG_step hr er o fun φ1 H1 h1 xs us k1 hr1 er1 t1 o1 => ?_
  split at o1
  · rename_i hl
    exact ⟨by rw [t1.length]; exact cap_line hl, fun p hp => tup_ok hr1 t1 hp o1⟩
  · exact o1.elim
theorem se_lst (hr : PA X es (tA (kc X) W mr)) : PE X (.List es pos) (tE (kc X) W (mLst mr)) := (pe_lst hr).imp fun σ H Q => by
  rintro ⟨φ, env, h, hr, er, o⟩
  refine tG_step hr er o fun φ1 H1 h1 xs us k1 hr1 er1 t1 o1 => ?_
  split at o1
  · rename_i hl
    exact ⟨by rw [t1.length]; exact cap_line hl, fun p hp => lay_ok hr1 t1 hl hp o1⟩
  · exact o1.elim
/-- what a list's or a tuple's items are in the heap -/
theorem seq_of {K : KC} {φ : List Addr} {H : Hp} {h : MH} {x : MV} {u : V} {xs : List MV} (hr : HR K φ H h) (t : IsV K φ H x u) (e : itemsOf h x = some xs) : ∃ a vs, u = .ref a ∧ (SqT K H a vs ∨ SqL K H a vs) ∧ IsVs K φ H xs vs := by
  cases t with
  | tup hq ts => cases e; exact ⟨_, _, rfl, .inl hq, ts⟩
  | @ref n a ea =>
    unfold itemsOf at e
    cases q : h[n]? with
    | none => simp only [q] at e; cases e
    | some ob =>
      have w := hr.at_ n a ob ea q
      cases ob with
      | lst ys => simp only [q] at e; cases e; obtain ⟨_, vs, e1, t1⟩ := w; exact ⟨a, vs, rfl, .inr (SqL.of e1), t1⟩
      | frz ys => simp only [q] at e; cases e; obtain ⟨_, ob, vs, e1, t1⟩ := w; exact ⟨a, vs, rfl, .inr (.inl (.inr ⟨ob, e1⟩)), t1⟩
      | _ => simp only [q] at e; cases e
  | _ => cases e

/-! ### calls -/
def mCall (F : List MV → MH → R MV) (r : MA) : ME := fun env h => (r env h).bind fun xs h1 => F xs h1
/-- r asks what f computes -/
def CallF (K : KC) (r : List V → Hp → VK → Prop) (f : List MV → MH → R MV) : Prop := ∀ (Z : XW) φ H h xs us Q, HR K φ H h → IsVs K φ H xs us → OkG K (IsV K) Z φ H (f xs h) Q → r us H Q
theorem tCB_of {r : List V → Hp → VK → Prop} {f : List MV → MH → R MV} {K : KC} (hs : CallF K r f) {σ : St} {H : Hp} {Q : VK} (o : tE K W (mCall f mr) σ H Q) : tCB r (tA K W mr) σ H Q := by
  obtain ⟨φ, env, h, hr, er, o⟩ := o
  refine tG_step hr er o fun φ1 H1 h1 xs us k1 hr1 er1 t1 o1 => ?_
  exact hs _ φ1 H1 h1 xs us Q hr1 t1 o1
theorem se_callB {id : String} {x : Str} {p : Pos} {r : List V → Hp → VK → Prop} {f : List MV → MH → R MV} (hc : CallR X (.builtin id) r) (hs : CallF (kc X) r f) (hg : Gl X x) (hm : X.mg x = none) (hv : bootBuiltins x = some (.builtin id)) (ha : PA X (a :: es) (tA (kc X) W mr)) (hn : x ≠ "__name__" := by decide) (hdb : (x == ("__debug__" : Str)) = false := by decide)
    (he : starEach (a :: es) X.env = (false, eval a X.env) :: starEach es X.env := by rfl) (hpl : (backTo pos (starEach es X.env)).any (·.1) = false := by rfl) : PE X (.Call (.Name x p) (a :: es) [] pos) (tE (kc X) W (mCall f mr)) :=
  (pe_callB hc hg hm hv ha hn hdb he hpl).imp fun _ _ _ o => tCB_of hs o
theorem se_callTy {T : String} {x : Str} {p : Pos} {r : List V → Hp → VK → Prop} {f : List MV → MH → R MV} (hc : CallR X (.type T) r) (hs : CallF (kc X) r f) (hg : Gl X x) (hm : X.mg x = none) (hv : bootBuiltins x = some (.type T)) (ha : PA X (a :: es) (tA (kc X) W mr)) (hn : x ≠ "__name__" := by decide) (hdb : (x == ("__debug__" : Str)) = false := by decide)
    (he : starEach (a :: es) X.env = (false, eval a X.env) :: starEach es X.env := by rfl) (hpl : (backTo pos (starEach es X.env)).any (·.1) = false := by rfl) : PE X (.Call (.Name x p) (a :: es) [] pos) (tE (kc X) W (mCall f mr)) :=
  (pe_callTy hc hg hm hv ha hn hdb he hpl).imp fun _ _ _ o => tCB_of hs o
/-- a def that computes F; nothing is raised -/
def spM (K : KC) (np : Nat) (F : List MV → MH → R MV) : Sp := fun vs H Q E => vs.length = np ∧ ∃ φ xs h, HR K φ H h ∧ IsVs K φ H xs vs ∧ OkG K (IsV K) (fun _ _ _ _ => False) φ H (F xs h) Q
def R.noX {α : Type} : R α → R α
  | .exc _ _ => .bad
  | r => r
@[simp] theorem R.noX_ok {α : Type} (a : α) (h : MH) : (R.ok a h).noX = .ok a h := rfl
def mDo (np : Nat) (F : List MV → MH → R MV) (r : MA) : ME := fun env h => (r env h).bind fun xs h1 => if xs.length = np then (F xs h1).noX else .bad
theorem noX_ok {α β : Type} {K : KC} {isA : List Addr → Hp → α → β → Prop} {V V' : XW} {φ : List Addr} {H : Hp} {r : R α} {Q : β → Hp → Prop} (o : OkG K isA V φ H r.noX Q) : OkG K isA V' φ H r Q := by
  cases r with
  | ok a h => exact o
  | exc x h => exact o.elim
  | bad => exact o
theorem tDo_of {K : KC} {np : Nat} {F : List MV → MH → R MV} {σ : St} {H : Hp} {Q : VK} {E : XK} (o : tE K W (mDo np F mr) σ H Q) : tA K W mr σ H fun vs H1 => spM K np F vs H1 Q E := by
  obtain ⟨φ, env, h, hr, er, o⟩ := o
  refine tG_step hr er o fun φ1 H1 h1 xs us k1 hr1 er1 t1 o1 => ?_
  split at o1
  · rename_i hl
    exact ⟨t1.length.trans hl, φ1, xs, h1, hr1, t1, noX_ok o1⟩
  · exact o1.elim
theorem se_call {k np : Nat} {f : Addr} {fd : FuncData} {ps : List Str} {x : Str} {p : Pos} {F : List MV → MH → R MV} (hF : FnOk X.prog X.w X.K X.mg X.base CX0 k f fd ps (spM (kc X) np F)) (hr : Room k X.A) (hg : Gl X x) (hm : X.mg x = some (.ref f)) (hk : PySem.W.keepIn X.K (.ref f) = true) (hb : Binds X.K fd ps [])
    (ha : PA X (a :: es) (tA (kc X) W mr)) (hd : (x == ("__debug__" : Str)) = false := by decide)
    (he : starEach (a :: es) X.env = (false, eval a X.env) :: starEach es X.env := by rfl) (hpl : (backTo pos (starEach es X.env)).any (·.1) = false := by rfl) : PE X (.Call (.Name x p) (a :: es) [] pos) (tE (kc X) W (mDo np F mr)) :=
  (pe_call hF hr hg hm hk hb (dvs := []) .nil pass0 ha hd he hpl).imp fun σ H Q o => by
    show tA (kc X) W mr σ H fun vs H1 => spM (kc X) np F (vs ++ []) H1 Q E0
    have q := tDo_of (E := E0) o
    simpa using q
end
end Mv

set_option maxHeartbeats 4000000
namespace Mv
open PySem PySem.Spec PyProof.Rows L2

/-! ### arithmetic -/
def fI (g : Int → Int → MV) (C : Int → Int → Bool) : MV → MV → MH → R MV := fun x y h => match x, y with
  | .int i, .int j => if C i j = true then .ok (g i j) h else .bad
  | _, _ => .bad
theorem opF_I {K : KC} {r : R2} {g : Int → Int → MV} {C : Int → Int → Bool} (v : Int → Int → V) (hv : ∀ i j φ H, IsV K φ H (g i j) (v i j)) (hr : ∀ i j H Q, C i j = true → Q (v i j) H → r (.int i) (.int j) H Q) : OpF K r (fI g C) := by
  intro Z φ H h x y u w Q hr' t1 t2 o
  cases t1 <;> cases t2 <;> first
    | exact o.elim
    | (unfold fI at o
       simp only at o
       split at o
       · rename_i hc
         exact hr _ _ _ _ hc (OkG.ok_here o hr' (hv _ _ _ _))
       · exact o.elim)
def yes2 : Int → Int → Bool := fun _ _ => true
section
variable {X : Cx}
/-- * of ints of together less than 130 million bits -/
def CMulB (i j : Int) : Bool := decide (i.natAbs.log2 + j.natAbs.log2 < 100000000)
theorem CMulB.ok {i j : Int} (h : CMulB i j = true) : IntMulOk i j := by
  have b : ∀ x : Int, Builtin.Int.intBits x ≤ x.natAbs.log2 + 1 := fun x => by
    unfold Builtin.Int.intBits
    split <;> omega
  have h1 := b i
  have h2 := b j
  have h3 : i.natAbs.log2 + j.natAbs.log2 < 100000000 := of_decide_eq_true h
  have e : bitsLine = 134217728 := by decide
  unfold IntMulOk
  intro z
  rw [Bool.and_eq_true] at z
  have z2 := z.2
  unfold Builtin.Int.intTooBig at z2
  have z3 := of_decide_eq_true z2
  rw [e] at z3
  omega
theorem op_mulB : OpR X (binaryOp .Mult) (rI (fun i j => CMulB i j = true) fun i j => .int (i * j)) := opI fun _ _ _ _ _ _ _ hc q => mul_int q (CMulB.ok hc)
def fSub := fI (fun i j => .int (i - j)) yes2
def fMul := fI (fun i j => .int (i * j)) CMulB
def CDivB (_ j : Int) : Bool := decide (0 < j ∧ j.natAbs.log2 < 9000)
def fDiv := fI (fun i j => .int (i / j)) CDivB
def fMod := fI (fun i j => .int (i % j)) fun _ j => decide (0 < j)
def fPow := fI (fun i j => .int (i ^ j.toNat)) fun i j => decide (0 ≤ i ∧ i ≤ 1000 ∧ 0 ≤ j ∧ j ≤ 1000)
def fLt := fI (fun i j => .bl (decide (i < j))) yes2
def fLe := fI (fun i j => .bl (decide (i ≤ j))) yes2
def fGt := fI (fun i j => .bl (decide (j < i))) yes2
def fGe := fI (fun i j => .bl (decide (j ≤ i))) yes2
theorem os_sub : OpF (kc X) (rI0 fun i j => .int (i - j)) fSub := opF_I (fun i j => .int (i - j)) (fun _ _ _ _ => .int _) fun i j H Q _ q => ⟨i, j, rfl, rfl, q⟩
theorem os_mul : OpF (kc X) (rI (fun i j => CMulB i j = true) fun i j => .int (i * j)) fMul := opF_I (fun i j => .int (i * j)) (fun _ _ _ _ => .int _) fun i j H Q c q => ⟨i, j, rfl, rfl, c, q⟩
theorem os_div : OpF (kc X) (rI CDivW fun i j => .int (i / j)) fDiv := opF_I (fun i j => .int (i / j)) (fun _ _ _ _ => .int _) fun i j H Q c q => ⟨i, j, rfl, rfl, by simpa [CDivB, CDivW] using c, q⟩
theorem os_mod : OpF (kc X) (rI (fun _ j => 0 < j) fun i j => .int (i % j)) fMod := opF_I (fun i j => .int (i % j)) (fun _ _ _ _ => .int _) fun i j H Q c q => ⟨i, j, rfl, rfl, by simpa [CDivB, CDivW] using c, q⟩
theorem os_lt : OpF (kc X) (rI0 fun i j => .bl (decide (i < j))) fLt := opF_I (fun i j => .bl (decide (i < j))) (fun _ _ _ _ => .bl _) fun i j H Q _ q => ⟨i, j, rfl, rfl, q⟩
theorem os_le : OpF (kc X) (rI0 fun i j => .bl (decide (i ≤ j))) fLe := opF_I (fun i j => .bl (decide (i ≤ j))) (fun _ _ _ _ => .bl _) fun i j H Q _ q => ⟨i, j, rfl, rfl, q⟩
theorem os_gt : OpF (kc X) (rI0 fun i j => .bl (decide (j < i))) fGt := opF_I (fun i j => .bl (decide (j < i))) (fun _ _ _ _ => .bl _) fun i j H Q _ q => ⟨i, j, rfl, rfl, q⟩
theorem os_ge : OpF (kc X) (rI0 fun i j => .bl (decide (j ≤ i))) fGe := opF_I (fun i j => .bl (decide (j ≤ i))) (fun _ _ _ _ => .bl _) fun i j H Q _ q => ⟨i, j, rfl, rfl, q⟩

/-- + of ints, texts, lists, tuples -/
def lstOf (h : MH) (n : Nat) : Option (List MV) := match h[n]? with
  | some (.lst xs) => some xs
  | _ => none
theorem lst_of {K : KC} {φ : List Addr} {H : Hp} {h : MH} {n : Nat} {a : Addr} {xs : List MV} (hr : HR K φ H h) (ea : φ[n]? = some a) (e : lstOf h n = some xs) : h[n]? = some (.lst xs) ∧ ∃ vs, H a = some (.lst vs) ∧ IsVs K φ H xs vs := by
  unfold lstOf at e
  cases q : h[n]? with
  | none => simp only [q] at e; cases e
  | some ob =>
    have w := hr.at_ n a ob ea q
    cases ob with
    | lst ys => simp only [q] at e; cases e; exact ⟨rfl, w.2⟩
    | _ => simp only [q] at e; cases e
def fAdd : MV → MV → MH → R MV := fun x y h => match x, y with
  | .int i, .int j => .ok (.int (i + j)) h
  | .str i, .str j => if i.length + j.length ≤ cap then .ok (.str (i ++ j)) h else .bad
  | .ref n, .ref m => match lstOf h n, lstOf h m with
    | some xs, some ys => if xs.length + ys.length ≤ cap then .ok (.ref h.length) (h ++ [.lst (xs ++ ys)]) else .bad
    | _, _ => .bad
  | .tup xs, .tup ys => if xs.length + ys.length ≤ cap then .ok (.tup (xs ++ ys)) h else .bad
  | _, _ => .bad
def rAddU (K : PySem.W.Frag) : R2 := fun x y H Q => (rI0 fun i j => .int (i + j)) x y H Q ∨ (∃ i j, x = .str i ∧ y = .str j ∧ i.length + j.length ≤ sizeLine ∧ Q (.str (i ++ j)) H) ∨ rCat x y H Q ∨ rCatA K x y H Q
theorem op_addU : OpR X (binaryOp .Add) (rAddU X.K) := op_add.or (op_add_str.or (op_cat.or op_catA))
theorem os_add : OpF (kc X) (rAddU X.K) fAdd := by
  intro Z φ H h x y u w Q hr t1 t2 o
  cases t1 with
  | int i =>
    cases t2 with
    | int j => exact .inl ⟨i, j, rfl, rfl, OkG.ok_here o hr (.int _)⟩
    | _ => exact o.elim
  | str i =>
    cases t2 with
    | str j =>
      simp only [fAdd] at o
      split at o
      · rename_i hl
        exact .inr (.inl ⟨i, j, rfl, rfl, cap_line hl, OkG.ok_here o hr (.str _)⟩)
      · exact o.elim
    | _ => exact o.elim
  | @ref n a ea =>
    cases t2 with
    | @ref m b eb =>
      simp only [fAdd] at o
      cases q1 : lstOf h n with
      | none => simp only [q1] at o; exact o.elim
      | some xs =>
        cases q2 : lstOf h m with
        | none => simp only [q1, q2] at o; exact o.elim
        | some ys =>
          simp only [q1, q2] at o
          split at o
          · rename_i hl
            obtain ⟨_, vs, e1, s1⟩ := lst_of hr ea q1
            obtain ⟨_, ws, e2, s2⟩ := lst_of hr eb q2
            exact .inr (.inr (.inl ⟨a, b, vs, ws, rfl, rfl, e1, e2, by rw [s1.length, s2.length]; exact cap_line hl, fun p hp => lay_ok hr (s1.append s2) (by simpa using hl) hp o⟩))
          · exact o.elim
    | _ => exact o.elim
  | @tup a vs xs ha s1 =>
    cases t2 with
    | @tup b ws ys hb s2 =>
      simp only [fAdd] at o
      split at o
      · rename_i hl
        refine .inr (.inr (.inr ⟨a, b, vs, ws, rfl, rfl, ha, hb, by rw [s1.length, s2.length]; exact cap_line hl, fun e => ?_, fun _ e => ?_, fun _ _ p hp => tup_ok hr (s1.append s2) hp o⟩))
        · subst e; cases s1; exact OkG.ok_here o hr (.tup hb s2)
        · subst e; cases s2
          simp only [List.append_nil] at o
          exact OkG.ok_here o hr (.tup ha s1)
      · exact o.elim
    | _ => exact o.elim
  | _ => cases t2 <;> exact o.elim

/-! ### a value as data: == -/
def allSome {α : Type} : List (Option α) → Option (List α)
  | [] => some []
  | none :: _ => none
  | some x :: r => match allSome r with
    | some ys => some (x :: ys)
    | none => none
def dataOf : Nat → MH → MV → Option PyData
  | 0, _, _ => none
  | n + 1, h, v => match v with
    | .non => some .none
    | .bl b => some (.bool b)
    | .int i => some (.int i)
    | .str x => if PyData.strOk x = true then some (.str x) else none
    | .tup xs => (allSome (xs.map (dataOf n h))).map .tuple
    | .ref k => match h[k]? with
      | some (.lst xs) => (allSome (xs.map (dataOf n h))).map .list
      | some (.frz xs) => (allSome (xs.map (dataOf n h))).map .list
      | _ => none
theorem data_ok {K : KC} {φ : List Addr} {H : Hp} {h : MH} (hr : HR K φ H h) : ∀ (n : Nat) (x : MV) (u : V) (d : PyData), IsV K φ H x u → dataOf n h x = some d → Dp K H u d ∧ d.canLay0 = true ∧ d.depth ≤ n := by
  intro n
  induction n with
  | zero => intro x u d t e; cases e
  | succ n ih =>
    have all : ∀ (xs : List MV) (vs : List V) (ds : List PyData), IsVs K φ H xs vs → allSome (xs.map (dataOf n h)) = some ds → DpAll K H vs ds ∧ PyData.canLayAll0 ds = true ∧ PyData.depthAll ds ≤ n := by
      intro xs
      induction xs with
      | nil =>
        intro vs ds t e
        cases t
        simp only [List.map_nil, allSome] at e
        cases e
        exact ⟨.nil, by simp [PyData.canLayAll0], by simp [PyData.depthAll]⟩
      | cons x xs ih2 =>
        intro vs ds t e
        cases t with
        | cons t1 t2 =>
          simp only [List.map_cons] at e
          cases e1 : dataOf n h x with
          | none => simp only [e1, allSome] at e; cases e
          | some d1 =>
            simp only [e1, allSome] at e
            cases e2 : allSome (xs.map (dataOf n h)) with
            | none => simp only [e2] at e; cases e
            | some dr =>
              simp only [e2] at e
              cases e
              obtain ⟨p1, p2, p3⟩ := ih _ _ _ t1 e1
              obtain ⟨q1, q2, q3⟩ := ih2 _ _ t2 e2
              refine ⟨.cons p1 q1, by simp [PyData.canLayAll0, p2, q2], ?_⟩
              simp only [PyData.depthAll]
              omega
    intro x u d t e
    cases t with
    | non => simp only [dataOf] at e; cases e; exact ⟨.non, by simp [PyData.canLay0], by simp [PyData.depth]⟩
    | bl b => simp only [dataOf] at e; cases e; exact ⟨.bl b, by simp [PyData.canLay0], by simp [PyData.depth]⟩
    | int i => simp only [dataOf] at e; cases e; exact ⟨.int i, by simp [PyData.canLay0], by simp [PyData.depth]⟩
    | str s =>
      simp only [dataOf] at e
      split at e
      · rename_i ho
        cases e; exact ⟨.str s, by simp [PyData.canLay0, ho], by simp [PyData.depth]⟩
      · cases e
    | @tup a vs xs hq ts =>
      simp only [dataOf] at e
      cases q : allSome (xs.map (dataOf n h)) with
      | none => rw [q] at e; cases e
      | some ds =>
        rw [q] at e
        cases e
        obtain ⟨p1, p2, p3⟩ := all xs vs ds ts q
        refine ⟨.tup hq p1, by simp [PyData.canLay0, p2], ?_⟩
        simp only [PyData.depth]; omega
    | @ref k a ea =>
      simp only [dataOf] at e
      cases q : h[k]? with
      | none => simp only [q] at e; cases e
      | some ob =>
        have w := hr.at_ k a ob ea q
        cases ob with
        | lst xs =>
          simp only [q] at e
          obtain ⟨_, vs, e1, ts⟩ := w
          cases q2 : allSome (xs.map (dataOf n h)) with
          | none => rw [q2] at e; cases e
          | some ds =>
            rw [q2] at e
            cases e
            obtain ⟨p1, p2, p3⟩ := all xs vs ds ts q2
            refine ⟨.lst (SqL.of e1) p1, by simp [PyData.canLay0, p2], ?_⟩
            simp only [PyData.depth]; omega
        | frz xs =>
          simp only [q] at e
          obtain ⟨_, o', vs, e1, ts⟩ := w
          cases q2 : allSome (xs.map (dataOf n h)) with
          | none => rw [q2] at e; cases e
          | some ds =>
            rw [q2] at e
            cases e
            obtain ⟨p1, p2, p3⟩ := all xs vs ds ts q2
            refine ⟨.lst (.inl (.inr ⟨o', e1⟩)) p1, by simp [PyData.canLay0, p2], ?_⟩
            simp only [PyData.depth]; omega
        | _ => simp only [q] at e; cases e
theorem shaped_ok {d : PyData} {n : Nat} (h1 : d.canLay0 = true) (h2 : d.depth ≤ n) (hn : n ≤ 64) : SeqAt.shaped d = true := by
  unfold SeqAt.shaped
  rw [h1, Bool.true_and]
  exact decide_eq_true (Nat.le_trans h2 hn)
def fEq : MV → MV → MH → R MV := fun x y h => match dataOf 12 h x, dataOf 12 h y with
  | some d, some e => .ok (.bl (PyData.eqv d e)) h
  | _, _ => .bad
def fNe : MV → MV → MH → R MV := fun x y h => match dataOf 12 h x, dataOf 12 h y with
  | some d, some e => .ok (.bl (!PyData.eqv d e)) h
  | _, _ => .bad
theorem os_eq : OpF (kc X) (rEqD X.K) fEq := by
  intro Z φ H h x y u w Q hr t1 t2 o
  unfold fEq at o
  cases q1 : dataOf 12 h x with
  | none => simp only [q1] at o; exact o.elim
  | some d =>
    cases q2 : dataOf 12 h y with
    | none => simp only [q1, q2] at o; exact o.elim
    | some e =>
      simp only [q1, q2] at o
      obtain ⟨a1, a2, a3⟩ := data_ok hr 12 x u d t1 q1
      obtain ⟨b1, b2, b3⟩ := data_ok hr 12 y w e t2 q2
      exact ⟨d, e, a1, b1, shaped_ok a2 a3 (by decide), shaped_ok b2 b3 (by decide), OkG.ok_here o hr (.bl _)⟩
theorem os_ne : OpF (kc X) (rNeD X.K) fNe := by
  intro Z φ H h x y u w Q hr t1 t2 o
  unfold fNe at o
  cases q1 : dataOf 12 h x with
  | none => simp only [q1] at o; exact o.elim
  | some d =>
    cases q2 : dataOf 12 h y with
    | none => simp only [q1, q2] at o; exact o.elim
    | some e =>
      simp only [q1, q2] at o
      obtain ⟨a1, a2, a3⟩ := data_ok hr 12 x u d t1 q1
      obtain ⟨b1, b2, b3⟩ := data_ok hr 12 y w e t2 q2
      exact ⟨d, e, a1, b1, shaped_ok a2 a3 (by decide), shaped_ok b2 b3 (by decide), OkG.ok_here o hr (.bl _)⟩
/-- is None, is not None -/
def isNon : MV → Bool
  | .non => true
  | _ => false
theorem isNon_ok {K : KC} {φ : List Addr} {H : Hp} {x : MV} {u : V} (t : IsV K φ H x u) : decide (u = .non) = isNon x := by
  cases t <;> simp [isNon]
def fIsN : MV → MV → MH → R MV := fun x y h => match y with
  | .non => .ok (.bl (isNon x)) h
  | _ => .bad
def fNotN : MV → MV → MH → R MV := fun x y h => match y with
  | .non => .ok (.bl (!isNon x)) h
  | _ => .bad
theorem os_isN : OpF (kc X) (fun x y H Q => y = .non ∧ Q (.bl (decide (x = .non))) H) fIsN := by
  intro Z φ H h x y u w Q hr t1 t2 o
  cases t2 with
  | non => exact ⟨rfl, by rw [isNon_ok t1]; exact OkG.ok_here o hr (.bl _)⟩
  | _ => exact o.elim
theorem os_notN : OpF (kc X) (fun x y H Q => y = .non ∧ Q (.bl (!decide (x = .non))) H) fNotN := by
  intro Z φ H h x y u w Q hr t1 t2 o
  cases t2 with
  | non => exact ⟨rfl, by rw [isNon_ok t1]; exact OkG.ok_here o hr (.bl _)⟩
  | _ => exact o.elim
/-- x in a list -/
def fIn : MV → MV → MH → R MV := fun x y h => match dataOf 12 h x, dataOf 12 h y with
  | some d, some (.list ds) => .ok (.bl (ds.any fun z => PyData.eqv z d)) h
  | _, _ => .bad
def fNotIn : MV → MV → MH → R MV := fun x y h => match dataOf 12 h x, dataOf 12 h y with
  | some d, some (.list ds) => .ok (.bl (!ds.any fun z => PyData.eqv z d)) h
  | _, _ => .bad
theorem os_in : OpF (kc X) (rInD X.K) fIn := by
  intro Z φ H h x y u w Q hr t1 t2 o
  unfold fIn at o
  cases q1 : dataOf 12 h x with
  | none => simp only [q1] at o; exact o.elim
  | some d =>
    cases q2 : dataOf 12 h y with
    | none => simp only [q1, q2] at o; exact o.elim
    | some e =>
      cases e with
      | list ds =>
        simp only [q1, q2] at o
        obtain ⟨a1, a2, a3⟩ := data_ok hr 12 x u d t1 q1
        obtain ⟨b1, b2, b3⟩ := data_ok hr 12 y w _ t2 q2
        exact ⟨d, ds, a1, b1, shaped_ok a2 a3 (by decide), shaped_ok b2 b3 (by decide), OkG.ok_here o hr (.bl _)⟩
      | _ => simp only [q1, q2] at o; exact o.elim
theorem os_notIn : OpF (kc X) (rNotInD X.K) fNotIn := by
  intro Z φ H h x y u w Q hr t1 t2 o
  unfold fNotIn at o
  cases q1 : dataOf 12 h x with
  | none => simp only [q1] at o; exact o.elim
  | some d =>
    cases q2 : dataOf 12 h y with
    | none => simp only [q1, q2] at o; exact o.elim
    | some e =>
      cases e with
      | list ds =>
        simp only [q1, q2] at o
        obtain ⟨a1, a2, a3⟩ := data_ok hr 12 x u d t1 q1
        obtain ⟨b1, b2, b3⟩ := data_ok hr 12 y w _ t2 q2
        exact ⟨d, ds, a1, b1, shaped_ok a2 a3 (by decide), shaped_ok b2 b3 (by decide), OkG.ok_here o hr (.bl _)⟩
      | _ => simp only [q1, q2] at o; exact o.elim
end
end Mv

set_option maxHeartbeats 4000000
namespace Mv
open PySem PySem.Spec PyProof.Rows L2

/-! ### items -/
theorem IsVs.atI {K : KC} {φ : List Addr} {H : Hp} {xs : List MV} {vs : List V} {i : Int} {x : MV} (t : IsVs K φ H xs vs) (e : atI xs i = some x) : ∃ v, atI vs i = some v ∧ IsV K φ H x v := by
  unfold L2.atI at e ⊢
  rw [t.length]
  cases q : ixN xs.length i with
  | none => rw [q] at e; cases e
  | some j =>
    rw [q] at e
    exact t.get e
def fIx : MV → MV → MH → R MV := fun x y h => match y with
  | .int i => match x with
    | .str z => if z.length ≤ cap then (match atI z.cps.toList i with
      | some c => .ok (.str ⟨#[c]⟩) h
      | none => .bad) else .bad
    | _ => match itemsOf h x with
      | some xs => (match atI xs i with
        | some v => .ok v h
        | none => .bad)
      | none => .bad
  | _ => .bad
section
variable {X : Cx} {W : WT} {pos : Pos} {a b c : Expr} {ma mb mc : ME}
theorem os_ix : OpF (kc X) (rIx X.K) fIx := by
  intro Z φ H h x y u w Q hr t1 t2 o
  cases t2 with
  | int i =>
    cases t1 with
    | str z =>
      simp only [fIx] at o
      split at o
      · rename_i hl
        cases q : atI z.cps.toList i with
        | none => simp only [q] at o; exact o.elim
        | some c =>
          simp only [q] at o
          exact .inr (.inr ⟨z, i, c, rfl, rfl, cap_line hl, q, OkG.ok_here o hr (.str _)⟩)
      · exact o.elim
    | @tup p vs xs hq ts =>
      simp only [fIx, itemsOf] at o
      cases q : atI xs i with
      | none => simp only [q] at o; exact o.elim
      | some v =>
        simp only [q] at o
        obtain ⟨v', e, t⟩ := ts.atI q
        exact .inr (.inl ⟨p, vs, i, v', rfl, rfl, hq, e, OkG.ok_here o hr t⟩)
    | @ref n p ea =>
      simp only [fIx] at o
      cases q0 : itemsOf h (.ref n) with
      | none => simp only [q0] at o; exact o.elim
      | some xs =>
        simp only [q0] at o
        cases q : atI xs i with
        | none => simp only [q] at o; exact o.elim
        | some v =>
          simp only [q] at o
          obtain ⟨p', vs, e1, hs, ts⟩ := seq_of hr (.ref ea) q0
          obtain ⟨v', e, t⟩ := ts.atI q
          rcases hs with hs | hs
          · exact .inr (.inl ⟨p', vs, i, v', e1, rfl, hs, e, OkG.ok_here o hr t⟩)
          · exact .inl ⟨p', vs, i, v', e1, rfl, hs, e, OkG.ok_here o hr t⟩
    | _ => simp only [fIx, itemsOf] at o; exact o.elim
  | _ => exact o.elim
theorem se_ix (ha : PE X a (tE (kc X) W ma)) (hb : PE X b (tE (kc X) W mb)) (hs : PlainIx b := by exact fun _ _ => rfl) : PE X (.Subscript a b pos) (tE (kc X) W (mBin fIx ma mb)) := (pe_ix ix_seq ha hb hs).imp fun _ _ _ o => tOp_of os_ix o

/-! ### slices -/
abbrev MP := MEnv → MH → R (Option Int)
def isO : List Addr → Hp → Option Int → Option Int → Prop := fun _ _ a b => a = b
abbrev tO (K : KC) (W : WT) (m : MP) : TO := tG K isO W m
def mNoP : MP := fun _ h => .ok none h
def mPart (m : ME) : MP := fun env h => (m env h).bind fun x h1 => match x with
  | .int i => .ok (some i) h1
  | _ => .bad
theorem _root_.L2.PO.imp {e : Option Expr} {t t' : TO} (p : PO X e t) (q : ∀ σ H Q, t' σ H Q → t σ H Q) : PO X e t' := ⟨fun pins s σ H Q I h => p.run pins s σ H Q I (q σ H Q h)⟩
theorem so_none : PO X none (tO (kc X) W mNoP) := po_none.imp fun σ H Q => by
  rintro ⟨φ, env, h, hr, er, o⟩
  exact OkG.ok_here o hr rfl
theorem so_some {e : Expr} (ha : PE X e (tE (kc X) W ma)) : PO X (some e) (tO (kc X) W (mPart ma)) := (po_some ha).imp fun σ H Q => by
  rintro ⟨φ, env, h, hr, er, o⟩
  refine tG_step hr er o fun φ1 H1 h1 x u k1 hr1 er1 t1 o1 => ?_
  cases t1 with
  | int i => exact ⟨i, rfl, OkG.ok_here o1 hr1 rfl⟩
  | _ => exact o1.elim
def cutM (xs : List MV) (lo hi : Option Int) : List MV := (xs.drop (HT.sIx xs.length 0 lo)).take (HT.sIx xs.length xs.length hi - HT.sIx xs.length 0 lo)
theorem IsVs.cut {K : KC} {φ : List Addr} {H : Hp} {xs : List MV} {vs : List V} (t : IsVs K φ H xs vs) (lo hi : Option Int) : IsVs K φ H (cutM xs lo hi) (cutV vs lo hi) := by
  unfold cutM cutV
  rw [t.length]
  exact (t.drop _).take _
theorem cutM_length (xs : List MV) (lo hi : Option Int) : (cutM xs lo hi).length ≤ xs.length := by
  unfold cutM
  rw [List.length_take, List.length_drop]
  omega
def fSl (x : MV) (lo hi : Option Int) (h : MH) : R MV := match x with
  | .str z => if z.length ≤ cap then .ok (.str (cutS z lo hi)) h else .bad
  | .tup xs => .ok (.tup (cutM xs lo hi)) h
  | x => match itemsOf h x with
    | some xs => if xs.length ≤ cap then .ok (.ref h.length) (h ++ [.lst (cutM xs lo hi)]) else .bad
    | none => .bad
def mSl (m : ME) (ml mh : MP) : ME := fun env h => (m env h).bind fun x h1 => (ml env h1).bind fun lo h2 => (mh env h2).bind fun hi h3 => fSl x lo hi h3
def rSlU (K : PySem.W.Frag) : V → Option Int → Option Int → Hp → VK → Prop := fun x lo hi H Q => rSlL K x lo hi H Q ∨ rSlA K x lo hi H Q ∨ rSlS x lo hi H Q
theorem sl_U : SlR X (rSlU X.K) := sl_list.or (sl_tupA.or sl_str)
theorem se_slice {lo hi : Option Expr} {p2 : Pos} {ml mh : MP} (ha : PE X a (tE (kc X) W ma)) (hl : PO X lo (tO (kc X) W ml)) (hh : PO X hi (tO (kc X) W mh)) : PE X (.Subscript a (.Slice lo hi none p2) pos) (tE (kc X) W (mSl ma ml mh)) := (pe_slice sl_U ha hl hh).imp fun σ H Q => by
  rintro ⟨φ, env, h, hr, er, o⟩
  refine tG_step hr er o fun φ1 H1 h1 x u k1 hr1 er1 t1 o1 => ?_
  refine tG_step hr1 er1 o1 fun φ2 H2 h2 l l' k2 hr2 er2 t2 o2 => ?_
  cases t2
  refine tG_step hr2 er2 o2 fun φ3 H3 h3 g g' k3 hr3 er3 t3 o3 => ?_
  cases t3
  have t := (t1.keep k2).keep k3
  cases t with
  | str z =>
    simp only [fSl] at o3
    split at o3
    · rename_i hz
      exact .inr (.inr ⟨z, rfl, cap_line hz, OkG.ok_here o3 hr3 (.str _)⟩)
    · exact o3.elim
  | @tup p vs xs hq ts =>
    simp only [fSl] at o3
    refine .inr (.inl ⟨p, vs, rfl, hq, fun e => ?_, fun _ q hp => tup_ok hr3 (ts.cut l g) hp o3⟩)
    have e2 : cutM xs l g = xs := by
      rw [ts.length] at e
      unfold cutM
      rw [e.1, e.2]
      simp
    rw [e2] at o3
    exact OkG.ok_here o3 hr3 (.tup hq ts)
  | @ref n p ea =>
    simp only [fSl] at o3
    cases q0 : itemsOf h3 (.ref n) with
    | none => simp only [q0] at o3; exact o3.elim
    | some xs =>
      simp only [q0] at o3
      split at o3
      · rename_i hz
        have he := q0
        unfold itemsOf at he
        cases q : h3[n]? with
        | none => simp only [q] at he; cases he
        | some ob =>
          have w := hr3.at_ n p ob ea q
          cases ob with
          | lst ys =>
            simp only [q] at he; cases he
            obtain ⟨_, vs, e1, ts⟩ := w
            exact .inl ⟨p, vs, rfl, SqL.of e1, fun r hp => lay_ok hr3 (ts.cut l g) (Nat.le_trans (cutM_length xs l g) hz) hp o3⟩
          | frz ys =>
            simp only [q] at he; cases he
            obtain ⟨_, o', vs, e1, ts⟩ := w
            exact .inl ⟨p, vs, rfl, .inl (.inr ⟨o', e1⟩), fun r hp => lay_ok hr3 (ts.cut l g) (Nat.le_trans (cutM_length xs l g) hz) hp o3⟩
          | _ => simp only [q] at he; cases he
      · exact o3.elim
  | _ => simp only [fSl, itemsOf] at o3; exact o3.elim

/-! ### built-in functions -/
def fLen : List MV → MH → R MV := fun xs h => match xs with
  | [.str z] => if z.length ≤ cap then .ok (.int z.length) h else .bad
  | [x] => match itemsOf h x with
    | some ys => .ok (.int ys.length) h
    | none => .bad
  | _ => .bad
def rLenU (K : PySem.W.Frag) : List V → Hp → VK → Prop := fun xs H Q => (∃ p ys, xs = [.ref p] ∧ (SqL K H p ys ∨ SqT K H p ys) ∧ Q (.int ys.length) H) ∨ (∃ z, xs = [.str z] ∧ z.length ≤ sizeLine ∧ Q (.int z.length) H)
theorem call_lenU : CallR X (.builtin "len") (rLenU X.K) := call_len_seq.or call_len_str
theorem one_of {K : KC} {φ : List Addr} {H : Hp} {x : MV} {us : List V} (t : IsVs K φ H [x] us) : ∃ u, us = [u] ∧ IsV K φ H x u := by
  cases t with
  | cons t1 t2 => cases t2; exact ⟨_, rfl, t1⟩
theorem two_of {K : KC} {φ : List Addr} {H : Hp} {x y : MV} {us : List V} (t : IsVs K φ H [x, y] us) : ∃ u v, us = [u, v] ∧ IsV K φ H x u ∧ IsV K φ H y v := by
  cases t with
  | cons t1 t2 =>
    obtain ⟨v, rfl, t3⟩ := one_of t2
    exact ⟨_, _, rfl, t1, t3⟩
theorem cs_len : CallF (kc X) (rLenU X.K) fLen := by
  intro Z φ H h xs us Q hr t o
  unfold fLen at o
  split at o
  · rename_i z
    obtain ⟨u, rfl, t1⟩ := one_of t
    cases t1
    split at o
    · rename_i hz
      exact .inr ⟨z, rfl, cap_line hz, OkG.ok_here o hr (.int _)⟩
    · exact o.elim
  · rename_i x _
    obtain ⟨u, rfl, t1⟩ := one_of t
    cases q : itemsOf h x with
    | none => simp only [q] at o; exact o.elim
    | some ys =>
      simp only [q] at o
      obtain ⟨p, vs, rfl, hs, ts⟩ := seq_of hr t1 q
      refine .inl ⟨p, vs, rfl, hs.symm, ?_⟩
      rw [ts.length]
      exact OkG.ok_here o hr (.int _)
  · exact o.elim
/-- whole numbers, bools of a list -/
def asInts : List MV → Option (List Int)
  | [] => some []
  | .int i :: r => match asInts r with
    | some is => some (i :: is)
    | none => none
  | _ :: _ => none
def asBools : List MV → Option (List Bool)
  | [] => some []
  | .bl i :: r => match asBools r with
    | some is => some (i :: is)
    | none => none
  | _ :: _ => none
theorem asInts_eq : ∀ {xs : List MV} {ns : List Int}, asInts xs = some ns → xs = ns.map MV.int
  | [], _, e => by simp only [asInts] at e; cases e; rfl
  | .int i :: r, _, e => by
    simp only [asInts] at e
    split at e
    · rename_i is q
      cases e
      rw [asInts_eq q]; rfl
    · cases e
  | .non :: _, _, e => by simp [asInts] at e
  | .bl _ :: _, _, e => by simp [asInts] at e
  | .str _ :: _, _, e => by simp [asInts] at e
  | .ref _ :: _, _, e => by simp [asInts] at e
  | .tup _ :: _, _, e => by simp [asInts] at e
theorem asBools_eq : ∀ {xs : List MV} {ns : List Bool}, asBools xs = some ns → xs = ns.map MV.bl
  | [], _, e => by simp only [asBools] at e; cases e; rfl
  | .bl i :: r, _, e => by
    simp only [asBools] at e
    split at e
    · rename_i is q
      cases e
      rw [asBools_eq q]; rfl
    · cases e
  | .non :: _, _, e => by simp [asBools] at e
  | .int _ :: _, _, e => by simp [asBools] at e
  | .str _ :: _, _, e => by simp [asBools] at e
  | .ref _ :: _, _, e => by simp [asBools] at e
  | .tup _ :: _, _, e => by simp [asBools] at e
@[simp] theorem asInts_map (ns : List Int) : asInts (ns.map MV.int) = some ns := by
  induction ns with
  | nil => rfl
  | cons i r ih => simp [asInts, ih]
@[simp] theorem asBools_map (ns : List Bool) : asBools (ns.map MV.bl) = some ns := by
  induction ns with
  | nil => rfl
  | cons i r ih => simp [asBools, ih]
theorem IsVs.ints {K : KC} {φ : List Addr} {H : Hp} : ∀ {ns : List Int} {vs : List V}, IsVs K φ H (ns.map MV.int) vs → vs = ns.map V.int
  | [], _, .nil => rfl
  | _ :: _, _, .cons (.int _) t => by rw [IsVs.ints t]; rfl
theorem IsVs.bools {K : KC} {φ : List Addr} {H : Hp} : ∀ {ns : List Bool} {vs : List V}, IsVs K φ H (ns.map MV.bl) vs → vs = ns.map V.bl
  | [], _, .nil => rfl
  | _ :: _, _, .cons (.bl _) t => by rw [IsVs.bools t]; rfl
/-- the items of a list (no tuple) -/
def listOf (h : MH) : MV → Option (List MV)
  | .ref n => itemsOf h (.ref n)
  | _ => none
theorem list_of {K : KC} {φ : List Addr} {H : Hp} {h : MH} {x : MV} {u : V} {xs : List MV} (hr : HR K φ H h) (t : IsV K φ H x u) (e : listOf h x = some xs) : ∃ a vs, u = .ref a ∧ SqL K H a vs ∧ IsVs K φ H xs vs := by
  cases t with
  | @ref n a ea =>
    simp only [listOf, itemsOf] at e
    cases q : h[n]? with
    | none => simp only [q] at e; cases e
    | some ob =>
      have w := hr.at_ n a ob ea q
      cases ob with
      | lst ys => simp only [q] at e; cases e; obtain ⟨_, vs, e1, t1⟩ := w; exact ⟨a, vs, rfl, SqL.of e1, t1⟩
      | frz ys => simp only [q] at e; cases e; obtain ⟨_, ob, vs, e1, t1⟩ := w; exact ⟨a, vs, rfl, .inl (.inr ⟨ob, e1⟩), t1⟩
      | _ => simp only [q] at e; cases e
  | _ => cases e
def maxL : Int → List Int → Int
  | m, [] => m
  | m, x :: r => maxL (if m < x then x else m) r
def minL : Int → List Int → Int
  | m, [] => m
  | m, x :: r => minL (if x < m then x else m) r
theorem maxL_spec : ∀ (r : List Int) (m : Int), (maxL m r = m ∨ maxL m r ∈ r) ∧ m ≤ maxL m r ∧ ∀ y ∈ r, y ≤ maxL m r
  | [], m => ⟨.inl rfl, Int.le_refl _, fun _ h => by cases h⟩
  | x :: r, m => by
    obtain ⟨h1, h2, h3⟩ := maxL_spec r (if m < x then x else m)
    unfold maxL
    refine ⟨?_, ?_, fun y hy => ?_⟩
    · rcases h1 with h1 | h1
      · rw [h1]
        split
        · exact .inr (List.mem_cons_self ..)
        · exact .inl rfl
      · exact .inr (List.mem_cons_of_mem _ h1)
    · refine Int.le_trans ?_ h2
      split <;> omega
    · rcases List.mem_cons.mp hy with e | e
      · subst e
        refine Int.le_trans ?_ h2
        split <;> omega
      · exact h3 y e
theorem minL_spec : ∀ (r : List Int) (m : Int), (minL m r = m ∨ minL m r ∈ r) ∧ minL m r ≤ m ∧ ∀ y ∈ r, minL m r ≤ y
  | [], m => ⟨.inl rfl, Int.le_refl _, fun _ h => by cases h⟩
  | x :: r, m => by
    obtain ⟨h1, h2, h3⟩ := minL_spec r (if x < m then x else m)
    unfold minL
    refine ⟨?_, ?_, fun y hy => ?_⟩
    · rcases h1 with h1 | h1
      · rw [h1]
        split
        · exact .inr (List.mem_cons_self ..)
        · exact .inl rfl
      · exact .inr (List.mem_cons_of_mem _ h1)
    · refine Int.le_trans h2 ?_
      split <;> omega
    · rcases List.mem_cons.mp hy with e | e
      · subst e
        refine Int.le_trans h2 ?_
        split <;> omega
      · exact h3 y e
def fMax : List MV → MH → R MV := fun xs h => match xs with
  | [.int i, .int j] => .ok (.int (if j > i then j else i)) h
  | [x] => match (listOf h x).bind asInts with
    | some (m :: r) => .ok (.int (maxL m r)) h
    | _ => .bad
  | _ => .bad
def fMin : List MV → MH → R MV := fun xs h => match xs with
  | [.int i, .int j] => .ok (.int (if j < i then j else i)) h
  | [x] => match (listOf h x).bind asInts with
    | some (m :: r) => .ok (.int (minL m r)) h
    | _ => .bad
  | _ => .bad
def rMaxU (K : PySem.W.Frag) : List V → Hp → VK → Prop := fun xs H Q => (∃ i j, xs = [.int i, .int j] ∧ Q (.int (if j > i then j else i)) H) ∨ rMax K xs H Q
def rMinU (K : PySem.W.Frag) : List V → Hp → VK → Prop := fun xs H Q => (∃ i j, xs = [.int i, .int j] ∧ Q (.int (if j < i then j else i)) H) ∨ rMin K xs H Q
theorem call_maxU (hc : X.calm = true) : CallR X (.builtin "max") (rMaxU X.K) := (call_max2 hc).or (cr_max hc)
theorem call_minU (hc : X.calm = true) : CallR X (.builtin "min") (rMinU X.K) := (call_min2 hc).or (cr_min hc)
theorem ints_of {K : KC} {φ : List Addr} {H : Hp} {h : MH} {x : MV} {u : V} {ns : List Int} (hr : HR K φ H h) (t : IsV K φ H x u) (e : (listOf h x).bind asInts = some ns) : ∃ a, u = .ref a ∧ SqL K H a (ns.map V.int) := by
  cases q : listOf h x with
  | none => rw [q] at e; cases e
  | some ys =>
    rw [q] at e
    have e2 := asInts_eq (show asInts ys = some ns from e)
    subst e2
    obtain ⟨a, vs, rfl, hs, ts⟩ := list_of hr t q
    exact ⟨a, rfl, by rw [← ts.ints]; exact hs⟩
theorem cs_max : CallF (kc X) (rMaxU X.K) fMax := by
  intro Z φ H h xs us Q hr t o
  unfold fMax at o
  split at o
  · rename_i i j
    obtain ⟨u, v, rfl, t1, t2⟩ := two_of t
    cases t1; cases t2
    exact .inl ⟨i, j, rfl, OkG.ok_here o hr (.int _)⟩
  · rename_i x
    obtain ⟨u, rfl, t1⟩ := one_of t
    split at o
    · rename_i m r q
      obtain ⟨a, rfl, hs⟩ := ints_of hr t1 q
      refine .inr ⟨a, m :: r, rfl, hs, by simp, fun k hk hm => ?_⟩
      obtain ⟨h1, h2, h3⟩ := maxL_spec r m
      have e : k = maxL m r := by
        refine Int.le_antisymm ?_ (hm _ ?_)
        · rcases List.mem_cons.mp hk with z | z
          · rw [z]; exact h2
          · exact h3 k z
        · rcases h1 with z | z
          · rw [z]; exact List.mem_cons_self ..
          · exact List.mem_cons_of_mem _ z
      rw [e]
      exact OkG.ok_here o hr (.int _)
    · exact o.elim
  · exact o.elim
theorem cs_min : CallF (kc X) (rMinU X.K) fMin := by
  intro Z φ H h xs us Q hr t o
  unfold fMin at o
  split at o
  · rename_i i j
    obtain ⟨u, v, rfl, t1, t2⟩ := two_of t
    cases t1; cases t2
    exact .inl ⟨i, j, rfl, OkG.ok_here o hr (.int _)⟩
  · rename_i x
    obtain ⟨u, rfl, t1⟩ := one_of t
    split at o
    · rename_i m r q
      obtain ⟨a, rfl, hs⟩ := ints_of hr t1 q
      refine .inr ⟨a, m :: r, rfl, hs, by simp, fun k hk hm => ?_⟩
      obtain ⟨h1, h2, h3⟩ := minL_spec r m
      have e : k = minL m r := by
        refine Int.le_antisymm (hm _ ?_) ?_
        · rcases h1 with z | z
          · rw [z]; exact List.mem_cons_self ..
          · exact List.mem_cons_of_mem _ z
        · rcases List.mem_cons.mp hk with z | z
          · rw [z]; exact h2
          · exact h3 k z
      rw [e]
      exact OkG.ok_here o hr (.int _)
    · exact o.elim
  · exact o.elim
def fSum : List MV → MH → R MV := fun xs h => match xs with
  | [x] => match (listOf h x).bind asInts with
    | some ns => .ok (.int ns.sum) h
    | _ => .bad
  | _ => .bad
theorem cs_sum : CallF (kc X) (rSum X.K) fSum := by
  intro Z φ H h xs us Q hr t o
  unfold fSum at o
  split at o
  · rename_i x
    obtain ⟨u, rfl, t1⟩ := one_of t
    split at o
    · rename_i ns q
      obtain ⟨a, rfl, hs⟩ := ints_of hr t1 q
      exact ⟨a, ns, rfl, hs, OkG.ok_here o hr (.int _)⟩
    · exact o.elim
  · exact o.elim
theorem bools_of {K : KC} {φ : List Addr} {H : Hp} {h : MH} {x : MV} {u : V} {ns : List Bool} (hr : HR K φ H h) (t : IsV K φ H x u) (e : (listOf h x).bind asBools = some ns) : ∃ a, u = .ref a ∧ SqL K H a (ns.map V.bl) := by
  cases q : listOf h x with
  | none => rw [q] at e; cases e
  | some ys =>
    rw [q] at e
    have e2 := asBools_eq (show asBools ys = some ns from e)
    subst e2
    obtain ⟨a, vs, rfl, hs, ts⟩ := list_of hr t q
    exact ⟨a, rfl, by rw [← ts.bools]; exact hs⟩
def fAny : List MV → MH → R MV := fun xs h => match xs with
  | [x] => match (listOf h x).bind asBools with
    | some ns => .ok (.bl (ns.any id)) h
    | _ => .bad
  | _ => .bad
def fAll : List MV → MH → R MV := fun xs h => match xs with
  | [x] => match (listOf h x).bind asBools with
    | some ns => .ok (.bl (ns.all id)) h
    | _ => .bad
  | _ => .bad
theorem cs_any : CallF (kc X) (rAny X.K) fAny := by
  intro Z φ H h xs us Q hr t o
  unfold fAny at o
  split at o
  · rename_i x
    obtain ⟨u, rfl, t1⟩ := one_of t
    split at o
    · rename_i ns q
      obtain ⟨a, rfl, hs⟩ := bools_of hr t1 q
      exact ⟨a, ns, rfl, hs, OkG.ok_here o hr (.bl _)⟩
    · exact o.elim
  · exact o.elim
theorem cs_all : CallF (kc X) (rAll X.K) fAll := by
  intro Z φ H h xs us Q hr t o
  unfold fAll at o
  split at o
  · rename_i x
    obtain ⟨u, rfl, t1⟩ := one_of t
    split at o
    · rename_i ns q
      obtain ⟨a, rfl, hs⟩ := bools_of hr t1 q
      exact ⟨a, ns, rfl, hs, OkG.ok_here o hr (.bl _)⟩
    · exact o.elim
  · exact o.elim
def fTuple : List MV → MH → R MV := fun xs h => match xs with
  | [.tup ys] => .ok (.tup ys) h
  | [x] => match listOf h x with
    | some ys => .ok (.tup ys) h
    | none => .bad
  | _ => .bad
theorem cs_tuple : CallF (kc X) (fun xs H Q => ∃ p ys, xs = [.ref p] ∧ ((SqL X.K H p ys ∧ ∀ l, H l = none → Q (.ref l) (upd H l (.tup ys))) ∨ (SqT X.K H p ys ∧ Q (.ref p) H))) fTuple := by
  intro Z φ H h xs us Q hr t o
  unfold fTuple at o
  split at o
  · rename_i ys
    obtain ⟨u, rfl, t1⟩ := one_of t
    cases t1 with
    | @tup p vs _ hq ts => exact ⟨p, vs, rfl, .inr ⟨hq, OkG.ok_here o hr (.tup hq ts)⟩⟩
  · rename_i x _
    obtain ⟨u, rfl, t1⟩ := one_of t
    split at o
    · rename_i ys q
      obtain ⟨a, vs, rfl, hs, ts⟩ := list_of hr t1 q
      exact ⟨a, vs, rfl, .inl ⟨hs, fun l hl => tup_ok hr ts hl o⟩⟩
    · exact o.elim
  · exact o.elim
def fList : List MV → MH → R MV := fun xs h => match xs with
  | [x] => match itemsOf h x with
    | some ys => if ys.length ≤ cap then .ok (.ref h.length) (h ++ [.lst ys]) else .bad
    | none => .bad
  | _ => .bad
theorem cs_list : CallF (kc X) (fun xs H Q => ∃ p ys, xs = [.ref p] ∧ (SqL X.K H p ys ∨ SqT X.K H p ys) ∧ ∀ l, H l = none → Q (.ref l) (upd H l (.lst ys))) fList := by
  intro Z φ H h xs us Q hr t o
  unfold fList at o
  split at o
  · rename_i x
    obtain ⟨u, rfl, t1⟩ := one_of t
    split at o
    · rename_i ys q
      split at o
      · rename_i hl
        obtain ⟨a, vs, rfl, hs, ts⟩ := seq_of hr t1 q
        exact ⟨a, vs, rfl, hs.symm, fun l hn => lay_ok hr ts hl hn o⟩
      · exact o.elim
    · exact o.elim
  · exact o.elim
def fInt : List MV → MH → R MV := fun xs h => match xs with
  | [.int i] => .ok (.int i) h
  | [.bl b] => .ok (.int (if b then 1 else 0)) h
  | _ => .bad
theorem cs_int : CallF (kc X) (fun xs H Q => (∃ i, xs = [.int i] ∧ Q (.int i) H) ∨ ∃ k, xs = [.bl k] ∧ Q (.int (if k then 1 else 0)) H) fInt := by
  intro Z φ H h xs us Q hr t o
  unfold fInt at o
  split at o
  · rename_i i
    obtain ⟨u, rfl, t1⟩ := one_of t
    cases t1
    exact .inl ⟨i, rfl, OkG.ok_here o hr (.int _)⟩
  · rename_i b
    obtain ⟨u, rfl, t1⟩ := one_of t
    cases t1
    exact .inr ⟨b, rfl, OkG.ok_here o hr (.int _)⟩
  · exact o.elim
def fAbs : List MV → MH → R MV := fun xs h => match xs with
  | [.int i] => .ok (.int (if i < 0 then -i else i)) h
  | _ => .bad
theorem cs_abs : CallF (kc X) (fun xs H Q => ∃ i, xs = [.int i] ∧ Q (.int (if i < 0 then -i else i)) H) fAbs := by
  intro Z φ H h xs us Q hr t o
  unfold fAbs at o
  split at o
  · rename_i i
    obtain ⟨u, rfl, t1⟩ := one_of t
    cases t1
    exact ⟨i, rfl, OkG.ok_here o hr (.int _)⟩
  · exact o.elim

/-! ### isinstance of a built-in type -/
inductive TK where | int | bool | str | tuple | list | dict
  deriving DecidableEq
def TK.name : TK → String
  | .int => "int" | .bool => "bool" | .str => "str" | .tuple => "tuple" | .list => "list" | .dict => "dict"
def isT (t : TK) (h : MH) : MV → Option Bool
  | .non => some false
  | .bl _ => some (match t with | .int => true | .bool => true | _ => false)
  | .int _ => some (match t with | .int => true | _ => false)
  | .str _ => some (match t with | .str => true | _ => false)
  | .tup _ => some (match t with | .tuple => true | _ => false)
  | .ref n => match h[n]? with
    | some (.lst _) => some (match t with | .list => true | _ => false)
    | some (.frz _) => some (match t with | .list => true | _ => false)
    | _ => none
theorem kit_all : ∀ t : TK, kitB "NoneType" t.name = some false ∧ kitB "bool" t.name = some (match t with | .int => true | .bool => true | _ => false) ∧ kitB "int" t.name = some (match t with | .int => true | _ => false) ∧
    kitB "str" t.name = some (match t with | .str => true | _ => false) ∧ kitB "tuple" t.name = some (match t with | .tuple => true | _ => false) ∧ kitB "list" t.name = some (match t with | .list => true | _ => false) := by
  intro t
  cases t <;> decide +kernel
theorem isT_ok {K : KC} {φ : List Addr} {H : Hp} {h : MH} {x : MV} {u : V} {t : TK} {b : Bool} (hr : HR K φ H h) (tx : IsV K φ H x u) (e : isT t h x = some b) : ∃ T, TyX K H u (.type T) ∧ kitB T t.name = some b := by
  obtain ⟨k1, k2, k3, k4, k5, k6⟩ := kit_all t
  cases tx with
  | non => simp only [isT] at e; exact ⟨"NoneType", .base .non, k1.trans e⟩
  | bl y => simp only [isT] at e; exact ⟨"bool", .base (.bl y), k2.trans e⟩
  | int y => simp only [isT] at e; exact ⟨"int", .base (.int y), k3.trans e⟩
  | str y => simp only [isT] at e; exact ⟨"str", .base (.str y), k4.trans e⟩
  | tup hq ts =>
    simp only [isT] at e
    refine ⟨"tuple", ?_, k5.trans e⟩
    rcases hq with (hq | ⟨o, hq⟩) | ⟨o, its, n, hl, hc, _⟩
    · exact .base (.tup hq)
    · exact .fTuple hq
    · exact .kTuple hl hc
  | @ref n a ea =>
    simp only [isT] at e
    cases q : h[n]? with
    | none => simp only [q] at e; cases e
    | some ob =>
      have w := hr.at_ n a ob ea q
      cases ob with
      | lst ys => simp only [q] at e; obtain ⟨_, vs, e1, _⟩ := w; exact ⟨"list", .base (.lst e1), k6.trans e⟩
      | frz ys => simp only [q] at e; obtain ⟨_, o', vs, e1, _⟩ := w; exact ⟨"list", .base (.frz e1), k6.trans e⟩
      | _ => simp only [q] at e; cases e
def mIsi (t : TK) (m : ME) : ME := fun env h => (m env h).bind fun x h1 => match isT t h1 x with
  | some b => .ok (.bl b) h1
  | none => .bad
theorem se_isi {p p2 : Pos} {T : Str} (t : TK) (hg : Gl X "isinstance") (hm : X.mg "isinstance" = none) (hg2 : Gl X T) (hm2 : X.mg T = none) (hv2 : bootBuiltins T = some (.type t.name)) (ha : PE X a (tE (kc X) W ma)) (hn2 : T ≠ "__name__" := by decide) (hd2 : (T == ("__debug__" : Str)) = false := by decide)
    (he : starEach [a, .Name T p2] X.env = (false, eval a X.env) :: starEach [.Name T p2] X.env := by rfl) (he2 : starEach [.Name T p2] X.env = (false, eval (.Name T p2) X.env) :: starEach [] X.env := by rfl) (hpl : (backTo pos (starEach [.Name T p2] X.env)).any (·.1) = false := by rfl) :
    PE X (.Call (.Name "isinstance" p) [a, .Name T p2] [] pos) (tE (kc X) W (mIsi t ma)) :=
  (pe_callB call_isi hg hm boot_isinstance (pa_cons ha (pa_cons (pe_bltn (v := .ty t.name) hg2 hm2 hv2 rfl hn2 hd2) pa_nil he2) he) (by decide) (by decide) he hpl).imp fun σ H Q => by
  rintro ⟨φ, env, h, hr, er, o⟩
  refine tG_step hr er o fun φ1 H1 h1 x u k1 hr1 er1 t1 o1 => ?_
  cases q : isT t h1 x with
  | none => simp only [q] at o1; exact o1.elim
  | some b =>
    simp only [q] at o1
    obtain ⟨T', ty, kb⟩ := isT_ok hr1 t1 q
    exact ⟨u, _, _, _, b, rfl, .ty t.name, ty, kit_ty kb, OkG.ok_here o1 hr1 (.bl b)⟩
end
end Mv

set_option maxHeartbeats 4000000
namespace Mv
open PySem PySem.Spec L2
open PyProof.Rows hiding St

/-! ### methods of lists -/
section
variable {X : Cx} {W : WT} {pos : Pos} {a b c : Expr} {ma mb mc : ME} {es : List Expr} {mr : MA}
/-- o.m(e, ..), o a list -/
def mLm (f : MV → List MV → MH → R MV) (mo : ME) (mr : MA) : ME := fun env h => (mo env h).bind fun x h1 => match listOf h1 x with
  | some _ => (mr env h1).bind fun xs h2 => f x xs h2
  | none => .bad
def MethF (K : KC) (r : V → List V → Hp → VK → Prop) (f : MV → List MV → MH → R MV) : Prop := ∀ (Z : XW) φ H h x xs u us Q, HR K φ H h → IsV K φ H x u → IsVs K φ H xs us → OkG K (IsV K) Z φ H (f x xs h) Q → r u us H Q
theorem tLm_of {r : V → List V → Hp → VK → Prop} {f : MV → List MV → MH → R MV} {K : KC} (hs : MethF K r f) {σ : St} {H : Hp} {Q : VK} (o : tE K W (mLm f ma mr) σ H Q) : tBM K "list" r (tE K W ma) (tA K W mr) σ H Q := by
  obtain ⟨φ, env, h, hr, er, o⟩ := o
  refine tG_step hr er o fun φ1 H1 h1 x u k1 hr1 er1 t1 o1 => ?_
  split at o1
  · rename_i xs0 q
    obtain ⟨p, vs, rfl, hl, ts⟩ := list_of hr1 t1 q
    refine ⟨.inl ⟨rfl, vs, hl⟩, tG_step hr1 er1 o1 fun φ2 H2 h2 xs us k2 hr2 er2 t2 o2 => ?_⟩
    exact hs _ φ2 H2 h2 x xs _ us Q hr2 (t1.keep k2) t2 o2
  · exact o1.elim
def fAppend : MV → List MV → MH → R MV := fun x xs h => match x, xs with
  | .ref n, [y] => match lstOf h n with
    | some ys => if ys.length < cap then .ok .non (h.set n (.lst (ys ++ [y]))) else .bad
    | none => .bad
  | _, _ => .bad
theorem ms_append : MethF (kc X) rAppend fAppend := by
  intro Z φ H h x xs u us Q hr t ts o
  cases t with
  | @ref n p ea =>
    unfold fAppend at o
    split at o
    · rename_i n' y e
      cases e
      obtain ⟨v, rfl, tv⟩ := one_of ts
      split at o
      · rename_i ys q
        split at o
        · rename_i hl
          obtain ⟨e1, vs, e2, t2⟩ := lst_of hr ea q
          refine ⟨p, vs, v, rfl, rfl, e2, by rw [t2.length]; exact cap_lt (Nat.le_of_lt hl), ?_⟩
          exact o φ _ .non (Keep.put (List.mem_of_getElem? ea) e2) (hr.put ea e1 e2 (by simp; exact cap_lt (Nat.le_of_lt hl)) (t2.append (.cons tv .nil))) .non
        · exact o.elim
      · exact o.elim
    · exact o.elim
  | _ => exact o.elim
theorem se_append {apos cpos : Pos} (ho : PE X a (tE (kc X) W ma)) (ha : PA X (b :: es) (tA (kc X) W mr))
    (hbase : attributeBase a "append" X.env (eval a X.env) = eval a X.env := by rfl)
    (hfew : ((backTo cpos (starEach (b :: es) X.env)).all (fun x => !x.1) && (backToKw cpos (keywordEach [] X.env)).all (fun x => x.1.isSome)
      && decide ((b :: es).length + ([] : List Keyword).length + (if ([] : List Keyword).isEmpty then 0 else 1) < 30)) = true := by rfl)
    (hline : (apos.endLine == cpos.line) = true := by rfl) (hs : starEach (b :: es) X.env = (false, eval b X.env) :: starEach es X.env := by rfl) (hplain : (backTo cpos (starEach es X.env)).any (·.1) = false := by rfl) :
    PE X (.Call (.Attribute a "append" apos) (b :: es) [] cpos) (tE (kc X) W (mLm fAppend ma mr)) :=
  (pe_bm PySem.F.plainAttrs_list PySem.F.slot_list_append PySem.F.type_list_append mt_append ho ha hbase hfew hline hs hplain).imp fun _ _ _ o => tLm_of ms_append o
end

/-! ### iterators -/
inductive Nx where
  | item (x : MV) | stop | bad
abbrev MIt := Nat → MH → Nx
structure WalksM (K : KC) (J : It) (it : MIt) (φ0 : List Addr) (H0 : Hp) : Prop where
  go : ∀ φ H h i x, Keep φ0 H0 φ H → HR K φ H h → it i h = .item x → J.go i H ∧ ∀ u H', J.yld i H u H' → Keep φ H φ H' ∧ HR K φ H' h ∧ IsV K φ H' x u
  stop : ∀ φ H h i, Keep φ0 H0 φ H → HR K φ H h → it i h = .stop → J.stop i H
abbrev MI := MEnv → MH → R MIt
def isI (K : KC) : List Addr → Hp → MIt → It → Prop := fun φ H it J => WalksM K J it φ H
abbrev tI (K : KC) (W : WT) (m : MI) : TI := tG K (isI K) W m
def nxOf : Option MV → Nx
  | some x => .item x
  | none => .stop
def itL (n : Nat) : MIt := fun i h => match itemsOf h (.ref n) with
  | some xs => nxOf xs[i]?
  | none => .bad
def itT (xs : List MV) : MIt := fun i _ => nxOf xs[i]?
def itR (lo c : Int) (n : Nat) : MIt := fun i _ => if i < n then .item (.int (lo + (i : Nat) * c)) else .stop
/-- (i, x) for x in a list, in a tuple -/
def itE (it : MIt) : MIt := fun i h => match it i h with
  | .item x => .item (.tup [.int (i : Nat), x])
  | r => r
def itZ (it jt : MIt) : MIt := fun i h => match it i h, jt i h with
  | .item x, .item y => .item (.tup [x, y])
  | .bad, _ => .bad
  | _, .bad => .bad
  | _, _ => .stop
theorem nx_item {xs : List MV} {i : Nat} {x : MV} (e : nxOf xs[i]? = .item x) : xs[i]? = some x := by
  cases q : xs[i]? with
  | none => rw [q] at e; cases e
  | some y => rw [q] at e; cases e; rfl
theorem nx_stop {xs : List MV} {i : Nat} (e : nxOf xs[i]? = .stop) : xs.length ≤ i := by
  cases q : xs[i]? with
  | none => exact List.getElem?_eq_none_iff.mp q
  | some y => rw [q] at e; cases e
section
variable {K : KC} {φ0 : List Addr} {H0 : Hp}
theorem items_list {φ : List Addr} {H : Hp} {h : MH} {n : Nat} {a : Addr} {xs : List MV} (hr : HR K φ H h) (ea : φ[n]? = some a) (e : itemsOf h (.ref n) = some xs) : ∃ vs, SqL K H a vs ∧ IsVs K φ H xs vs := by
  obtain ⟨a', vs, e1, hs, ts⟩ := list_of (x := .ref n) (u := .ref a) hr (.ref ea) e
  cases e1
  exact ⟨vs, hs, ts⟩
/-- one list at an address -/
theorem SqL.one {φ : List Addr} {H : Hp} {h : MH} {n : Nat} {a : Addr} {xs : List MV} {vs ws : List V} (hr : HR K φ H h) (ea : φ[n]? = some a) (e : itemsOf h (.ref n) = some xs) (hs : SqL K H a vs) (hw : SqL K H a ws) (ts : IsVs K φ H xs vs) : True := trivial
theorem walksL {n : Nat} {a : Addr} (ea : φ0[n]? = some a) : WalksM K (Itl K a) (itL n) φ0 H0 := by
  constructor
  · intro φ H h i x k hr e
    unfold itL at e
    split at e
    · rename_i xs q
      obtain ⟨vs, hs, ts⟩ := items_list hr (k.get ea) q
      obtain ⟨v, e1, t⟩ := ts.get (nx_item e)
      refine ⟨⟨vs, v, hs, e1⟩, fun u H' y => ?_⟩
      obtain ⟨rfl, y⟩ := y
      have e2 := y vs hs
      rw [e1] at e2
      cases e2
      exact ⟨Keep.refl, hr, t⟩
    · cases e
  · intro φ H h i k hr e
    unfold itL at e
    split at e
    · rename_i xs q
      obtain ⟨vs, hs, ts⟩ := items_list hr (k.get ea) q
      exact ⟨vs, hs, by rw [ts.length]; exact nx_stop e⟩
    · cases e
theorem walksT {xs : List MV} {vs : List V} {a : Addr} (ha : SqT K H0 a vs) (ts : IsVs K φ0 H0 xs vs) : WalksM K (Itt K a) (itT xs) φ0 H0 := by
  constructor
  · intro φ H h i x k hr e
    obtain ⟨v, e1, t⟩ := (ts.keep k).get (nx_item e)
    refine ⟨⟨vs, v, k.sqT ha, e1⟩, fun u H' y => ?_⟩
    obtain ⟨rfl, y⟩ := y
    have e2 := y vs (k.sqT ha)
    rw [e1] at e2
    cases e2
    exact ⟨Keep.refl, hr, t⟩
  · intro φ H h i k hr e
    exact ⟨vs, k.sqT ha, by rw [ts.length]; exact nx_stop e⟩
theorem walksR {lo : Int} {n : Nat} : WalksM K (Itr lo n) (itR lo 1 n) φ0 H0 := by
  constructor
  · intro φ H h i x k hr e
    unfold itR at e
    split at e
    · rename_i hi
      cases e
      refine ⟨hi, fun u H' y => ?_⟩
      obtain ⟨rfl, rfl⟩ := y
      refine ⟨Keep.refl, hr, ?_⟩
      rw [Int.mul_one]
      exact .int _
    · cases e
  · intro φ H h i k hr e
    unfold itR at e
    split at e
    · cases e
    · rename_i hi
      exact Nat.le_of_not_lt hi
theorem walksC {lo c : Int} {n : Nat} : WalksM K (Itc lo c n) (itR lo c n) φ0 H0 := by
  constructor
  · intro φ H h i x k hr e
    unfold itR at e
    split at e
    · rename_i hi
      cases e
      refine ⟨hi, fun u H' y => ?_⟩
      obtain ⟨rfl, rfl⟩ := y
      exact ⟨Keep.refl, hr, .int _⟩
    · cases e
  · intro φ H h i k hr e
    unfold itR at e
    split at e
    · cases e
    · rename_i hi
      exact Nat.le_of_not_lt hi
theorem walksE {n : Nat} {a : Addr} (ea : φ0[n]? = some a) : WalksM K (Ite K a) (itE (itL n)) φ0 H0 := by
  constructor
  · intro φ H h i x k hr e
    unfold itE at e
    cases q0 : itL n i h with
    | item y =>
      simp only [q0] at e
      cases e
      unfold itL at q0
      split at q0
      · rename_i xs q
        obtain ⟨vs, hs, ts⟩ := items_list hr (k.get ea) q
        obtain ⟨v, e1, t⟩ := ts.get (nx_item q0)
        refine ⟨⟨vs, v, hs, e1⟩, fun u H' z => ?_⟩
        obtain ⟨T, x', rfl, hT, rfl, z⟩ := z
        have e2 := z vs hs
        rw [e1] at e2
        cases e2
        exact ⟨Keep.new hT, hr.new hT, .tup (SqT.of upd_same) (.cons (.int _) (.cons (t.keep (Keep.new hT)) .nil))⟩
      · cases q0
    | stop => simp only [q0] at e; cases e
    | bad => simp only [q0] at e; cases e
  · intro φ H h i k hr e
    unfold itE at e
    cases q0 : itL n i h with
    | item y => simp only [q0] at e; cases e
    | stop =>
      unfold itL at q0
      split at q0
      · rename_i xs q
        obtain ⟨vs, hs, ts⟩ := items_list hr (k.get ea) q
        exact ⟨vs, hs, by rw [ts.length]; exact nx_stop q0⟩
      · cases q0
    | bad => simp only [q0] at e; cases e
theorem walksZ {n m : Nat} {a b : Addr} (ea : φ0[n]? = some a) (eb : φ0[m]? = some b) : WalksM K (Itz K a b) (itZ (itL n) (itL m)) φ0 H0 := by
  have ok : ∀ φ H h i, Keep φ0 H0 φ H → HR K φ H h → itZ (itL n) (itL m) i h ≠ .bad → ∃ xs ys vs ws, itL n i h = nxOf xs[i]? ∧ itL m i h = nxOf ys[i]? ∧ SqL K H a vs ∧ IsVs K φ H xs vs ∧ SqL K H b ws ∧ IsVs K φ H ys ws := by
    intro φ H h i k hr e
    cases q1 : itemsOf h (.ref n) with
    | none =>
      have z : itL n i h = .bad := by unfold itL; rw [q1]
      exact absurd (by unfold itZ; rw [z]) e
    | some xs =>
      have z1 : itL n i h = nxOf xs[i]? := by unfold itL; rw [q1]
      cases q2 : itemsOf h (.ref m) with
      | none =>
        have z : itL m i h = .bad := by unfold itL; rw [q2]
        exact absurd (by unfold itZ; rw [z]; cases itL n i h <;> rfl) e
      | some ys =>
        have z2 : itL m i h = nxOf ys[i]? := by unfold itL; rw [q2]
        obtain ⟨vs, hs, ts⟩ := items_list hr (k.get ea) q1
        obtain ⟨ws, hs2, ts2⟩ := items_list hr (k.get eb) q2
        exact ⟨xs, ys, vs, ws, z1, z2, hs, ts, hs2, ts2⟩
  constructor
  · intro φ H h i x k hr e
    obtain ⟨xs, ys, vs, ws, z1, z2, hs, ts, hs2, ts2⟩ := ok φ H h i k hr (by rw [e]; intro z; cases z)
    unfold itZ at e
    rw [z1, z2] at e
    cases g1 : xs[i]? with
    | none =>
      rw [g1] at e
      cases g2 : ys[i]? <;> (rw [g2] at e; cases e)
    | some x1 =>
      cases g2 : ys[i]? with
      | none => rw [g1, g2] at e; cases e
      | some y1 =>
        rw [g1, g2] at e
        cases e
        obtain ⟨v, e1, t⟩ := ts.get g1
        obtain ⟨w, e2, t2⟩ := ts2.get g2
        refine ⟨⟨vs, ws, v, w, hs, hs2, e1, e2⟩, fun u H' z => ?_⟩
        obtain ⟨T, x', y', rfl, hT, rfl, p1, p2⟩ := z
        have f1 := p1 vs hs
        have f2 := p2 ws hs2
        rw [e1] at f1; cases f1
        rw [e2] at f2; cases f2
        exact ⟨Keep.new hT, hr.new hT, .tup (SqT.of upd_same) (.cons (t.keep (Keep.new hT)) (.cons (t2.keep (Keep.new hT)) .nil))⟩
  · intro φ H h i k hr e
    obtain ⟨xs, ys, vs, ws, z1, z2, hs, ts, hs2, ts2⟩ := ok φ H h i k hr (by rw [e]; intro z; cases z)
    unfold itZ at e
    rw [z1, z2] at e
    refine ⟨vs, ws, hs, hs2, ?_⟩
    rw [ts.length, ts2.length]
    cases g1 : xs[i]? with
    | none => exact .inl (List.getElem?_eq_none_iff.mp g1)
    | some x1 =>
      cases g2 : ys[i]? with
      | none => exact .inr (List.getElem?_eq_none_iff.mp g2)
      | some y1 => rw [g1, g2] at e; cases e
end
section
variable {X : Cx} {W : WT} {pos : Pos} {a b c : Expr} {ma mb mc : ME} {es : List Expr} {mr : MA} {tg : Expr}
theorem _root_.L2.PI.or {e : Expr} {t t' : TI} (h : PI X tg e t) (h' : PI X tg e t') : PI X tg e (fun σ H R => t σ H R ∨ t' σ H R) := ⟨fun pins s σ H R I q => q.elim (fun q => h.run pins s σ H R I q) fun q => h'.run pins s σ H R I q⟩
def mItL (m : ME) : MI := fun env h => (m env h).bind fun x h1 => match x with
  | .ref n => .ok (itL n) h1
  | _ => .bad
def mItT (m : ME) : MI := fun env h => (m env h).bind fun x h1 => match x with
  | .tup xs => .ok (itT xs) h1
  | _ => .bad
/-- a list is walked (at the start it is one) -/
theorem si_list (ha : PE X a (tE (kc X) W ma)) : PI X tg a (tI (kc X) W (fun env h => (ma env h).bind fun x h1 => match listOf h1 x, x with
  | some _, .ref n => .ok (itL n) h1
  | _, _ => .bad)) := (pi_list ha).imp fun σ H R => by
  rintro ⟨φ, env, h, hr, er, o⟩
  refine tG_step hr er o fun φ1 H1 h1 x u k1 hr1 er1 t1 o1 => ?_
  cases t1 with
  | @ref n p ea =>
    cases q : listOf h1 (.ref n) with
    | none => simp only [q] at o1; exact o1.elim
    | some xs =>
      simp only [q] at o1
      obtain ⟨p', vs, e1, hs, ts⟩ := list_of (x := .ref n) (u := .ref p) hr1 (.ref ea) q
      cases e1
      exact ⟨p, rfl, ⟨vs, hs⟩, OkG.ok_here o1 hr1 (walksL ea)⟩
  | _ => simp only [listOf] at o1; exact o1.elim
theorem si_tup (ha : PE X a (tE (kc X) W ma)) : PI X tg a (tI (kc X) W (mItT ma)) := (pi_tup ha).imp fun σ H R => by
  rintro ⟨φ, env, h, hr, er, o⟩
  refine tG_step hr er o fun φ1 H1 h1 x u k1 hr1 er1 t1 o1 => ?_
  cases t1 with
  | @tup p vs xs hq ts => exact ⟨p, rfl, ⟨vs, hq⟩, OkG.ok_here o1 hr1 (walksT hq ts)⟩
  | _ => exact o1.elim
/-- a list or a tuple -/
def mItV (m : ME) : MI := fun env h => (m env h).bind fun x h1 => match x with
  | .tup xs => .ok (itT xs) h1
  | .ref n => match itemsOf h1 (.ref n) with
    | some _ => .ok (itL n) h1
    | none => .bad
  | _ => .bad
theorem si_seq (ha : PE X a (tE (kc X) W ma)) : PI X tg a (tI (kc X) W (mItV ma)) := by
  have q : PI X tg a (fun σ H R => tE (kc X) W ma σ H fun x H1 => ∃ p, x = .ref p ∧ (((∃ xs, SqL X.K H1 p xs) ∧ R (Itl X.K p) H1) ∨ ((∃ xs, SqT X.K H1 p xs) ∧ R (Itt X.K p) H1))) := by
    refine ⟨fun pins s σ H R I h => ?_⟩
    refine thn (ha.run pins s σ H _ I h) fun v s1 ⟨x, H1, I1, r1, p, e, q⟩ => ?_
    subst e
    cases r1
    rcases q with ⟨⟨xs, hq⟩, q⟩ | ⟨⟨xs, hq⟩, q⟩
    · obtain ⟨its, rv, pl, hz⟩ := I1.list hq
      refine wpAny_pyIter_list pl.isList ?_
      refine ⟨s1.heap.objs.size, [s1.heap.objs.size], _, _, H1, rfl, I1.kept (t' := s1.toks) fun b o e => Heap.get?_push_of_some _ e, turn_list p _, ⟨_, Heap.get?_push_size _ rfl, rfl, rfl⟩, fun b hb => ?_, q⟩
      have e : b = s1.heap.objs.size := by simpa using hb
      subst e
      exact I1.fpOk (Nat.le_refl _) (I1.hok.fresh (Nat.le_refl _))
    · obtain ⟨its, rv, pl, hz⟩ := I1.tuple hq
      refine wpAny_pyIter_tuple (show s1.heap.IsTuple p its.toArray from pl) ?_
      refine ⟨s1.heap.objs.size, [s1.heap.objs.size], _, _, H1, rfl, I1.kept (t' := s1.toks) fun b o e => Heap.get?_push_of_some _ e, turn_tuple p _, ⟨_, Heap.get?_push_size _ rfl, rfl, rfl⟩, fun b hb => ?_, q⟩
      have e : b = s1.heap.objs.size := by simpa using hb
      subst e
      exact I1.fpOk (Nat.le_refl _) (I1.hok.fresh (Nat.le_refl _))
  refine q.imp fun σ H R => ?_
  rintro ⟨φ, env, h, hr, er, o⟩
  refine tG_step hr er o fun φ1 H1 h1 x u k1 hr1 er1 t1 o1 => ?_
  cases t1 with
  | @ref n p ea =>
    cases q : itemsOf h1 (.ref n) with
    | none => simp only [q] at o1; exact o1.elim
    | some xs =>
      simp only [q] at o1
      obtain ⟨vs, hs, ts⟩ := items_list hr1 ea q
      exact ⟨p, rfl, .inl ⟨⟨vs, hs⟩, OkG.ok_here o1 hr1 (walksL ea)⟩⟩
  | @tup p vs xs hq ts => exact ⟨p, rfl, .inr ⟨⟨vs, hq⟩, OkG.ok_here o1 hr1 (walksT hq ts)⟩⟩
  | _ => exact o1.elim
/-- the bounds of a range -/
def inR (i : Int) : Bool := Nat.ble i.natAbs 1000000000
theorem inR_of {i : Int} (h : -1000000000 ≤ i ∧ i ≤ 1000000000) : inR i = true := Nat.ble_eq_true_of_le (by omega)
theorem of_inR {i : Int} (h : inR i = true) : -1000000000 ≤ i ∧ i ≤ 1000000000 := by
  have := Nat.le_of_ble_eq_true h
  omega
def rngN (i j c : Int) : Nat := if i < j then ((j - i - 1) / c + 1).toNat else 0
def mRng1 (r : MA) : MI := fun env h => (r env h).bind fun xs h1 => match xs with
  | [.int j] => if inR j = true then .ok (itR 0 1 j.toNat) h1 else .bad
  | _ => .bad
def mRng2 (r : MA) : MI := fun env h => (r env h).bind fun xs h1 => match xs with
  | [.int i, .int j] => if inR i = true ∧ inR j = true then .ok (itR i 1 (j - i).toNat) h1 else .bad
  | _ => .bad
def mRng3 (r : MA) : MI := fun env h => (r env h).bind fun xs h1 => match xs with
  | [.int i, .int j, .int c] => if inR i = true ∧ inR j = true ∧ 0 < c ∧ c < 1000000 then .ok (itR i c (rngN i j c)) h1 else .bad
  | _ => .bad
theorem inR_ok {i : Int} (h : inR i = true) : -(2 ^ 62) ≤ i ∧ i < 2 ^ 62 := by
  have := of_inR h
  omega
theorem rgC_ok {i j c : Int} (hi : inR i = true) (hj : inR j = true) (h0 : 0 < c) (h1 : c < 1000000) : RgC i j c (rngN i j c) := by
  have a := of_inR hi
  have b := of_inR hj
  have sz : Builtin.Range.rangeSize i j c = (rngN i j c : Nat) := by
    unfold Builtin.Range.rangeSize rngN
    rw [if_pos (show c > 0 from h0)]
    split
    · have : 0 ≤ (j - i - 1) / c := Int.ediv_nonneg (by omega) (by omega)
      omega
    · rfl
  refine ⟨by omega, by omega, ?_, sz⟩
  have hn : Builtin.Range.rangeSize i j c ≤ 2000000001 := by
    unfold Builtin.Range.rangeSize
    rw [if_pos (show c > 0 from h0)]
    split
    · have : (j - i - 1) / c ≤ j - i - 1 := Int.ediv_le_self _ (by omega)
      omega
    · omega
  have hn0 : 0 ≤ Builtin.Range.rangeSize i j c := by rw [sz]; omega
  unfold Builtin.Range.small
  simp only [Builtin.Range.rangeFitsLong, Bool.and_eq_true, Bool.or_eq_true, decide_eq_true_eq, beq_iff_eq]
  generalize Builtin.Range.rangeSize i j c = n at *
  rw [if_pos (show c > 0 from h0)]
  refine ⟨⟨⟨⟨by omega, by omega⟩, by omega⟩, by omega⟩, .inr ?_⟩
  rw [Bool.and_eq_true, decide_eq_true_eq, decide_eq_true_eq]
  omega
theorem three_of {K : KC} {φ : List Addr} {H : Hp} {x y z : MV} {us : List V} (t : IsVs K φ H [x, y, z] us) : ∃ u v w, us = [u, v, w] ∧ IsV K φ H x u ∧ IsV K φ H y v ∧ IsV K φ H z w := by
  cases t with
  | cons t1 t2 =>
    obtain ⟨v, w, rfl, t3, t4⟩ := two_of t2
    exact ⟨_, _, _, rfl, t1, t3, t4⟩
theorem si_range1 {p : Pos} (hg : Gl X "range") (hm : X.mg "range" = none) (ha : PA X [a] (tA (kc X) W mr))
    (hs : starEach [a] X.env = [(false, eval a X.env)] := by rfl) : PI X tg (.Call (.Name "range" p) [a] [] pos) (tI (kc X) W (mRng1 mr)) := by
  refine (pi_range1 hg hm ha hs).imp fun σ H R => ?_
  rintro ⟨φ, env, h, hr, er, o⟩
  refine tG_step hr er o fun φ1 H1 h1 xs us k1 hr1 er1 t1 o1 => ?_
  split at o1
  · rename_i j
    obtain ⟨u, rfl, t⟩ := one_of t1
    cases t
    split at o1
    · rename_i hj
      exact ⟨j, rfl, (inR_ok hj).1, (inR_ok hj).2, OkG.ok_here o1 hr1 walksR⟩
    · exact o1.elim
  · exact o1.elim
theorem si_range2 {p : Pos} (hg : Gl X "range") (hm : X.mg "range" = none) (ha : PA X [a, b] (tA (kc X) W mr))
    (hs : starEach [a, b] X.env = [(false, eval a X.env), (false, eval b X.env)] := by rfl) (hs2 : starEach [b] X.env = [(false, eval b X.env)] := by rfl) : PI X tg (.Call (.Name "range" p) [a, b] [] pos) (tI (kc X) W (mRng2 mr)) := by
  refine (pi_range2 hg hm ha hs hs2).imp fun σ H R => ?_
  rintro ⟨φ, env, h, hr, er, o⟩
  refine tG_step hr er o fun φ1 H1 h1 xs us k1 hr1 er1 t1 o1 => ?_
  split at o1
  · rename_i i j
    obtain ⟨u, v, rfl, t, t'⟩ := two_of t1
    cases t; cases t'
    split at o1
    · rename_i hj
      exact ⟨i, j, rfl, ⟨(inR_ok hj.1).1, (inR_ok hj.1).2, (inR_ok hj.2).1, (inR_ok hj.2).2⟩, OkG.ok_here o1 hr1 walksR⟩
    · exact o1.elim
  · exact o1.elim
theorem si_range3 {p : Pos} (hg : Gl X "range") (hm : X.mg "range" = none) (ha : PA X [a, b, c] (tA (kc X) W mr))
    (hs : starEach [a, b, c] X.env = (false, eval a X.env) :: starEach [b, c] X.env := by rfl) (hpl : (backTo pos (starEach [b, c] X.env)).any (·.1) = false := by rfl) : PI X tg (.Call (.Name "range" p) [a, b, c] [] pos) (tI (kc X) W (mRng3 mr)) := by
  refine (pi_range3 hg hm ha hs hpl).imp fun σ H R => ?_
  rintro ⟨φ, env, h, hr, er, o⟩
  refine tG_step hr er o fun φ1 H1 h1 xs us k1 hr1 er1 t1 o1 => ?_
  split at o1
  · rename_i i j k
    obtain ⟨u, v, w, rfl, t, t', t''⟩ := three_of t1
    cases t; cases t'; cases t''
    split at o1
    · rename_i hj
      exact ⟨i, j, k, _, rfl, rgC_ok hj.1 hj.2.1 hj.2.2.1 hj.2.2.2, OkG.ok_here o1 hr1 walksC⟩
    · exact o1.elim
  · exact o1.elim
/-- enumerate of a list, zip of two lists -/
def mEnum (r : MA) : MI := fun env h => (r env h).bind fun xs h1 => match xs with
  | [.ref n] => match itemsOf h1 (.ref n) with
    | some _ => .ok (itE (itL n)) h1
    | none => .bad
  | _ => .bad
theorem si_enum {p tpos : Pos} {elts : List Expr} {kk : Nat} (hg : Gl X "enumerate") (hm : X.mg "enumerate" = none) (ha : PA X [a] (tA (kc X) W mr)) (hs : starEach [a] X.env = [(false, eval a X.env)] := by rfl) :
    PI X (.Tuple elts kk tpos) (.Call (.Name "enumerate" p) [a] [] pos) (tI (kc X) W (mEnum mr)) := by
  refine (pi_enum hg hm ha hs).imp fun σ H R => ?_
  rintro ⟨φ, env, h, hr, er, o⟩
  refine tG_step hr er o fun φ1 H1 h1 xs us k1 hr1 er1 t1 o1 => ?_
  split at o1
  · rename_i n
    obtain ⟨u, rfl, t⟩ := one_of t1
    cases t with
    | @ref _ p ea =>
      split at o1
      · rename_i xs q
        obtain ⟨vs, hs, ts⟩ := items_list hr1 ea q
        exact ⟨p, vs, rfl, hs, OkG.ok_here o1 hr1 (walksE ea)⟩
      · exact o1.elim
  · exact o1.elim
def mZip (r : MA) : MI := fun env h => (r env h).bind fun xs h1 => match xs with
  | [.ref n, .ref m] => match itemsOf h1 (.ref n), itemsOf h1 (.ref m) with
    | some _, some _ => .ok (itZ (itL n) (itL m)) h1
    | _, _ => .bad
  | _ => .bad
theorem si_zip {p tpos : Pos} {elts : List Expr} {kk : Nat} (hg : Gl X "zip") (hm : X.mg "zip" = none) (ha : PA X [a, b] (tA (kc X) W mr))
    (hs : starEach [a, b] X.env = (false, eval a X.env) :: starEach [b] X.env := by rfl) (hpl : (backTo pos (starEach [b] X.env)).any (·.1) = false := by rfl) :
    PI X (.Tuple elts kk tpos) (.Call (.Name "zip" p) [a, b] [] pos) (tI (kc X) W (mZip mr)) := by
  refine (pi_zip hg hm ha hs hpl).imp fun σ H R => ?_
  rintro ⟨φ, env, h, hr, er, o⟩
  refine tG_step hr er o fun φ1 H1 h1 xs us k1 hr1 er1 t1 o1 => ?_
  split at o1
  · rename_i n m
    obtain ⟨u, v, rfl, t, t'⟩ := two_of t1
    cases t with
    | @ref _ p ea =>
      cases t' with
      | @ref _ p' eb =>
        split at o1
        · rename_i xs ys q q'
          obtain ⟨vs, hs, ts⟩ := items_list hr1 ea q
          obtain ⟨ws, hs', ts'⟩ := items_list hr1 eb q'
          exact ⟨p, p', vs, ws, rfl, hs, hs', OkG.ok_here o1 hr1 (walksZ ea eb)⟩
        · exact o1.elim
  · exact o1.elim
end

/-! ### targets -/
def setAll {α : Type} : List (Option α) → List Nat → List α → List (Option α)
  | σ, i :: is, v :: vs => setAll (σ.set i (some v)) is vs
  | σ, _, _ => σ
abbrev MG := MV → MEnv → Option MEnv
def gN (i : Nat) : MG := fun x env => some (env.set i (some x))
def gT (is : List Nat) : MG := fun x env => match x with
  | .tup xs => if xs.length = is.length then some (setAll env is xs) else none
  | _ => none
structure GOk (K : KC) (g : TG) (own : List Nat) (m : MG) : Prop where
  run : ∀ φ H σ env x u env' (Q : St → Hp → Prop), ER K φ H σ env → IsV K φ H x u → m x env = some env' → (∀ σ', ER K φ H σ' env' → wipe σ' own = wipe σ own → Q σ' H) → g u σ H Q
theorem wipe_set {σ : St} {i : Nat} {v : Option V} : ∀ {own : List Nat}, i ∈ own → wipe (σ.set i v) own = wipe σ own
  | [], h => by cases h
  | j :: r, h => by
    unfold wipe
    by_cases e : i ∈ r
    · rw [wipe_set e]
    · have e2 : j = i := by
        rcases List.mem_cons.mp h with z | z
        · exact z.symm
        · exact absurd z e
      subst e2
      have : ∀ (r : List Nat) (τ : St), wipe (τ.set j v) r = (if j ∈ r then wipe τ r else (wipe τ r).set j v) := by
        intro r
        induction r with
        | nil => intro τ; simp [wipe]
        | cons k r ih =>
          intro τ
          unfold wipe
          rw [ih]
          by_cases hk : j = k
          · subst hk
            by_cases hm : j ∈ r
            · simp [hm]
            · simp [hm]
          · by_cases hm : j ∈ r
            · simp [hm]
            · have : ¬ j ∈ k :: r := by simp [hk, hm]
              rw [if_neg hm, if_neg this, List.set_comm _ _ hk]
      rw [this r σ, if_neg e]
      simp
theorem gok_N {K : KC} {i : Nat} {own : List Nat} (hi : i ∈ own) : GOk K (gName i) own (gN i) := ⟨fun φ H σ env x u env' Q er t e k => by
  cases e
  exact k _ (er.set t) (wipe_set hi)⟩
@[reducible] def gNames : List Nat → TGs
  | [] => gNil
  | i :: r => gCons (gName i) (gNames r)
theorem gNames_ok {K : KC} {φ : List Addr} {H : Hp} {own : List Nat} : ∀ (is : List Nat) (xs : List MV) (us : List V) (σ : St) (env : MEnv) (Q : St → Hp → Prop), (∀ i ∈ is, i ∈ own) → ER K φ H σ env → IsVs K φ H xs us → xs.length = is.length → (∀ σ', ER K φ H σ' (setAll env is xs) → wipe σ' own = wipe σ own → Q σ' H) → gNames is us σ H Q
  | [], [], _, σ, env, Q, ho, er, .nil, hl, k => ⟨rfl, k σ er rfl⟩
  | i :: is, x :: xs, u :: us, σ, env, Q, ho, er, .cons t ts, hl, k => by
    refine ⟨u, us, rfl, ?_⟩
    show gNames is us (σ.set i (some u)) H Q
    exact gNames_ok is xs us _ _ Q (fun j hj => ho j (List.mem_cons_of_mem _ hj)) (er.set t) ts (by simpa using hl) fun σ' e w => k σ' e (w.trans (wipe_set (ho i (List.mem_cons_self ..))))
theorem gok_T {K : KC} {is : List Nat} {n : Nat} {own : List Nat} (hi : ∀ i ∈ is, i ∈ own) (hn : is.length = n) : GOk K (gTup K n (gNames is)) own (gT is) := ⟨fun φ H σ env x u env' Q er t e k => by
  cases t with
  | @tup a vs xs hq ts =>
    simp only [gT] at e
    split at e
    · rename_i hl
      cases e
      exact ⟨a, vs, rfl, hq, by rw [ts.length]; omega, gNames_ok is xs vs σ env Q hi er ts hl k⟩
    · cases e
  | _ => cases e⟩
end Mv

set_option maxHeartbeats 4000000
namespace Mv
open PySem PySem.Spec L2
open PyProof.Rows hiding St

theorem _root_.L2.PTs.imp {X : Cx} {e : List Expr} {t t' : TT} (p : PTs X e t) (q : ∀ σ H Q, t' σ H Q → t σ H Q) : PTs X e t' := ⟨fun pins s σ H Q I h => p.run pins s σ H Q I (q σ H Q h)⟩
/-! ### comprehensions -/
def mYes : MT := fun _ h => .ok true h
section
variable {X : Cx} {W : WT} {pos : Pos}
theorem sts_nil : PTs X [] (tT (kc X) W mYes) := pts_nil.imp fun σ H Q => by
  rintro ⟨φ, env, h, hr, er, o⟩
  exact OkG.ok_here o hr rfl
theorem sts_one {c : Expr} {m : MT} (h : PT X c (tT (kc X) W m)) : PTs X [c] (tT (kc X) W m) := pts_one h
def wipeM : MEnv → List Nat → MEnv
  | env, [] => env
  | env, v :: vs => (wipeM env vs).set v none
theorem ER.wipe {K : KC} {φ : List Addr} {H : Hp} {σ : St} {env : MEnv} (er : ER K φ H σ env) : ∀ vs : List Nat, ER K φ H (L2.wipe σ vs) (wipeM env vs)
  | [] => er
  | v :: vs => (ER.wipe er vs).unset v
def compGo (it : MIt) (tg : MG) (c : MT) (m : ME) (own : List Nat) : Nat → Nat → MEnv → MH → List MV → R MV
  | 0, _, _, _, _ => .bad
  | n + 1, i, env, h, acc => match it i h with
    | .stop => .ok (.ref h.length) (h ++ [.lst acc.reverse])
    | .bad => .bad
    | .item x => match tg x (wipeM env own) with
      | none => .bad
      | some env' => ((c env' h).noX).bind fun b h1 => if b = true then ((m env' h1).noX).bind fun y h2 => if acc.length < cap then compGo it tg c m own n (i + 1) env h2 (y :: acc) else .bad else compGo it tg c m own n (i + 1) env h1 acc
/-- no loop turns oftener -/
theorem fuel_ex : ∃ n : Nat, 1000000 ≤ n := ⟨_, Nat.le_refl _⟩
noncomputable def fuel : Nat := Classical.choose fuel_ex
theorem fuel_ge : 1000000 ≤ fuel := Classical.choose_spec fuel_ex
noncomputable def mLc (mi : MI) (tg : MG) (c : MT) (m : ME) (own : List Nat) : ME := fun env h => (mi env h).bind fun it h1 => compGo it tg c m own fuel 0 env h1 []
theorem tG_W0 {α β : Type} {K : KC} {isA : List Addr → Hp → α → β → Prop} {m : MEnv → MH → R α} {σ : St} {H : Hp} {Q : β → Hp → Prop} {φ : List Addr} {env : MEnv} {h : MH} {Z : XW} (hr : HR K φ H h) (er : ER K φ H σ env) (o : OkG K isA Z φ H (m env h).noX Q) : tG K isA W0 m σ H Q := ⟨φ, env, h, hr, er, noX_ok o⟩
theorem isVs_rev {K : KC} {φ : List Addr} {H : Hp} {acc : List MV} {y : MV} {vs : List V} {v : V} (ts : IsVs K φ H acc.reverse vs) (t : IsV K φ H y v) : IsVs K φ H (y :: acc).reverse (vs ++ [v]) := by
  rw [List.reverse_cons]
  exact ts.append (.cons t .nil)
mutual
theorem IsV.more {K : KC} {φ : List Addr} {H : Hp} (mo : List Addr) : ∀ {x : MV} {v : V}, IsV K φ H x v → IsV K (φ ++ mo) H x v
  | _, _, .non => .non
  | _, _, .bl b => .bl b
  | _, _, .int i => .int i
  | _, _, .str s => .str s
  | _, _, .ref e => .ref (by rw [List.getElem?_append_left (List.getElem?_eq_some_iff.mp e).1]; exact e)
  | _, _, .tup h t => .tup h (IsVs.more mo t)
theorem IsVs.more {K : KC} {φ : List Addr} {H : Hp} (mo : List Addr) : ∀ {xs : List MV} {vs : List V}, IsVs K φ H xs vs → IsVs K (φ ++ mo) H xs vs
  | _, _, .nil => .nil
  | _, _, .cons h t => .cons (IsV.more mo h) (IsVs.more mo t)
end
theorem OR.more {K : KC} {φ : List Addr} {H : Hp} {a : Addr} {o : MO} (mo : List Addr) (r : OR K φ H a o) : OR K (φ ++ mo) H a o := by
  cases o with
  | lst xs => obtain ⟨l, vs, q, t⟩ := r; exact ⟨l, vs, q, t.more mo⟩
  | frz xs => obtain ⟨l, o, vs, q, t⟩ := r; exact ⟨l, o, vs, q, t.more mo⟩
  | dct _ => obtain ⟨ws, q, l, ek, t⟩ := r; exact ⟨ws, q, l, ek, t.more mo⟩
  | fdc _ => obtain ⟨o, ws, q, l, ek, t⟩ := r; exact ⟨o, ws, q, l, ek, t.more mo⟩
  | ins _ _ => obtain ⟨gs, q, t⟩ := r; exact ⟨gs, q, t.more mo⟩
/-- a list that stands is taken into the small heap -/
theorem HR.adopt {K : KC} {φ : List Addr} {H : Hp} {h : MH} {D : Addr} {xs : List MV} {vs : List V} (r : HR K φ H h) (nD : D ∉ φ) (e : H D = some (.lst vs)) (hl : xs.length ≤ sizeLine) (ts : IsVs K φ H xs vs) : HR K (φ ++ [D]) H (h ++ [.lst xs]) := by
  refine ⟨by simp [r.len], ?_, fun n a u e1 e2 => ?_, r.tb⟩
  · rw [List.nodup_append]
    refine ⟨r.nd, by simp, fun a ha b hb z => ?_⟩
    rw [List.mem_singleton.mp hb] at z
    exact nD (z ▸ ha)
  · by_cases hn : n < φ.length
    · rw [List.getElem?_append_left hn] at e1
      rw [List.getElem?_append_left (by rw [← r.len]; exact hn)] at e2
      exact (r.at_ n a u e1 e2).more _
    · have hn' : n = φ.length := by
        have := (List.getElem?_eq_some_iff.mp e1).1
        simp at this; omega
      subst hn'
      rw [List.getElem?_append_right (Nat.le_refl _)] at e1
      rw [List.getElem?_append_right (by rw [r.len]; exact Nat.le_refl _)] at e2
      simp at e1
      rw [r.len] at e2
      simp at e2
      subst e1 e2
      exact ⟨hl, vs, e, ts.more _⟩
theorem Keep.adopt {φ1 φ : List Addr} {H1 H : Hp} {D : Addr} (k : Keep φ1 H1 φ H) (hD : H1 D = none) : Keep φ1 H1 (φ ++ [D]) H := by
  obtain ⟨mo, e, f⟩ := k.ext
  refine ⟨⟨mo ++ [D], by rw [e, List.append_assoc], fun b hb => ?_⟩, k.dom, k.out, k.tup, k.frz⟩
  rcases List.mem_append.mp hb with hb | hb
  · exact f b hb
  · rw [List.mem_singleton.mp hb]; exact hD
/-- an untracked list is changed -/
theorem Keep.side {φ1 φ : List Addr} {H1 H : Hp} {D : Addr} {vs ws : List V} (k : Keep φ1 H1 φ H) (hD : H1 D = none) (e : H D = some (.lst vs)) : Keep φ1 H1 φ (upd H D (.lst ws)) := by
  have ne : ∀ b o, H1 b = some o → b ≠ D := fun b o e => ne_of_none e hD
  refine ⟨k.ext, fun b o q => ?_, fun b o q nt n => ?_, fun b xs q => ?_, fun b o u q => ?_⟩
  · obtain ⟨o', z⟩ := k.dom b o q
    exact ⟨o', by rw [upd_ne (ne b o q)]; exact z⟩
  · rw [upd_ne (ne b o q)]; exact k.out b o q nt n
  · rw [upd_ne (ne b _ q)]; exact k.tup b xs q
  · rw [upd_ne (ne b _ q)]; exact k.frz b o u q
/-- values, objects beside an untracked list that is changed -/
theorem sqT_side {K : KC} {H : Hp} {D : Addr} {vs ws : List V} (e : H D = some (.lst vs)) {b : Addr} {xs : List V} (h : SqT K H b xs) : SqT K (upd H D (.lst ws)) b xs := by
  rcases h with (h | ⟨o, h⟩) | h
  · exact .inl (.inl (by rw [upd_ne fun z => by rw [z, e] at h; cases h]; exact h))
  · exact .inl (.inr ⟨o, by rw [upd_ne fun z => by rw [z, e] at h; cases h]; exact h⟩)
  · exact .inr h
mutual
theorem IsV.side {K : KC} {φ : List Addr} {H : Hp} {D : Addr} {vs ws : List V} (e : H D = some (.lst vs)) : ∀ {x : MV} {v : V}, IsV K φ H x v → IsV K φ (upd H D (.lst ws)) x v
  | _, _, .non => .non
  | _, _, .bl b => .bl b
  | _, _, .int i => .int i
  | _, _, .str s => .str s
  | _, _, .ref q => .ref q
  | _, _, .tup h t => .tup (sqT_side e h) (IsVs.side e t)
theorem IsVs.side {K : KC} {φ : List Addr} {H : Hp} {D : Addr} {vs ws : List V} (e : H D = some (.lst vs)) : ∀ {xs : List MV} {us : List V}, IsVs K φ H xs us → IsVs K φ (upd H D (.lst ws)) xs us
  | _, _, .nil => .nil
  | _, _, .cons h t => .cons (IsV.side e h) (IsVs.side e t)
end
theorem HR.side {K : KC} {φ : List Addr} {H : Hp} {h : MH} {D : Addr} {vs ws : List V} (r : HR K φ H h) (nD : D ∉ φ) (e : H D = some (.lst vs)) : HR K φ (upd H D (.lst ws)) h :=
  ⟨r.len, r.nd, fun n a o e1 e2 => by
    have q := r.at_ n a o e1 e2
    have ne : a ≠ D := fun z => nD (z ▸ List.mem_of_getElem? e1)
    cases o with
    | lst xs => obtain ⟨l, us, z, t⟩ := q; exact ⟨l, us, by rw [upd_ne ne]; exact z, t.side e⟩
    | frz xs => obtain ⟨l, o, us, z, t⟩ := q; exact ⟨l, o, us, by rw [upd_ne ne]; exact z, t.side e⟩
    | dct _ => obtain ⟨ws, z, l, ek, t⟩ := q; exact ⟨ws, by rw [upd_ne ne]; exact z, l, ek, t.side e⟩
    | fdc _ => obtain ⟨o, ws, z, l, ek, t⟩ := q; exact ⟨o, ws, by rw [upd_ne ne]; exact z, l, ek, t.side e⟩
    | ins _ _ => obtain ⟨gs, z, t⟩ := q; exact ⟨gs, z.to (upd_ne ne), t.side e⟩, tabs_upd r.tb e (fun _ z => by cases z) (fun _ z => by cases z)⟩
theorem comp_ok {K : KC} {J : It} {it : MIt} {g : TG} {tg : MG} {c : MT} {m : ME} {own : List Nat} {φ1 : List Addr} {H1 : Hp} {h1 : MH} {σ : St} {env : MEnv} {Q : VK} {D : Addr} {Z : XW} (hw : WalksM K J it φ1 H1) (hg : GOk K g own tg) (hr : HR K φ1 H1 h1) (er : ER K φ1 H1 σ env) (hD : H1 D = none)
    (o : OkG K (IsV K) Z φ1 H1 (compGo it tg c m own fuel 0 env h1 []) Q) :
    ∃ U : Nat → Nat → Hp → Prop, (∃ n, U 0 n (upd H1 D (.lst []))) ∧ ∀ i n H, U i n H → (J.stop i H ∧ Q (.ref D) H) ∨ (J.go i H ∧ ∃ Nw : Hp → Prop, (∀ H', Nw H' → ∃ n', n' < n ∧ U (i + 1) n' H') ∧ ∀ x H', J.yld i H x H' → g x (wipe σ own) H' fun σ2 H2 => wipe σ2 own = wipe σ own ∧ tT K W0 c σ2 H2 fun b H3 =>
      if b = true then tE K W0 m σ2 H3 fun y H4 => ∃ acc, H4 D = some (.lst acc) ∧ acc.length < sizeLine ∧ Nw (upd H4 D (.lst (acc ++ [y]))) else Nw H3) := by
  -- what holds between two turns
  let U : Nat → Nat → Hp → Prop := fun i n H => ∃ φ h acc vs, D ∉ φ ∧ Keep φ1 H1 φ H ∧ HR K φ H h ∧ H D = some (.lst vs) ∧ IsVs K φ H acc.reverse vs ∧ acc.length ≤ cap ∧ OkG K (IsV K) Z φ1 H1 (compGo it tg c m own n i env h acc) Q
  refine ⟨U, ⟨fuel, φ1, h1, [], [], hr.fresh hD, Keep.new hD, hr.new hD, upd_same, .nil, Nat.zero_le _, o⟩, ?_⟩
  rintro i n H ⟨φ, h, acc, vs, nD, k, hr, eD, ts, hl, o⟩
  have hDd : ∀ {φ' : List Addr} {H' : Hp}, Keep φ H φ' H' → D ∉ φ' ∧ H' D = some (.lst vs) := fun {φ' H'} k' => by
    refine ⟨fun z => ?_, k'.out D _ eD (fun _ z => by cases z) nD⟩
    obtain ⟨mo, e, f⟩ := k'.ext
    rw [e] at z
    rcases List.mem_append.mp z with z | z
    · exact nD z
    · rw [f D z] at eD; cases eD
  cases n with
  | zero => exact o.elim
  | succ n =>
    unfold compGo at o
    cases e : it i h with
    | bad => simp only [e] at o; exact o.elim
    | stop =>
      simp only [e] at o
      refine .inl ⟨hw.stop φ H h i k hr e, ?_⟩
      exact o (φ ++ [D]) H (.ref D) (k.adopt hD) (hr.adopt nD eD (by simp; exact cap_line hl) ts) (.ref (lay_at hr))
    | item x =>
      simp only [e] at o
      obtain ⟨hgo, hy⟩ := hw.go φ H h i x k hr e
      refine .inr ⟨hgo, U (i + 1) n, fun H' u => ⟨n, Nat.lt_succ_self n, u⟩, fun u H' y => ?_⟩
      obtain ⟨k2, hr2, t2⟩ := hy u H' y
      have er2 : ER K φ H' σ env := er.keep (k.trans k2)
      cases et : tg x (wipeM env own) with
      | none => simp only [et] at o; exact o.elim
      | some env' =>
        simp only [et] at o
        refine hg.run φ H' _ _ x u env' _ (er2.wipe own) t2 et fun σ2 er3 hwp => ⟨?_, φ, env', h, hr2, er3, ?_⟩
        · rw [hwp]
          have : ∀ (l : List Nat) (τ : St), wipe (wipe τ l) l = wipe τ l := by
            intro l
            have key : ∀ (i : Nat) (l : List Nat) (τ : St), i ∈ l → (wipe τ l).set i none = wipe τ l := by
              intro i l
              induction l with
              | nil => intro τ h; cases h
              | cons j r ih =>
                intro τ h
                unfold wipe
                by_cases hj : i = j
                · subst hj; simp
                · rw [List.set_comm _ _ (Ne.symm hj)]
                  rw [ih τ ((List.mem_cons.mp h).resolve_left hj)]
            have key2 : ∀ (r l : List Nat) (τ : St), (∀ j ∈ r, j ∈ l) → wipe (wipe τ l) r = wipe τ l := by
              intro r
              induction r with
              | nil => intro l τ _; rfl
              | cons j r ih =>
                intro l τ h
                show (wipe (wipe τ l) r).set j none = _
                rw [ih l τ fun q hq => h q (List.mem_cons_of_mem _ hq)]
                exact key j l τ (h j (List.mem_cons_self ..))
            intro τ
            exact key2 l l τ fun _ h => h
          exact this own σ
        · cases ec : c env' h with
          | bad => rw [ec] at o; exact o.elim
          | exc z h3 => rw [ec] at o; exact o.elim
          | ok b h3 =>
            rw [ec] at o
            intro φ3 H3 b' k3 hr3 tb
            cases tb
            have k13 := (k.trans k2).trans k3
            cases b with
            | false =>
              rw [if_neg Bool.false_ne_true]
              obtain ⟨n3, e3⟩ := hDd (k2.trans k3)
              exact ⟨φ3, h3, acc, vs, n3, k13, hr3, e3, ts.keep (k2.trans k3), hl, o⟩
            | true =>
              rw [if_pos rfl]
              refine ⟨φ3, env', h3, hr3, er3.keep k3, ?_⟩
              have o2 : OkG K (IsV K) Z φ1 H1 (((m env' h3).noX).bind fun y h2 => if acc.length < cap then compGo it tg c m own n (i + 1) env h2 (y :: acc) else .bad) Q := o
              cases em : m env' h3 with
              | bad => rw [em] at o2; exact o2.elim
              | exc z h4 => rw [em] at o2; exact o2.elim
              | ok w h4 =>
                rw [em] at o2
                intro φ4 H4 y4 k4 hr4 t4
                have kk := (k2.trans k3).trans k4
                obtain ⟨n4, e4⟩ := hDd kk
                have o' : OkG K (IsV K) Z φ1 H1 (if acc.length < cap then compGo it tg c m own n (i + 1) env h4 (w :: acc) else .bad) Q := o2
                split at o'
                · rename_i hc
                  refine ⟨vs, e4, by rw [ts.length, List.length_reverse]; exact cap_lt hl, φ4, h4, w :: acc, _, n4, (k.trans kk).side hD e4, hr4.side n4 e4, upd_same, ?_, hc, o'⟩
                  exact (isVs_rev (ts.keep kk) t4).side e4
                · exact o'.elim
theorem tLc_of {g : TG} {tg : MG} {K : KC} {mi : MI} {c : MT} {m : ME} {own : List Nat} (hg : GOk K g own tg) {σ : St} {H : Hp} {Q : VK} (o : tE K W (mLc mi tg c m own) σ H Q) : tLc (tI K W mi) g (tT K W0 c) (tE K W0 m) own σ H Q := by
  obtain ⟨φ, env, h, hr, er, o⟩ := o
  refine tG_step hr er o fun φ1 H1 h1 it J k1 hr1 er1 hw o1 => ?_
  intro D hD
  exact comp_ok hw hg hr1 er1 hD o1
/-- [elt for target in iter if ..] -/
theorem se_lc {elt tg iter : Expr} {ifs : List Expr} {scope : Scope} {own : List (Str × Nat)} {g : TG} {mg : MG} {mi : MI} {c : MT} {m : ME} (hc : X.calm = true) (hN : X.N.Nodup) (hi : PI X tg iter (tI (kc X) W mi)) (ok : BlkOk X.N X.env.scope scope own)
    (hg : ∀ (s : Shared) (H : Hp) (C : Addr) (cl : List (Str × Addr)) (fp : List Addr), PG (X.blk s H scope (compEnvC scope cl C X.env) fp) tg g) (hgm : GOk (kc X) g (own.map (·.2)) mg) (ht : ∀ (s : Shared) (H : Hp) (C : Addr) (cl : List (Str × Addr)) (fp : List Addr), PTs (X.blk s H scope (compEnvC scope cl C X.env) fp) ifs (tT (kc X) W0 c))
    (he : ∀ (s : Shared) (H : Hp) (C : Addr) (cl : List (Str × Addr)) (fp : List Addr), PE (X.blk s H scope (compEnvC scope cl C X.env) fp) elt (tE (kc X) W0 m)) (hs : ∀ x, foldedSetIterable iter X.env x = pure x := by intro _; rfl) :
    PE X (.ListComp elt [⟨tg, iter, ifs, 0⟩] scope pos) (tE (kc X) W (mLc mi mg c m (own.map (·.2)))) := (pe_lc hc hN hi ok hg ht he hs).imp fun σ H Q o => tLc_of hgm o

/-! ### statements -/
inductive S where
  | nx (env : MEnv) (h : MH) | rt (v : MV) (h : MH) | bk (env : MEnv) (h : MH) | ct (env : MEnv) (h : MH) | exc (x : MX) (env : MEnv) (h : MH) | bad
abbrev MS := MEnv → MH → S
def R.andS {α : Type} (r : R α) (env : MEnv) (k : α → MH → S) : S := match r with
  | .ok a h => k a h
  | .exc x h => .exc x env h
  | .bad => .bad
@[simp] theorem R.andS_ok {α : Type} (a : α) (h : MH) (env : MEnv) (k : α → MH → S) : (R.ok a h).andS env k = k a h := rfl
@[simp] theorem R.andS_bad {α : Type} (env : MEnv) (k : α → MH → S) : (R.bad : R α).andS env k = .bad := rfl
def S.andS (r : S) (k : MS) : S := match r with
  | .nx env h => k env h
  | r => r
@[simp] theorem S.andS_nx (env : MEnv) (h : MH) (k : MS) : (S.nx env h).andS k = k env h := rfl
@[simp] theorem S.andS_rt (v : MV) (h : MH) (k : MS) : (S.rt v h).andS k = .rt v h := rfl
@[simp] theorem S.andS_bad (k : MS) : (S.bad).andS k = .bad := rfl
@[simp] theorem S.andS_bk (env : MEnv) (h : MH) (k : MS) : (S.bk env h).andS k = .bk env h := rfl
@[simp] theorem S.andS_ct (env : MEnv) (h : MH) (k : MS) : (S.ct env h).andS k = .ct env h := rfl
def OkS (K : KC) (W : WT) (φ : List Addr) (H : Hp) (r : S) (D : Ends) : Prop := match r with
  | .nx env' h' => ∀ φ' σ' H', Keep φ H φ' H' → HR K φ' H' h' → ER K φ' H' σ' env' → D.nx σ' H'
  | .rt v h' => ∀ φ' H' u, Keep φ H φ' H' → HR K φ' H' h' → IsV K φ' H' v u → D.rt u H'
  | .bk env' h' => ∀ φ' σ' H', Keep φ H φ' H' → HR K φ' H' h' → ER K φ' H' σ' env' → D.bk σ' H'
  | .ct env' h' => ∀ φ' σ' H', Keep φ H φ' H' → HR K φ' H' h' → ER K φ' H' σ' env' → D.ct σ' H'
  | .exc x env' h' => ∀ φ' σ' H', Keep φ H φ' H' → HR K φ' H' h' → ER K φ' H' σ' env' → W σ' env' φ' H' x h'
  | .bad => False
def tS (K : KC) (W : WT) (m : MS) : TS := fun D σ H => ∃ φ env h, HR K φ H h ∧ ER K φ H σ env ∧ OkS K W φ H (m env h) D
section
variable {K : KC} {φ φ1 : List Addr} {H H1 : Hp} {h : MH} {σ : St} {env : MEnv} {α β : Type}
theorem OkS.mono {r : S} {D : Ends} (o : OkS K W φ H r D) (k : Keep φ H φ1 H1) : OkS K W φ1 H1 r D := by
  cases r with
  | nx e h' => exact fun φ' σ' H' k' r t => o φ' σ' H' (k.trans k') r t
  | rt v h' => exact fun φ' H' u k' r t => o φ' H' u (k.trans k') r t
  | bk e h' => exact fun φ' σ' H' k' r t => o φ' σ' H' (k.trans k') r t
  | ct e h' => exact fun φ' σ' H' k' r t => o φ' σ' H' (k.trans k') r t
  | exc x e h' => exact fun φ' σ' H' k' r t => o φ' σ' H' (k.trans k') r t
  | bad => exact o
theorem OkS.nx_here {D : Ends} (o : OkS K W φ H (.nx env h) D) (hr : HR K φ H h) (er : ER K φ H σ env) : D.nx σ H := o φ σ H Keep.refl hr er
/-- an expression, then what its value makes -/
theorem tS_step {isA : List Addr → Hp → α → β → Prop} {m : MEnv → MH → R α} {k : α → MH → S} {P : β → Hp → Prop} {D : Ends} (hr : HR K φ H h) (er : ER K φ H σ env) (o : OkS K W φ H ((m env h).andS env k) D)
    (n : ∀ φ1 H1 h1 a b, Keep φ H φ1 H1 → HR K φ1 H1 h1 → ER K φ1 H1 σ env → isA φ1 H1 a b → OkS K W φ1 H1 (k a h1) D → P b H1) : tG K isA W m σ H P := by
  refine ⟨φ, env, h, hr, er, ?_⟩
  cases e : m env h with
  | ok a h1 =>
    rw [e] at o
    exact fun φ1 H1 b kp r t => n φ1 H1 h1 a b kp r (er.keep kp) t (OkS.mono o kp)
  | exc x h1 =>
    rw [e] at o
    exact fun φ1 H1 kp r => o φ1 σ H1 kp r (er.keep kp)
  | bad => rw [e] at o; exact o.elim
end
end
end Mv

set_option maxHeartbeats 4000000
namespace Mv
open PySem PySem.Spec L2
open PyProof.Rows hiding St

section
variable {X : Cx} {W : WT} {pos : Pos} {a b c e : Expr} {ma mb mc : ME} {es : List Expr} {mr : MA} {st : Stmt} {rest : List Stmt} {m1 m2 : MS}
def mNext : MS := fun env h => .nx env h
def mBad : MS := fun _ _ => .bad
def mSeq (m1 m2 : MS) : MS := fun env h => (m1 env h).andS m2
theorem ss_nil : PSs X [] (tS (kc X) W mNext) := pss_nil.imp fun D σ H => by
  rintro ⟨φ, env, h, hr, er, o⟩
  exact OkS.nx_here o hr er
theorem ss_never : PS X st (tS (kc X) W mBad) := ps_never.imp fun D σ H => by
  rintro ⟨φ, env, h, hr, er, o⟩
  exact o
theorem seq_ok {K : KC} {D : Ends} {σ : St} {H : Hp} (o : tS K W (mSeq m1 m2) D σ H) : tSeq (tS K W m1) (tS K W m2) D σ H := by
  obtain ⟨φ, env, h, hr, er, o⟩ := o
  refine ⟨φ, env, h, hr, er, ?_⟩
  unfold mSeq at o
  cases q : m1 env h with
  | nx env' h' =>
    rw [q] at o
    intro φ' σ' H' k hr' er'
    exact ⟨φ', env', h', hr', er', OkS.mono o k⟩
  | _ => rw [q] at o; exact o
theorem ss_cons (h1 : PS X st (tS (kc X) W m1)) (h2 : PSs X rest (tS (kc X) W m2)) : PSs X (st :: rest) (tS (kc X) W (mSeq m1 m2)) := (pss_cons h1 h2).imp fun _ _ _ o => seq_ok o
theorem ss_one (h1 : PS X st (tS (kc X) W m1)) : PSs X [st] (tS (kc X) W m1) := pss_one h1
theorem ss_doc {x j pos'} : PS X (.Expr (.Constant (.str x) j pos) pos') (tS (kc X) W mNext) := ps_doc.imp fun D σ H => by
  rintro ⟨φ, env, h, hr, er, o⟩
  exact OkS.nx_here o hr er
def mSet (i : Nat) (m : ME) : MS := fun env h => (m env h).andS env fun v h1 => .nx (env.set i (some v)) h1
theorem set_ok {K : KC} {i : Nat} {D : Ends} {σ : St} {H : Hp} {t : TE} (ht : ∀ σ H Q, tE K W ma σ H Q → t σ H Q) (o : tS K W (mSet i ma) D σ H) : tAsg t (gName i) D σ H := by
  obtain ⟨φ, env, h, hr, er, o⟩ := o
  refine ht _ _ _ (tS_step hr er o fun φ1 H1 h1 x u k1 hr1 er1 t1 o1 => ?_)
  exact OkS.nx_here o1 hr1 (er1.set t1)
theorem ss_set {i : Nat} {x : Str} {pos' : Pos} (hN : X.N.Nodup) (hi : X.N[i]? = some x) (hx : Loc X.env.scope x) (he : PE X e (tE (kc X) W ma)) (hs : swapsWith e (some (.Name x pos')) pos.line X.env = pure false := by rfl) (hf : X.fn x = true ∨ X.env.scope.names.lookup x = some .local := by first | exact .inl rfl | exact .inr rfl | assumption) :
    PS X (.Assign [.Name x pos'] e pos) (tS (kc X) W (mSet i ma)) := (ps_set hN hi hx he hs hf).imp fun _ _ _ o => set_ok (fun _ _ _ q => q) o
/-- name = [.. for ..] -/
theorem ss_setLc {i : Nat} {y : Str} {py spos : Pos} {elt tg iter : Expr} {ifs : List Expr} {scope : Scope} {own : List (Str × Nat)} {g : TG} {mg : MG} {mi : MI} {c : MT} {m : ME} (hc : X.calm = true) (hN : X.N.Nodup) (hy : X.N[i]? = some y) (hyl : X.env.scope.names.lookup y = some .local)
    (hsw : swapsWith (.ListComp elt [⟨tg, iter, ifs, 0⟩] scope pos) (some (.Name y py)) spos.line X.env = pure true) (hi : PI X tg iter (tI (kc X) W mi)) (ok : BlkOk X.N X.env.scope scope own)
    (hg : ∀ (s : Shared) (H : Hp) (C : Addr) (cl : List (Str × Addr)) (fp : List Addr), PG (X.blk s H scope (compEnvC scope cl C X.env) fp) tg g) (hgm : GOk (kc X) g (own.map (·.2)) mg) (ht : ∀ (s : Shared) (H : Hp) (C : Addr) (cl : List (Str × Addr)) (fp : List Addr), PTs (X.blk s H scope (compEnvC scope cl C X.env) fp) ifs (tT (kc X) W0 c))
    (he : ∀ (s : Shared) (H : Hp) (C : Addr) (cl : List (Str × Addr)) (fp : List Addr), PE (X.blk s H scope (compEnvC scope cl C X.env) fp) elt (tE (kc X) W0 m)) (hs : ∀ x, foldedSetIterable iter X.env x = pure x := by intro _; rfl) :
    PS X (.Assign [.Name y py] (.ListComp elt [⟨tg, iter, ifs, 0⟩] scope pos) spos) (tS (kc X) W (mSet i (mLc mi mg c m (own.map (·.2))))) :=
  (ps_setLc (wi := tI (kc X) W mi) (tt := tT (kc X) W0 c) (te := tE (kc X) W0 m) hc hN hy hyl hsw hi ok hg ht he hs).imp fun _ _ _ o => set_ok (fun _ _ _ q => tLc_of hgm q) o
/-- a, b = e -/
def mAsg (mg : MG) (m : ME) : MS := fun env h => (m env h).andS env fun v h1 => match mg v env with
  | some env' => .nx env' h1
  | none => .bad
theorem ss_asg {tg : Expr} {g : TG} {mg : MG} {own : List Nat} (he : PE X e (tE (kc X) W ma)) (hg : PG X tg g) (hgm : GOk (kc X) g own mg) (hs : swapsWithSole [tg] e pos.line X.env = pure false := by rfl) (hw : swappedStores [tg] e X.env = pure none := by rfl)
    (h1 : (assignEach [tg] X.env).map (·.2) = [assign tg X.env] := by rfl) : PS X (.Assign [tg] e pos) (tS (kc X) W (mAsg mg ma)) := (ps_asg he hg hs hw h1).imp fun D σ H => by
  rintro ⟨φ, env, h, hr, er, o⟩
  refine tS_step hr er o fun φ1 H1 h1 x u k1 hr1 er1 t1 o1 => ?_
  cases q : mg x env with
  | none => simp only [q] at o1; exact o1.elim
  | some env' =>
    simp only [q] at o1
    exact hgm.run φ1 H1 σ env x u env' _ er1 t1 q fun σ' er' _ => OkS.nx_here o1 hr1 er'
/-- a, b = (x, y) -/
def mPar (i j : Nat) (r : MA) : MS := fun env h => (r env h).andS env fun xs h1 => match xs with
  | [x, y] => .nx ((env.set i (some x)).set j (some y)) h1
  | _ => .bad
theorem ss_par {i j : Nat} {x y : Str} {px py pt : Pos} {kt k2 pt2} (hc : X.calm = true) (hN : X.N.Nodup) (hi : X.N[i]? = some x) (hj : X.N[j]? = some y) (hij : i ≠ j)
    (hx : X.env.scope.names.lookup x = some .local) (hy : X.env.scope.names.lookup y = some .local) (ha : PA X [a, b] (tA (kc X) W mr))
    (hw : swappedStores [.Tuple [.Name x px, .Name y py] kt pt] (.Tuple [a, b] k2 pt2) X.env = pure (some [x, y]))
    (hs : swapsWithSole [.Tuple [.Name x px, .Name y py] kt pt] (.Tuple [a, b] k2 pt2) pos.line X.env = pure false := by rfl) :
    PS X (.Assign [.Tuple [.Name x px, .Name y py] kt pt] (.Tuple [a, b] k2 pt2) pos) (tS (kc X) W (mPar i j mr)) := (ps_par hc hN hi hj hij hx hy ha hw hs).imp fun D σ H => by
  rintro ⟨φ, env, h, hr, er, o⟩
  refine tS_step hr er o fun φ1 H1 h1 xs us k1 hr1 er1 t1 o1 => ?_
  split at o1
  · rename_i x y
    obtain ⟨u, v, rfl, t, t'⟩ := two_of t1
    exact ⟨u, v, rfl, OkS.nx_here o1 hr1 ((er1.set t).set t')⟩
  · exact o1.elim
/-- xs[i] = v -/
def mStore (m mo mi : ME) : MS := fun env h => (m env h).andS env fun v h1 => (mo env h1).andS env fun o h2 => (mi env h2).andS env fun i h3 => match o, i with
  | .ref n, .int k => match lstOf h3 n with
    | some xs => match ixN xs.length k with
      | some j => .nx env (h3.set n (.lst (xs.set j v)))
      | none => .bad
    | none => .bad
  | _, _ => .bad
theorem ss_store {o i : Expr} {tpos : Pos} (he : PE X e (tE (kc X) W ma)) (ho : PE X o (tE (kc X) W mb)) (hi : PE X i (tE (kc X) W mc))
    (ha : ∀ v, assign (.Subscript o i tpos) X.env v = (do
      let ov ← holding [v] (eval o X.env)
      let iv ← holding [v, ov] (eval i X.env)
      standAt tpos
      holding [v, ov, iv] (setItem ov iv v)
      release [v, ov, iv] []) := by intro _; rfl) (hs : swapsWithSole [.Subscript o i tpos] e pos.line X.env = pure false := by rfl) (hw : swappedStores [.Subscript o i tpos] e X.env = pure none := by rfl)
    (h1 : (assignEach [.Subscript o i tpos] X.env).map (·.2) = [assign (.Subscript o i tpos) X.env] := by rfl) : PS X (.Assign [.Subscript o i tpos] e pos) (tS (kc X) W (mStore ma mb mc)) := (ps_asg he (pg_sub ho hi set_list ha) hs hw h1).imp fun D σ H => by
  rintro ⟨φ, env, h, hr, er, o⟩
  refine tS_step hr er o fun φ1 H1 h1 x u k1 hr1 er1 t1 o1 => ?_
  refine tS_step hr1 er1 o1 fun φ2 H2 h2 y v k2 hr2 er2 t2 o2 => ?_
  refine tS_step hr2 er2 o2 fun φ3 H3 h3 z w k3 hr3 er3 t3 o3 => ?_
  split at o3
  · rename_i n k
    have t2' := t2.keep k3
    cases t2' with
    | @ref _ p ea =>
      cases t3
      split at o3
      · rename_i xs q
        split at o3
        · rename_i j q2
          obtain ⟨e1, vs, e2, ts⟩ := lst_of hr3 ea q
          have hz : xs.length ≤ sizeLine := by
            have := hr3.at_ n p _ ea e1
            exact this.1
          refine ⟨p, vs, k, j, rfl, rfl, e2, by rw [ts.length]; exact q2, ?_⟩
          exact o3 φ3 σ _ (Keep.put (List.mem_of_getElem? ea) e2) (hr3.put ea e1 e2 (by simpa using hz) (IsVs.set ((t1.keep k2).keep k3) j ts)) (er3.keep (Keep.put (List.mem_of_getElem? ea) e2))
        · exact o3.elim
      · exact o3.elim
  · exact o3.elim
def mDrop (m : ME) : MS := fun env h => (m env h).andS env fun _ h1 => .nx env h1
theorem ss_expr (he : PE X e (tE (kc X) W ma)) (hs : swapsWith e none pos.line X.env = pure false := by rfl) : PS X (.Expr e pos) (tS (kc X) W (mDrop ma)) := (ps_expr he hs).imp fun D σ H => by
  rintro ⟨φ, env, h, hr, er, o⟩
  exact tS_step hr er o fun φ1 H1 h1 x u k1 hr1 er1 t1 o1 => OkS.nx_here o1 hr1 er1
def mRet (m : ME) : MS := fun env h => (m env h).andS env fun v h1 => .rt v h1
theorem ss_ret (he : PE X e (tE (kc X) W ma)) : PS X (.Return (some e) pos) (tS (kc X) W (mRet ma)) := (ps_ret he).imp fun D σ H => by
  rintro ⟨φ, env, h, hr, er, o⟩
  exact tS_step hr er o fun φ1 H1 h1 x u k1 hr1 er1 t1 o1 => o1 φ1 H1 u Keep.refl hr1 t1
def mRetN : MS := fun env h => .rt .non h
theorem ss_retN : PS X (.Return none pos) (tS (kc X) W mRetN) := ps_retN.imp fun D σ H => by
  rintro ⟨φ, env, h, hr, er, o⟩
  exact o φ H .non Keep.refl hr .non
def mIfS (t : MT) (m1 m2 : MS) : MS := fun env h => (t env h).andS env fun b h1 => if b = true then m1 env h1 else m2 env h1
theorem ss_if {c : Expr} {s1 s2 : List Stmt} {t : MT} (hc : PT X c (tT (kc X) W t)) (ha : PSs X s1 (tS (kc X) W m1)) (hb : PSs X s2 (tS (kc X) W m2)) : PS X (.If c s1 s2 pos) (tS (kc X) W (mIfS t m1 m2)) := (ps_if hc ha hb).imp fun D σ H => by
  rintro ⟨φ, env, h, hr, er, o⟩
  refine tS_step hr er o fun φ1 H1 h1 x u k1 hr1 er1 t1 o1 => ?_
  cases t1
  cases x with
  | true => rw [if_pos rfl]; exact ⟨φ1, env, h1, hr1, er1, o1⟩
  | false => rw [if_neg Bool.false_ne_true]; exact ⟨φ1, env, h1, hr1, er1, o1⟩
def mBreak : MS := fun env h => .bk env h
def mCont : MS := fun env h => .ct env h
theorem ss_break : PS X (.Break pos) (tS (kc X) W mBreak) := ps_break.imp fun D σ H => by
  rintro ⟨φ, env, h, hr, er, o⟩
  exact o φ σ H Keep.refl hr er
theorem ss_cont : PS X (.Continue pos) (tS (kc X) W mCont) := ps_continue.imp fun D σ H => by
  rintro ⟨φ, env, h, hr, er, o⟩
  exact o φ σ H Keep.refl hr er
theorem ss_pass : PS X (.Pass pos) (tS (kc X) W mNext) := ps_pass.imp fun D σ H => by
  rintro ⟨φ, env, h, hr, er, o⟩
  exact o φ σ H Keep.refl hr er

/-! ### loops -/
/-- what a turn's body leaves: on with k, out, or away -/
def S.turn (r : S) (k : MS) : S := match r with
  | .nx e h => k e h
  | .ct e h => k e h
  | .bk e h => .nx e h
  | r => r
def forGo (it : MIt) (tg : MG) (body : MS) : Nat → Nat → MS
  | 0, _, _, _ => .bad
  | n + 1, i, env, h => match it i h with
    | .stop => .nx env h
    | .bad => .bad
    | .item x => match tg x env with
      | none => .bad
      | some env' => (body env' h).turn (forGo it tg body n (i + 1))
noncomputable def mFor (mi : MI) (tg : MG) (body : MS) : MS := fun env h => (mi env h).andS env fun it h1 => forGo it tg body fuel 0 env h1
theorem turn_ok {K : KC} {φ : List Addr} {H : Hp} {r : S} {k : MS} {D : Ends} {N : St → Hp → Prop} (o : OkS K W φ H (r.turn k) D) (hn : ∀ φ' σ' H' env' h', Keep φ H φ' H' → HR K φ' H' h' → ER K φ' H' σ' env' → OkS K W φ' H' (k env' h') D → N σ' H') :
    OkS K W φ H r { D with nx := N, ct := N, bk := D.nx } := by
  cases r with
  | nx e h' => exact fun φ' σ' H' k' r t => hn φ' σ' H' e h' k' r t (OkS.mono o k')
  | ct e h' => exact fun φ' σ' H' k' r t => hn φ' σ' H' e h' k' r t (OkS.mono o k')
  | bk e h' => exact o
  | rt v h' => exact o
  | exc x e h' => exact o
  | bad => exact o
theorem ss_for {tg iter : Expr} {body : List Stmt} {g : TG} {mg : MG} {own : List Nat} {mi : MI} {mbd : MS} (hp : PassesOwn (model X.prog X.w) X.A X.env X.xe) (hc : X.calm = true) (hi : PI X tg iter (tI (kc X) W mi)) (hg : PG X tg g) (hgm : GOk (kc X) g own mg) (hb : PSs X body (tS (kc X) W mbd)) (hs : ∀ x, foldedSetIterable iter X.env x = pure x := by intro _; rfl) :
    PS X (.For tg iter body [] pos) (tS (kc X) W (mFor mi mg mbd)) := (ps_for hp hc hi hg hb hs).imp fun D σ H => by
  rintro ⟨φ, env, h, hr, er, o⟩
  refine tS_step hr er o fun φ1 H1 h1 it J k1 hr1 er1 hw o1 => ?_
  refine ⟨fun i n σ H => ∃ φ env h, Keep φ1 H1 φ H ∧ HR (kc X) φ H h ∧ ER (kc X) φ H σ env ∧ OkS (kc X) W φ H (forGo it mg mbd n i env h) D, ⟨fuel, φ1, env, h1, Keep.refl, hr1, er1, o1⟩, ?_⟩
  rintro i n σ H ⟨φ, env, h, k, hr, er, o⟩
  cases n with
  | zero => exact o.elim
  | succ n =>
    unfold forGo at o
    cases e : it i h with
    | bad => simp only [e] at o; exact o.elim
    | stop =>
      simp only [e] at o
      exact .inl ⟨hw.stop φ H h i k hr e, OkS.nx_here o hr er⟩
    | item x =>
      simp only [e] at o
      obtain ⟨hgo, hy⟩ := hw.go φ H h i x k hr e
      refine .inr ⟨hgo, fun σ H => ∃ φ env h, Keep φ1 H1 φ H ∧ HR (kc X) φ H h ∧ ER (kc X) φ H σ env ∧ OkS (kc X) W φ H (forGo it mg mbd n (i + 1) env h) D, fun σ' H' q => ⟨n, Nat.lt_succ_self n, q⟩, fun u H' y => ?_⟩
      obtain ⟨k2, hr2, t2⟩ := hy u H' y
      cases et : mg x env with
      | none => simp only [et] at o; exact o.elim
      | some env' =>
        simp only [et] at o
        refine hgm.run φ H' σ env x u env' _ (er.keep k2) t2 et fun σ2 er3 _ => ⟨φ, env', h, hr2, er3, ?_⟩
        exact turn_ok (OkS.mono o k2) fun φ' σ' H'' e' h' k' hr' er' o' => ⟨φ', e', h', (k.trans k2).trans k', hr', er', o'⟩
def whileGo (t : MT) (body : MS) : Nat → MS
  | 0, _, _ => .bad
  | n + 1, env, h => (t env h).andS env fun b h1 => if b = true then (body env h1).turn (whileGo t body n) else .nx env h1
noncomputable def mWhile (t : MT) (body : MS) : MS := whileGo t body fuel
theorem ss_while {c : Expr} {body : List Stmt} {t : MT} {mbd : MS} (hp : PassesOwn (model X.prog X.w) X.A X.env X.xe) (hc : PT X c (tT (kc X) W t)) (hb : PSs X body (tS (kc X) W mbd)) : PS X (.While c body [] pos) (tS (kc X) W (mWhile t mbd)) := (ps_while hp hc hb).imp fun D σ H => by
  rintro ⟨φ, env, h, hr, er, o⟩
  refine ⟨fun n σ H => ∃ φ env h, HR (kc X) φ H h ∧ ER (kc X) φ H σ env ∧ OkS (kc X) W φ H (whileGo t mbd n env h) D, ⟨fuel, φ, env, h, hr, er, o⟩, ?_⟩
  rintro n σ H ⟨φ, env, h, hr, er, o⟩
  cases n with
  | zero => exact o.elim
  | succ n =>
    unfold whileGo at o
    refine tS_step hr er o fun φ1 H1 h1 x u k1 hr1 er1 t1 o1 => ?_
    cases t1
    cases x with
    | false => rw [if_neg Bool.false_ne_true]; exact OkS.nx_here o1 hr1 er1
    | true =>
      rw [if_pos rfl]
      refine ⟨fun σ H => ∃ φ env h, HR (kc X) φ H h ∧ ER (kc X) φ H σ env ∧ OkS (kc X) W φ H (whileGo t mbd n env h) D, fun σ' H' q => ⟨n, Nat.lt_succ_self n, q⟩, φ1, env, h1, hr1, er1, ?_⟩
      exact turn_ok o1 fun φ' σ' H'' e' h' k' hr' er' o' => ⟨φ', e', h', hr', er', o'⟩
end

/-! ### defs -/
def mDef (np N : Nat) (body : MS) : List MV → MH → R MV := fun xs h => if xs.length = np then match body (xs.map some ++ List.replicate (N - np) none) h with
    | .nx _ h' => .ok .non h'
    | .rt v h' => .ok v h'
    | .exc x _ h' => .exc x h'
    | _ => .bad
  else .bad
theorem ER.start {K : KC} {φ : List Addr} {H : Hp} {N : List Str} {np : Nat} {xs : List MV} {vs : List V} (ts : IsVs K φ H xs vs) (hl : vs.length = np) : ER K φ H (L2.start N vs) (xs.map some ++ List.replicate (N.length - np) none) := by
  have e := ts.length
  refine ⟨by unfold L2.start; simp; omega, fun i x q => ?_⟩
  unfold L2.start
  by_cases hi : i < xs.length
  · rw [List.getElem?_append_left (by simpa using hi)] at q
    rw [List.getElem?_append_left (by simp; omega)]
    rw [List.getElem?_map] at q ⊢
    cases g : xs[i]? with
    | none => rw [g] at q; cases q
    | some y =>
      rw [g] at q
      cases q
      obtain ⟨v, e1, t⟩ := ts.get g
      exact ⟨v, by rw [e1]; rfl, t⟩
  · rw [List.getElem?_append_right (by simp; omega)] at q
    rw [List.getElem?_replicate] at q
    split at q <;> cases q
section
variable {P : Program} {w : World} {K : PySem.W.Frag} {mg : Str → Option Value} {base : Heap}
theorem def_ok {x qual : Str} {st : Stmt} {f : Addr} {fd : FuncData} {N ps : List Str} {k : Nat} {body : MS} (F : Fun K x qual st f fd) (S : FnScope N ps (defScope st))
    (hbody : ∀ (cdv : Value) (A : Around) (outer : List Env) (s : Shared) (H : Hp) (E : XK), Room k (A.deeper (envOfC qual (defScope st) s.heap.objs.size f cdv)) →
      PSs (cxOf CX0 P w K mg base N qual (defScope st) f cdv A outer s H E).nox (defBody st) (tS ⟨K, mg⟩ W0 body)) : FnOk P w K mg base CX0 (k + 1) f fd ps (spM ⟨K, mg⟩ ps.length (mDef ps.length N.length body)) := by
  refine F.ok S (fun vs H Q E h => h.1) fun cdv A outer s H vs Q E hr h => ⟨_, hbody cdv A outer s H E hr, ?_⟩
  obtain ⟨hl, φ, xs, h0, hr0, ts, o⟩ := h
  refine ⟨φ, _, h0, hr0, ER.start (N := N) ts hl, ?_⟩
  unfold mDef at o
  rw [if_pos (by rw [← ts.length]; exact hl)] at o
  cases q : body (xs.map some ++ List.replicate (N.length - ps.length) none) h0 with
  | nx e h' =>
    rw [q] at o
    exact fun φ' σ' H' k' hr' _ => o φ' H' .non k' hr' .non
  | rt v h' => rw [q] at o; exact fun φ' H' u k' hr' t => o φ' H' u k' hr' t
  | exc x e h' => rw [q] at o; exact fun φ' σ' H' k' hr' _ => o φ' H' k' hr'
  | bk e h' => rw [q] at o; exact o.elim
  | ct e h' => rw [q] at o; exact o.elim
  | bad => rw [q] at o; exact o.elim
/-- F may stand for G: what G's answer is fit for, F's is -/
def Sim (h : MH) (r r' : R MV) : Prop := ∀ (K : KC) (Z : XW) (φ : List Addr) (H : Hp) (Q : VK), HR K φ H h → OkG K (IsV K) Z φ H r' Q → OkG K (IsV K) Z φ H r Q
theorem Sim.refl {h : MH} {r : R MV} : Sim h r r := fun _ _ _ _ _ _ o => o
theorem Sim.bad {h : MH} {r : R MV} : Sim h r .bad := fun _ _ _ _ _ _ o => o.elim
theorem def_as {f : Addr} {fd : FuncData} {ps : List Str} {k np : Nat} {F G : List MV → MH → R MV} (hF : FnOk P w K mg base CX0 k f fd ps (spM ⟨K, mg⟩ np F)) (hs : ∀ xs h, xs.length = np → Sim h (F xs h) (G xs h)) : FnOk P w K mg base CX0 k f fd ps (spM ⟨K, mg⟩ np G) :=
  hF.imp fun vs H Q E => by
    rintro ⟨hl, φ, xs, h, hr, ts, o⟩
    exact ⟨hl, φ, xs, h, hr, ts, hs xs h (by rw [← ts.length]; exact hl) _ _ φ H Q hr o⟩
end
end Mv

set_option maxHeartbeats 4000000
namespace Mv
open PySem PySem.Spec L2
open PyProof.Rows hiding St

/-! ### what lies below a heap's length -/
mutual
def MV.und (n : Nat) : MV → Prop
  | .ref k => k < n
  | .tup xs => MV.unds n xs
  | _ => True
def MV.unds (n : Nat) : List MV → Prop
  | [] => True
  | x :: xs => MV.und n x ∧ MV.unds n xs
end
theorem unds_iff {n : Nat} : ∀ {xs : List MV}, MV.unds n xs ↔ ∀ x ∈ xs, MV.und n x
  | [] => by simp [MV.unds]
  | x :: xs => by simp [MV.unds, unds_iff (xs := xs)]
mutual
theorem IsV.und {K : KC} {φ : List Addr} {H : Hp} : ∀ {x : MV} {v : V}, IsV K φ H x v → MV.und φ.length x
  | _, _, .non => by simp [MV.und]
  | _, _, .bl b => by simp [MV.und]
  | _, _, .int i => by simp [MV.und]
  | _, _, .str s => by simp [MV.und]
  | _, _, .ref e => by simp only [MV.und]; exact (List.getElem?_eq_some_iff.mp e).1
  | _, _, .tup h t => by simp only [MV.und]; exact IsVs.unds t
theorem IsVs.unds {K : KC} {φ : List Addr} {H : Hp} : ∀ {xs : List MV} {vs : List V}, IsVs K φ H xs vs → MV.unds φ.length xs
  | _, _, .nil => by simp [MV.unds]
  | _, _, .cons h t => by simp only [MV.unds]; exact ⟨IsV.und h, IsVs.unds t⟩
end
mutual
theorem IsV.less {K : KC} {φ : List Addr} {H : Hp} {n : Nat} : ∀ {x : MV} {v : V}, IsV K φ H x v → MV.und n x → IsV K (φ.take n) H x v
  | _, _, .non, _ => .non
  | _, _, .bl b, _ => .bl b
  | _, _, .int i, _ => .int i
  | _, _, .str s, _ => .str s
  | _, _, .ref e, h => .ref (by rw [List.getElem?_take_of_lt (by simpa [MV.und] using h)]; exact e)
  | _, _, .tup q t, h => .tup q (IsVs.less t (by simpa [MV.und] using h))
theorem IsVs.less {K : KC} {φ : List Addr} {H : Hp} {n : Nat} : ∀ {xs : List MV} {vs : List V}, IsVs K φ H xs vs → MV.unds n xs → IsVs K (φ.take n) H xs vs
  | _, _, .nil, _ => .nil
  | _, _, .cons q t, h => by
    simp only [MV.unds] at h
    exact .cons (IsV.less q h.1) (IsVs.less t h.2)
end
def MO.und (n : Nat) : MO → Prop
  | .lst xs => MV.unds n xs
  | .frz xs => MV.unds n xs
  | .dct kvs => MV.unds n (kvs.map (·.2))
  | .fdc kvs => MV.unds n (kvs.map (·.2))
  | .ins _ fs => MV.unds n fs
theorem OR.less {K : KC} {φ : List Addr} {H : Hp} {n : Nat} {a : Addr} {o : MO} (r : OR K φ H a o) (h : MO.und n o) : OR K (φ.take n) H a o := by
  cases o with
  | lst xs => obtain ⟨l, vs, e, t⟩ := r; exact ⟨l, vs, e, t.less h⟩
  | frz xs => obtain ⟨l, ob, vs, e, t⟩ := r; exact ⟨l, ob, vs, e, t.less h⟩
  | dct _ => obtain ⟨ws, q, l, ek, t⟩ := r; exact ⟨ws, q, l, ek, t.less h⟩
  | fdc _ => obtain ⟨o, ws, q, l, ek, t⟩ := r; exact ⟨o, ws, q, l, ek, t.less h⟩
  | ins _ _ => obtain ⟨gs, q, t⟩ := r; exact ⟨gs, q, t.less h⟩
theorem OR.und {K : KC} {φ : List Addr} {H : Hp} {a : Addr} {o : MO} (r : OR K φ H a o) : MO.und φ.length o := by
  cases o with
  | lst xs => obtain ⟨l, vs, e, t⟩ := r; exact t.unds
  | frz xs => obtain ⟨l, ob, vs, e, t⟩ := r; exact t.unds
  | dct _ => obtain ⟨ws, q, l, ek, t⟩ := r; exact t.unds
  | fdc _ => obtain ⟨o, ws, q, l, ek, t⟩ := r; exact t.unds
  | ins _ _ => obtain ⟨gs, q, t⟩ := r; exact t.unds
def Below (n : Nat) (h : MH) : Prop := ∀ o ∈ h, MO.und n o
theorem HR.below {K : KC} {φ : List Addr} {H : Hp} {h : MH} (r : HR K φ H h) : Below h.length h := fun o ho => by
  obtain ⟨n, e⟩ := List.mem_iff_getElem?.mp ho
  obtain ⟨a, ea⟩ := r.addr e
  rw [← r.len]
  exact (r.at_ n a o ea e).und
/-- the end of a small heap is forgotten -/
theorem HR.forget {K : KC} {φ : List Addr} {H : Hp} {h g : MH} (r : HR K φ H (h ++ g)) (b : Below h.length h) : HR K (φ.take h.length) H h := by
  have hl := r.len
  rw [List.length_append] at hl
  refine ⟨by rw [List.length_take]; omega, r.nd.sublist (List.take_sublist _ _), fun n a o e1 e2 => ?_, r.tb⟩
  have hn := (List.getElem?_eq_some_iff.mp e2).1
  rw [List.getElem?_take_of_lt hn] at e1
  exact (r.at_ n a o e1 (by rw [List.getElem?_append_left hn]; exact e2)).less (b o (List.mem_of_getElem? e2))
theorem Keep.forget {φ φ' : List Addr} {H H' : Hp} {n : Nat} (k : Keep φ H φ' H') (h : φ.length ≤ n) : Keep φ H (φ'.take n) H' := by
  obtain ⟨mo, rfl, f⟩ := k.ext
  refine ⟨⟨mo.take (n - φ.length), ?_, fun b hb => f b (List.mem_of_mem_take hb)⟩, k.dom, k.out, k.tup, k.frz⟩
  rw [List.take_append, List.take_of_length_le h]
/-- what a call leaves behind is forgotten: its answer holds no new object -/
theorem sim_drop {h h2 g : MH} {v : MV} (hl : h2.length = h.length) (hb : Below h.length h → Below h.length h2) (bv : MV.und h.length v) : Sim h (.ok v (h2 ++ g)) (.ok v h2) := by
  intro K Z φ H Q hr o φ' H' u k hr' t
  have b2 := hb hr.below
  refine o (φ'.take h2.length) H' u (k.forget (by rw [hr.len, hl]; exact Nat.le_refl _)) (hr'.forget (by rw [hl]; exact b2)) (t.less (by rw [hl]; exact bv))
theorem sim_drop0 {h g : MH} {v : MV} (bv : MV.und h.length v) : Sim h (.ok v (h ++ g)) (.ok v h) := sim_drop rfl id bv
/-- the answer is one new list -/
theorem sim_list {h h2 g : MH} {n : Nat} {xs : List MV} (hl : h2.length = h.length) (hb : Below h.length h → Below h.length h2) (e : (h2 ++ g)[n]? = some (.lst xs)) (hn : h.length ≤ n) (bx : MV.unds h.length xs) : Sim h (.ok (.ref n) (h2 ++ g)) (.ok (.ref h.length) (h2 ++ [.lst xs])) := by
  intro K Z φ H Q hr o φ' H' u k hr' t
  have b2 := hb hr.below
  cases t with
  | @ref _ p ep =>
    have hw := hr'.at_ n p _ ep e
    obtain ⟨l, vs, e1, ts⟩ := hw
    have hlen := hr'.len
    rw [List.length_append] at hlen
    have k0 : Keep φ H (φ'.take h2.length) H' := k.forget (by rw [hr.len, hl]; exact Nat.le_refl _)
    have r0 := hr'.forget (h := h2) (by rw [hl]; exact b2)
    have npt : p ∉ φ'.take h2.length := by
      intro z
      obtain ⟨m, em⟩ := List.mem_iff_getElem?.mp z
      have hm : m < h2.length := by
        have := (List.getElem?_eq_some_iff.mp em).1
        rw [List.length_take] at this
        omega
      rw [List.getElem?_take_of_lt hm] at em
      obtain ⟨g1, x1⟩ := List.getElem?_eq_some_iff.mp em
      obtain ⟨g2, x2⟩ := List.getElem?_eq_some_iff.mp ep
      have := (List.getElem_inj hr'.nd).mp (x1.trans x2.symm)
      omega
    have hp : H p = none := by
      obtain ⟨mo, e3, f⟩ := k.ext
      refine f p ?_
      have : φ'[n]? = some p := ep
      rw [e3, List.getElem?_append_right (by rw [hr.len]; exact hn)] at this
      exact List.mem_of_getElem? this
    refine o (φ'.take h2.length ++ [p]) H' (.ref p) (k0.adopt hp) (r0.adopt npt e1 l (ts.less (by rw [hl]; exact bx))) (.ref ?_)
    rw [← hl]
    exact lay_at r0
theorem sim_list0 {h g : MH} {n : Nat} {xs : List MV} (e : (h ++ g)[n]? = some (.lst xs)) (hn : h.length ≤ n) (bx : MV.unds h.length xs) : Sim h (.ok (.ref n) (h ++ g)) (.ok (.ref h.length) (h ++ [.lst xs])) := sim_list rfl id e hn bx
@[simp] theorem und_int (n : Nat) (i : Int) : MV.und n (.int i) := by simp [MV.und]
@[simp] theorem und_bl (n : Nat) (i : Bool) : MV.und n (.bl i) := by simp [MV.und]
@[simp] theorem und_non (n : Nat) : MV.und n .non := by simp [MV.und]
@[simp] theorem und_str (n : Nat) (i : Str) : MV.und n (.str i) := by simp [MV.und]
theorem unds_of {n : Nat} {xs : List MV} (h : ∀ x ∈ xs, MV.und n x) : MV.unds n xs := unds_iff.mpr h
theorem und_tup {n : Nat} {xs : List MV} (h : ∀ x ∈ xs, MV.und n x) : MV.und n (.tup xs) := by simp only [MV.und]; exact unds_of h

/-! ### a def as it stands -/
structure Def (P : Program) (w : World) (K : PySem.W.Frag) (mg : Str → Option Value) (base : Heap) (k : Nat) (x : Str) (np : Nat) (G : List MV → MH → R MV) : Prop where
  ex : ∃ f fd ps, FnOk P w K mg base CX0 k f fd ps (spM ⟨K, mg⟩ np G) ∧ mg x = some (.ref f) ∧ PySem.W.keepIn K (.ref f) = true ∧ Binds K fd ps []
section
variable {P : Program} {w : World} {K : PySem.W.Frag} {mg : Str → Option Value} {base : Heap} {k np : Nat} {x : Str} {F G : List MV → MH → R MV}
theorem Def.as (d : Def P w K mg base k x np F) (hs : ∀ xs h, xs.length = np → Sim h (F xs h) (G xs h)) : Def P w K mg base k x np G := by
  obtain ⟨f, fd, ps, h1, h2, h3, h4⟩ := d.ex
  exact ⟨f, fd, ps, def_as h1 hs, h2, h3, h4⟩
end
section
variable {X : Cx} {W : WT} {pos : Pos} {a : Expr} {es : List Expr} {mr : MA} {ma : ME}
theorem se_do {k j np : Nat} {x : Str} {p : Pos} {F : List MV → MH → R MV} (D : Def X.prog X.w X.K X.mg X.base k x np F) (hr : Room j X.A) (hg : Gl X x) (ha : PA X (a :: es) (tA (kc X) W mr)) (hj : k ≤ j := by decide) (hd : (x == ("__debug__" : Str)) = false := by decide)
    (he : starEach (a :: es) X.env = (false, eval a X.env) :: starEach es X.env := by rfl) (hpl : (backTo pos (starEach es X.env)).any (·.1) = false := by rfl) : PE X (.Call (.Name x p) (a :: es) [] pos) (tE (kc X) W (mDo np F mr)) := by
  obtain ⟨f, fd, ps, h1, h2, h3, h4⟩ := D.ex
  exact se_call h1 (hr.mono hj) hg h2 h3 h4 ha hd he hpl
theorem hu65 {k : Nat} {A : Around} (r : Room k A) : A.units + 65 < cLine := by have := r.un; omega
def fNeg : MV → MH → R MV := fun x h => match x with
  | .int i => .ok (.int (-i)) h
  | _ => .bad
def mNeg (m : ME) : ME := fun env h => (m env h).bind fNeg
theorem se_neg (ha : PE X a (tE (kc X) W ma)) : PE X (.UnaryOp .USub a pos) (tE (kc X) W (mNeg ma)) := (pe_un un_neg ha).imp fun σ H Q => by
  rintro ⟨φ, env, h, hr, er, o⟩
  refine tG_step hr er o fun φ1 H1 h1 x u k1 hr1 er1 t1 o1 => ?_
  cases t1 with
  | int i => exact ⟨i, rfl, OkG.ok_here o1 hr1 (.int _)⟩
  | _ => exact o1.elim
end
end Mv

set_option maxHeartbeats 4000000
namespace PySem
open Sem (wp)
open AutoSeq1 (wpAny_loadPart')
/-- enumerate(v), one argument, of anything that begins -/
theorem mv_enumerate_new1 {v : Value} {o : Obj} {H : Heap → Prop} (B : Begins v o H) :
    Meets (Builtin.«enumerate.__new__» ⟨[.type "enumerate", v], []⟩) (fun _ R s => H s.heap ∧
      R (.ok (.ret (.ref (s.heap.push o).objs.size))) { s with heap := (s.heap.push o).push { cls := .type "enumerate", data := .fields #[.none, .bool false, .ref s.heap.objs.size, rawInt 0, .none, .none] } }) :=
  .of_wp fun prog w A R s h => by
    obtain ⟨hp, g, d, tk, os⟩ := s; obtain ⟨h1, h⟩ := h
    have hsub := sub_enumerate
    have q1 : ∀ {A' : Around} {E : Value → Shared → Prop} {Q : Value → Shared → Prop}, Q (.ref hp.objs.size) ⟨hp.push o, g, d, tk, os⟩ → wpAny (model prog w) A' (pyIter v) Q E ⟨hp, g, d, tk, os⟩ :=
      fun q => B.iter prog w _ _ ⟨hp, g, d, tk, os⟩ _ h1 q
    wp_walk using q1
    refine wpAny_stack_any fun st => wpAny_pure ?_
    split
    · rename_i c _ _ _ _ _
      cases (c == Value.type "enumerate")
      · wp_walk using q1
        exact ⟨_, rfl, h⟩
      · wp_walk using q1
        exact ⟨_, rfl, h⟩
    · wp_walk using q1
      exact ⟨_, rfl, h⟩
theorem mv_call_enumerate {prog : Program} {w : World} {A : Around} {E : Value → Shared → Prop} {s : Shared} {v : Value} {o : Obj} {H : Heap → Prop} {Q : Value → Shared → Prop} (B : Begins v o H) (h1 : H s.heap)
    (h : ∀ h', IsEnum h' (s.heap.objs.size + 1) s.heap.objs.size 0 .none → h'.get? s.heap.objs.size = some o → h'.objs.size = s.heap.objs.size + 2 →
      (∀ b o, s.heap.get? b = some o → h'.get? b = some o) → Q (.ref (s.heap.objs.size + 1)) { s with heap := h' }) :
    wpAny (model prog w) A (call (.type "enumerate") [v]) Q E s := by
  refine callType_new F.called_enumerate (by decide) (F.typeCall_enumerate_1 _) (F.newCall_enumerate_1 _) (fun obj => F.args_object_init_2 obj _) F.entry_enumerate_new
    (mv_enumerate_new1 B) ⟨h1, ?_⟩
  have hz : (s.heap.push o).objs.size = s.heap.objs.size + 1 := Heap.size_push ..
  show _ ∧ _
  rw [hz]
  have he : IsEnum ((s.heap.push o).push { cls := .type "enumerate", data := .fields #[.none, .bool false, .ref s.heap.objs.size, rawInt 0, .none, .none] }) (s.heap.objs.size + 1) s.heap.objs.size 0 .none := by
    have := Heap.get?_push_size (s.heap.push o) (o := { cls := .type "enumerate", data := .fields #[.none, .bool false, .ref s.heap.objs.size, rawInt 0, .none, .none] }) rfl
    rw [hz] at this; exact this
  refine ⟨⟨_, he, rfl⟩, h _ he (Heap.get?_push_of_some _ (Heap.get?_push_size _ B.free)) (by rw [Heap.size_push, hz]) fun b o x => Heap.get?_push_of_some _ (Heap.get?_push_of_some _ x)⟩
end PySem
namespace Mv
open PySem PySem.Spec L2
open PyProof.Rows hiding St

/-! ### enumerate of a tuple -/
def IteT (K : PySem.W.Frag) (a : Addr) : It :=
  ⟨fun i H => ∃ (xs : List V) (x : V), SqT K H a xs ∧ xs[i]? = some x, fun i H v H' => ∃ T x, v = .ref T ∧ H T = none ∧ H' = upd H T (.tup [.int (i : Nat), x]) ∧ ∀ xs, SqT K H a xs → xs[i]? = some x, fun i H => ∃ xs : List V, SqT K H a xs ∧ xs.length ≤ i⟩
theorem turn_enumT {P : Program} {w : World} {K : PySem.W.Frag} {elts : List Expr} {kk : Nat} {tpos : Pos} (a e it : Addr) :
    Turn P w K (.Tuple elts kk tpos) (IteT K a) [e, it] e (fun i h => (∃ old, IsEnum h e it ((i : Nat) : Int) old) ∧ h.IsTupleIter it a i ∧ e ≠ it) where
  mem := by simp
  obj := fun i h st b hb => by
    obtain ⟨⟨old, he⟩, ⟨o, ho, hc, hd⟩, _⟩ := st
    have e' : b = e ∨ b = it := by simpa using hb
    rcases e' with z | z
    · rw [z]; exact ⟨_, he, fun v q => nomatch q⟩
    · rw [z]; exact ⟨o, ho, fun v q => by rw [hd] at q; cases q⟩
  keep := fun i h h' st k => let ⟨⟨old, he⟩, hi, hne⟩ := st; ⟨⟨old, k e (by simp) _ he⟩, hi.at fun o q => k it (by simp) o q, hne⟩
  item := by
    intro X hP hw hK hc i pins s σ H E I hf st hg
    subst hP hw hK
    obtain ⟨⟨old, he⟩, hit, hne⟩ := st
    obtain ⟨xs, x, hq, hx⟩ := hg
    obtain ⟨its, rv, p, hz⟩ := I.tuple hq
    obtain ⟨u, hu, ru⟩ := rv.get hx
    have hel : e < s.heap.objs.size := Heap.lt_size he
    have hil : it < s.heap.objs.size := by obtain ⟨_, q, _⟩ := hit; exact Heap.lt_size q
    have hta : s.heap.IsTuple a its.toArray := p
    have nea : a ≠ it := fun z => by
      obtain ⟨o1, h1, h2, _⟩ := hit
      obtain ⟨o2, h3, h4, _⟩ := hta
      rw [z, h1] at h3; cases h3
      rw [h2] at h4
      injection h4 with h5
      exact absurd h5 (by decide)
    have nae : a ≠ e := fun z => by
      obtain ⟨o2, h3, h4, _⟩ := hta
      rw [z, he] at h3; cases h3
      injection h4 with h5
      exact absurd h5 (by decide)
    have hlt : i < its.toArray.size := by
      have := (List.getElem?_eq_some_iff.mp hu).1
      simpa using this
    refine wpAny_pyNext_enum_itemD (Draws.tuple (A := X.A.in1) (I.ok.hd hc) it a nea its.toArray) he ⟨hit, hta⟩ hlt hne (by simp [hne, Ne.symm nae]) fun x' h' tk hP ho hst' hT hsz hk => ?_
    have ex : x' = u := by
      have : its.toArray[i]? = some u := by simpa using hu
      rw [this] at hP; cases hP; rfl
    subst ex
    refine ⟨_, rfl, wpAny_letOwnedTupleGo_enum (s := { s with heap := h', toks := tk + 1 }) ho fun h'' he' sb => ?_⟩
    have hT2 : h''.get? s.heap.objs.size = some { cls := .type "tuple", data := .seq #[.int i tk, x'] } := (sb.2 _ (Nat.ne_of_gt hel)).trans hT
    have new : ObjOk X.prog X.w (upd H s.heap.objs.size (.tup [.int (i : Nat), x])) h'' s.heap.objs.size (.tup [.int (i : Nat), x]) :=
      ⟨by show 2 ≤ sizeLine; decide, [.int i tk, x'], .cons ⟨_, rfl⟩ (.cons ru .nil), ⟨_, hT2, rfl, _, rfl⟩⟩
    have I1 : Inv X pins σ (upd H s.heap.objs.size (.tup [.int (i : Nat), x])) { s with heap := h'', toks := tk + 1 } :=
      I.turnedNew (ch := [e, it]) (fun b ob hb q => (sb.2 b (fun z => hb (by simp [z]))).trans (hk b ob (fun z => hb (by simp [z])) (fun z => hb (by simp [z])) q)) hf (Nat.le_refl _) new
    refine ⟨.ref s.heap.objs.size, _, I1, rfl, ⟨_, x, rfl, I.hok.fresh (Nat.le_refl _), rfl, fun ys hy => by rw [I.tuple_inj hy hq]; exact hx⟩, ⟨⟨x', ?_⟩, hst'.1.at fun o q => (sb.2 it (Ne.symm hne)).trans q, hne⟩, fun b hb => ?_⟩
    · have e1 : ((i + 1 : Nat) : Int) = (i : Int) + 1 := by omega
      rw [e1]; exact he'
    · have hb' : b < s.heap.objs.size := by
        have e' : b = e ∨ b = it := by simpa using hb
        rcases e' with z | z
        · rw [z]; exact hel
        · rw [z]; exact hil
      rw [upd_ne (Nat.ne_of_lt hb')]
      exact (hf b hb).1
  done := by
    intro X hP hw hK hc i pins s σ H E I hf st hg
    subst hP hw hK
    obtain ⟨⟨old, he⟩, hit, hne⟩ := st
    obtain ⟨xs, hq, hx⟩ := hg
    obtain ⟨its, rv, p, hz⟩ := I.tuple hq
    obtain ⟨f0, f1, f2, f3, f4, f5⟩ := hf it (by simp)
    have hl := rv.length
    have hta : s.heap.IsTuple a its.toArray := p
    have hD : wpAny (model X.prog X.w) X.A (pyNext (.ref e)) (fun r s1 => r = none ∧ Inv X pins σ H s1) E s := by
      unfold pyNext
      have hT : s.TypeIs (.ref e) "enumerate" := ⟨_, he, rfl⟩
      refine wpAny_bind (wpAny_attempt (wpAny_callSpecial?_slot (name := Str.ofString "__next__") hT F.slot_enumerate_next
        (wpAny_call_entry F.slot_enumerate_next hT F.entry_enumerate_next ?_ (F.args_enumerate_next_1 _))))
      show wpAny _ _ (field (.ref e) 2 >>= _) _ _ _
      refine wpAny_bind (wpAny_field he rfl (x := .ref it) rfl ?_)
      refine wpAny_bind (wpAny_nextOf_tuple_end (A := X.A.in1) (I.ok.hd hc) hit hta (by simp; omega) fun h' x he' hx' => ?_)
      obtain ⟨o, ho, hc'⟩ := hx'
      refine wpAny_bind (wpAny_isInstance (T := "StopIteration") (b := true) ⟨o, ho, hc'⟩ isSubtype_stop ?_)
      exact wpAny_pure ⟨rfl, I.turned (t' := s.toks) (fun b o hb q => he' b o hb q) f0 f1 f3 f4 f5⟩
    exact hD
  self := fun A i s Q E st h => let ⟨⟨_, he⟩, _⟩ := st; wpAny_pyIter_enum he h
theorem walksET {K : KC} {φ0 : List Addr} {H0 : Hp} {xs : List MV} {vs : List V} {a : Addr} (ha : SqT K H0 a vs) (ts : IsVs K φ0 H0 xs vs) : WalksM K (IteT K a) (itE (itT xs)) φ0 H0 := by
  constructor
  · intro φ H h i x k hr e
    unfold itE at e
    cases q0 : itT xs i h with
    | item y =>
      simp only [q0] at e
      cases e
      obtain ⟨v, e1, t⟩ := (ts.keep k).get (nx_item q0)
      refine ⟨⟨vs, v, k.sqT ha, e1⟩, fun u H' z => ?_⟩
      obtain ⟨T, x', rfl, hT, rfl, z⟩ := z
      have e2 := z vs (k.sqT ha)
      rw [e1] at e2
      cases e2
      exact ⟨Keep.new hT, hr.new hT, .tup (SqT.of upd_same) (.cons (.int _) (.cons (t.keep (Keep.new hT)) .nil))⟩
    | stop => simp only [q0] at e; cases e
    | bad => simp only [q0] at e; cases e
  · intro φ H h i k hr e
    unfold itE at e
    cases q0 : itT xs i h with
    | item y => simp only [q0] at e; cases e
    | stop => exact ⟨vs, k.sqT ha, by rw [ts.length]; exact nx_stop q0⟩
    | bad => simp only [q0] at e; cases e
section
variable {X : Cx} {W : WT} {pos : Pos} {a b c : Expr} {ma mb mc : ME} {es : List Expr} {mr : MA} {tg : Expr}
/-- enumerate of a list or a tuple -/
def mEnumV (r : MA) : MI := fun env h => (r env h).bind fun xs h1 => match xs with
  | [.tup xs] => .ok (itE (itT xs)) h1
  | [.ref n] => match itemsOf h1 (.ref n) with
    | some _ => .ok (itE (itL n)) h1
    | none => .bad
  | _ => .bad
theorem si_enumV {p tpos : Pos} {elts : List Expr} {kk : Nat} (hg : Gl X "enumerate") (hm : X.mg "enumerate" = none) (ha : PA X [a] (tA (kc X) W mr)) (hs : starEach [a] X.env = [(false, eval a X.env)] := by rfl) :
    PI X (.Tuple elts kk tpos) (.Call (.Name "enumerate" p) [a] [] pos) (tI (kc X) W (mEnumV mr)) := by
  have q : PI X (.Tuple elts kk tpos) (.Call (.Name "enumerate" p) [a] [] pos) (fun σ H R => tA (kc X) W mr σ H fun vs H1 => ∃ q, vs = [.ref q] ∧ (((∃ xs, SqL X.K H1 q xs) ∧ R (Ite X.K q) H1) ∨ ((∃ xs, SqT X.K H1 q xs) ∧ R (IteT X.K q) H1))) := by
    refine ⟨fun pins s σ H R I h => ?_⟩
    refine Call_ (ld_blt I hg hm boot_enumerate (PyProof.Rows.callWith_type1 (thn (ha.run pos pins s σ H _ I h) fun us s1 ⟨vs, H1, I1, r1, q1⟩ => ?_) hs rfl))
    obtain ⟨a, ex, q⟩ := q1
    subst ex
    cases r1 with
    | cons r rr =>
      cases rr
      cases r
      have fin : ∀ b, b = s1.heap.objs.size + 1 ∨ b = s1.heap.objs.size → s1.heap.objs.size ≤ b := fun b e' => by
        rcases e' with z | z
        · rw [z]; exact Nat.le_add_right _ _
        · rw [z]; exact Nat.le_refl _
      rcases q with ⟨⟨xs, hq⟩, q⟩ | ⟨⟨xs, hq⟩, q⟩
      · obtain ⟨its, rv, p', hz⟩ := I1.list hq
        refine call_enumerate_list p'.isList fun h' he hit hsz hk => wpAny_pyIter_enum he ?_
        have I2 : Inv X pins σ H1 { s1 with heap := h' } := I1.kept (t' := s1.toks) hk
        refine ⟨s1.heap.objs.size + 1, [s1.heap.objs.size + 1, s1.heap.objs.size], _, _, H1, rfl, I2, turn_enum a (s1.heap.objs.size + 1) s1.heap.objs.size, ⟨⟨.none, he⟩, hit, Nat.succ_ne_self _⟩, fun b hb => ?_, q⟩
        have hle := fin b (by simpa using hb)
        exact I1.fpOk hle (I1.hok.fresh hle)
      · obtain ⟨its, rv, p', hz⟩ := I1.tuple hq
        have hta : s1.heap.IsTuple a its.toArray := p'
        refine mv_call_enumerate (begins_tuple a its.toArray) hta fun h' he hit hsz hk => wpAny_pyIter_enum he ?_
        have I2 : Inv X pins σ H1 { s1 with heap := h' } := I1.kept (t' := s1.toks) hk
        refine ⟨s1.heap.objs.size + 1, [s1.heap.objs.size + 1, s1.heap.objs.size], _, _, H1, rfl, I2, turn_enumT a (s1.heap.objs.size + 1) s1.heap.objs.size, ⟨⟨.none, he⟩, ⟨_, hit, rfl, rfl⟩, Nat.succ_ne_self _⟩, fun b hb => ?_, q⟩
        have hle := fin b (by simpa using hb)
        exact I1.fpOk hle (I1.hok.fresh hle)
  refine q.imp fun σ H R => ?_
  rintro ⟨φ, env, h, hr, er, o⟩
  refine tG_step hr er o fun φ1 H1 h1 xs us k1 hr1 er1 t1 o1 => ?_
  split at o1
  · rename_i xs
    obtain ⟨u, rfl, t⟩ := one_of t1
    cases t with
    | @tup p vs _ hq ts => exact ⟨p, rfl, .inr ⟨⟨vs, hq⟩, OkG.ok_here o1 hr1 (walksET hq ts)⟩⟩
  · rename_i n
    obtain ⟨u, rfl, t⟩ := one_of t1
    cases t with
    | @ref _ p ea =>
      split at o1
      · rename_i xs q
        obtain ⟨vs, hs, ts⟩ := items_list hr1 ea q
        exact ⟨p, rfl, .inl ⟨⟨vs, hs⟩, OkG.ok_here o1 hr1 (walksE ea)⟩⟩
      · exact o1.elim
  · exact o1.elim
theorem os_pow : OpF (kc X) (rI CPow fun i j => .int (i ^ j.toNat)) fPow := opF_I (fun i j => .int (i ^ j.toNat)) (fun _ _ _ _ => .int _) fun i j H Q c q => by
  have c := of_decide_eq_true c
  exact ⟨i, j, rfl, rfl, ⟨by omega, by omega, by omega⟩, q⟩

/-! ### more methods of lists -/
/-- the first place of d -/
def findAt (d : PyData) : Nat → List PyData → Option Nat
  | _, [] => none
  | i, z :: r => if PyData.eqv z d = true then some i else findAt d (i + 1) r
theorem findAt_spec {d : PyData} : ∀ (ds : List PyData) (i j : Nat), findAt d i ds = some j → i ≤ j ∧ (∃ z, ds[j - i]? = some z ∧ PyData.eqv z d = true) ∧ ∀ m z, m < j - i → ds[m]? = some z → PyData.eqv z d = false
  | [], i, j, e => by cases e
  | z :: r, i, j, e => by
    unfold findAt at e
    split at e
    · rename_i hz
      cases e
      refine ⟨Nat.le_refl _, ⟨z, by simp, hz⟩, fun m _ hm => ?_⟩
      omega
    · rename_i hz
      obtain ⟨h1, ⟨y, h2, h3⟩, h4⟩ := findAt_spec r (i + 1) j e
      refine ⟨by omega, ⟨y, ?_, h3⟩, fun m y' hm hy => ?_⟩
      · have : j - i = (j - (i + 1)) + 1 := by omega
        rw [this]; simpa using h2
      · cases m with
        | zero => simp at hy; subst hy; exact Bool.eq_false_iff.mpr hz
        | succ m => exact h4 m y' (by omega) (by simpa using hy)
def fIndex : MV → List MV → MH → R MV := fun x xs h => match xs with
  | [y] => match dataOf 12 h x, dataOf 12 h y with
    | some (.list ds), some d => match findAt d 0 ds with
      | some j => .ok (.int (j : Nat)) h
      | none => .bad
    | _, _ => .bad
  | _ => .bad
theorem ms_index : MethF (kc X) (rIndexD X.K) fIndex := by
  intro Z φ H h x xs u us Q hr t ts o
  unfold fIndex at o
  split at o
  · rename_i y
    obtain ⟨v, rfl, tv⟩ := one_of ts
    split at o
    · rename_i ds d q1 q2
      split at o
      · rename_i j q3
        obtain ⟨a1, a2, a3⟩ := data_ok hr 12 x u _ t q1
        obtain ⟨b1, b2, b3⟩ := data_ok hr 12 y v _ tv q2
        obtain ⟨h1, ⟨z, h2, h3⟩, h4⟩ := findAt_spec ds 0 j q3
        cases a1 with
        | @lst a vs _ hs ha =>
          exact ⟨a, v, d, ds, j, z, rfl, rfl, .lst hs ha, b1, shaped_ok a2 a3 (by decide), shaped_ok b2 b3 (by decide), by simpa using h2, h3, fun m z' hm hz => h4 m z' (by omega) hz, OkG.ok_here o hr (.int _)⟩
      · exact o.elim
    · exact o.elim
  · exact o.elim
theorem se_index {apos cpos : Pos} {k : Nat} (hu : Room k X.A) (ho : PE X a (tE (kc X) W ma)) (ha : PA X (b :: es) (tA (kc X) W mr))
    (hbase : attributeBase a "index" X.env (eval a X.env) = eval a X.env := by rfl)
    (hfew : ((backTo cpos (starEach (b :: es) X.env)).all (fun x => !x.1) && (backToKw cpos (keywordEach [] X.env)).all (fun x => x.1.isSome)
      && decide ((b :: es).length + ([] : List Keyword).length + (if ([] : List Keyword).isEmpty then 0 else 1) < 30)) = true := by rfl)
    (hline : (apos.endLine == cpos.line) = true := by rfl) (hs : starEach (b :: es) X.env = (false, eval b X.env) :: starEach es X.env := by rfl) (hplain : (backTo cpos (starEach es X.env)).any (·.1) = false := by rfl) :
    PE X (.Call (.Attribute a "index" apos) (b :: es) [] cpos) (tE (kc X) W (mLm fIndex ma mr)) :=
  (pe_bm PySem.F.plainAttrs_list PySem.F.slot_list_index PySem.F.type_list_index (mt_indexD (hu65 hu)) ho ha hbase hfew hline hs hplain).imp fun _ _ _ o => tLm_of ms_index o
end
end Mv

set_option maxHeartbeats 4000000
namespace Mv
open PySem PySem.Spec L2

/-! ### a spec by what its arguments encode -/
open Classical in
noncomputable def specOf {α : Type} (enc : α → List MV) (dom : α → Prop) (out : α → MH → R MV) : List MV → MH → R MV := fun xs h =>
  if q : ∃ a, enc a = xs ∧ dom a then out q.choose h else .bad
theorem specOf_eq {α : Type} {enc : α → List MV} {dom : α → Prop} {out : α → MH → R MV} (inj : ∀ a b, enc a = enc b → a = b) {a : α} (d : dom a) (h : MH) : specOf enc dom out (enc a) h = out a h := by
  unfold specOf
  have q : ∃ b, enc b = enc a ∧ dom b := ⟨a, rfl, d⟩
  rw [dif_pos q, inj _ _ q.choose_spec.1]
theorem specOf_sim {α : Type} {enc : α → List MV} {dom : α → Prop} {out : α → MH → R MV} {F : List MV → MH → R MV} (hs : ∀ a h, dom a → Sim h (F (enc a) h) (out a h)) (xs : List MV) (h : MH) : Sim h (F xs h) (specOf enc dom out xs h) := by
  unfold specOf
  split
  · rename_i q
    have := hs q.choose h q.choose_spec.2
    rw [q.choose_spec.1] at this
    exact this
  · exact Sim.bad

/-! ### loops by an invariant -/
theorem for_ind {it : MIt} {tg : MG} {body : MS} {xs : List MV} {P : S → Prop} (I : Nat → MEnv → MH → Prop)
    (hit : ∀ i env h, I i env h → it i h = nxOf xs[i]?) (stop : ∀ env h, I xs.length env h → P (.nx env h))
    (step : ∀ i x env h, xs[i]? = some x → I i env h → ∃ env', tg x env = some env' ∧ (match body env' h with
      | .nx e h' => I (i + 1) e h'
      | .ct e h' => I (i + 1) e h'
      | .bk e h' => P (.nx e h')
      | r => P r)) :
    ∀ (n i : Nat) (env : MEnv) (h : MH), I i env h → i ≤ xs.length → xs.length < n + i → P (forGo it tg body n i env h) := by
  intro n
  induction n with
  | zero => intro i env h hi hl hn; omega
  | succ n ih =>
    intro i env h hi hl hn
    unfold forGo
    rw [hit i env h hi]
    by_cases hlt : i < xs.length
    · rw [List.getElem?_eq_getElem hlt]
      obtain ⟨env', e1, s⟩ := step i xs[i] env h (List.getElem?_eq_getElem hlt) hi
      simp only [nxOf, e1]
      cases q : body env' h with
      | nx e h' => rw [q] at s; exact ih (i + 1) e h' s hlt (by omega)
      | ct e h' => rw [q] at s; exact ih (i + 1) e h' s hlt (by omega)
      | bk e h' => rw [q] at s; exact s
      | rt v h' => rw [q] at s; exact s
      | exc x e h' => rw [q] at s; exact s
      | bad => rw [q] at s; exact s
    · have : i = xs.length := by omega
      subst this
      rw [List.getElem?_eq_none (Nat.le_refl _)]
      exact stop env h hi
theorem while_ind {t : MT} {body : MS} {P : S → Prop} (I : MEnv → MH → Prop) (m : MEnv → MH → Nat)
    (step : ∀ env h, I env h → ∃ b h1, t env h = .ok b h1 ∧ (b = false → P (.nx env h1)) ∧ (b = true → match body env h1 with
      | .nx e h' => I e h' ∧ m e h' < m env h
      | .ct e h' => I e h' ∧ m e h' < m env h
      | .bk e h' => P (.nx e h')
      | r => P r)) :
    ∀ (n : Nat) (env : MEnv) (h : MH), I env h → m env h < n → P (whileGo t body n env h) := by
  intro n
  induction n with
  | zero => intro env h hi hn; omega
  | succ n ih =>
    intro env h hi hn
    unfold whileGo
    obtain ⟨b, h1, e, sf, st⟩ := step env h hi
    rw [e]
    simp only [R.andS_ok]
    cases b with
    | false => exact sf rfl
    | true =>
      have s := st rfl
      simp only [if_true]
      cases q : body env h1 with
      | nx e h' => rw [q] at s; exact ih e h' s.1 (by omega)
      | ct e h' => rw [q] at s; exact ih e h' s.1 (by omega)
      | bk e h' => rw [q] at s; exact s
      | rt v h' => rw [q] at s; exact s
      | exc x e h' => rw [q] at s; exact s
      | bad => rw [q] at s; exact s
/-- a comprehension over the items enc x, x in l, whose test and element leave the heap -/
theorem comp_pure {α : Type} {it : MIt} {tg : MG} {c : MT} {m : ME} {own : List Nat} {env : MEnv} {h : MH} (l : List α) (enc : α → MV) (cb : α → Bool) (f : α → MV) (hit : ∀ i, it i h = nxOf (l.map enc)[i]?) (hl : l.length ≤ cap)
    (step : ∀ x ∈ l, ∃ env', tg (enc x) (wipeM env own) = some env' ∧ c env' h = .ok (cb x) h ∧ (cb x = true → m env' h = .ok (f x) h)) :
    compGo it tg c m own fuel 0 env h [] = .ok (.ref h.length) (h ++ [.lst ((l.filter cb).map f)]) := by
  have key : ∀ (n i : Nat) (acc : List MV), i ≤ l.length → l.length < n + i → acc.length ≤ i → acc.reverse = ((l.take i).filter cb).map f → compGo it tg c m own n i env h acc = .ok (.ref h.length) (h ++ [.lst ((l.filter cb).map f)]) := by
    intro n
    induction n with
    | zero => intro i acc h1 h2; omega
    | succ n ih =>
      intro i acc hi hn ha he
      unfold compGo
      rw [hit i, List.getElem?_map]
      by_cases hlt : i < l.length
      · rw [List.getElem?_eq_getElem hlt]
        obtain ⟨env', e1, e2, e3⟩ := step l[i] (List.getElem_mem hlt)
        have tk : l.take (i + 1) = l.take i ++ [l[i]] := by simp
        simp only [Option.map_some, nxOf, e1, e2, R.noX_ok, R.bind_ok]
        cases q : cb l[i] with
        | false =>
          simp only [Bool.false_eq_true, if_false]
          refine ih (i + 1) acc hlt (by omega) (by omega) ?_
          rw [tk, List.filter_append, List.map_append, he]
          simp [q]
        | true =>
          simp only [if_true, e3 q, R.noX_ok, R.bind_ok]
          rw [if_pos (by omega)]
          refine ih (i + 1) _ hlt (by omega) (by simp; omega) ?_
          rw [tk, List.filter_append, List.map_append, List.reverse_cons, he]
          simp [q]
      · have : i = l.length := by omega
        subst this
        rw [List.getElem?_eq_none (Nat.le_refl _)]
        simp only [Option.map_none, nxOf]
        rw [he, List.take_length]
  exact key fuel 0 [] (Nat.zero_le _) (by have := fuel_ge; unfold cap at hl; omega) (Nat.le_refl _) (by simp)
/-- .. whose test and element lay things aside -/
theorem comp_more {α : Type} {it : MIt} {tg : MG} {c : MT} {m : ME} {own : List Nat} {env : MEnv} {h : MH} (l : List α) (enc : α → MV) (cb : α → Bool) (f : α → MV) (hit : ∀ i g, it i (h ++ g) = nxOf (l.map enc)[i]?) (hl : l.length ≤ cap)
    (step : ∀ x ∈ l, ∀ g, ∃ env', tg (enc x) (wipeM env own) = some env' ∧ ∃ g2, c env' (h ++ g) = .ok (cb x) (h ++ g2) ∧ (cb x = true → ∃ g3, m env' (h ++ g2) = .ok (f x) (h ++ g3))) :
    ∃ g, compGo it tg c m own fuel 0 env h [] = .ok (.ref (h ++ g).length) (h ++ g ++ [.lst ((l.filter cb).map f)]) := by
  have key : ∀ (n i : Nat) (acc : List MV) (g : MH), i ≤ l.length → l.length < n + i → acc.length ≤ i → acc.reverse = ((l.take i).filter cb).map f → ∃ g', compGo it tg c m own n i env (h ++ g) acc = .ok (.ref (h ++ g').length) (h ++ g' ++ [.lst ((l.filter cb).map f)]) := by
    intro n
    induction n with
    | zero => intro i acc g h1 h2; omega
    | succ n ih =>
      intro i acc g hi hn ha he
      unfold compGo
      rw [hit i g, List.getElem?_map]
      by_cases hlt : i < l.length
      · rw [List.getElem?_eq_getElem hlt]
        obtain ⟨env', e1, g2, e2, e3⟩ := step l[i] (List.getElem_mem hlt) g
        have tk : l.take (i + 1) = l.take i ++ [l[i]] := by simp
        simp only [Option.map_some, nxOf, e1, e2, R.noX_ok, R.bind_ok]
        cases q : cb l[i] with
        | false =>
          simp only [Bool.false_eq_true, if_false]
          refine ih (i + 1) acc g2 hlt (by omega) (by omega) ?_
          rw [tk, List.filter_append, List.map_append, he]
          simp [q]
        | true =>
          obtain ⟨g3, e4⟩ := e3 q
          simp only [if_true, e4, R.noX_ok, R.bind_ok]
          rw [if_pos (by omega)]
          refine ih (i + 1) _ g3 hlt (by omega) (by simp; omega) ?_
          rw [tk, List.filter_append, List.map_append, List.reverse_cons, he]
          simp [q]
      · have : i = l.length := by omega
        subst this
        rw [List.getElem?_eq_none (Nat.le_refl _)]
        simp only [Option.map_none, nxOf]
        rw [he, List.take_length]
        exact ⟨g, rfl⟩
  have := key fuel 0 [] [] (Nat.zero_le _) (by have := fuel_ge; unfold cap at hl; omega) (Nat.le_refl _) (by simp)
  simpa using this

/-! ### iterators as lists -/
def ivs (ns : List Int) : List MV := ns.map MV.int
/-- lo, lo + c, .. (n of them) -/
def prog (lo c : Int) (n : Nat) : List Int := (List.range n).map fun (i : Nat) => lo + (i : Int) * c
theorem itR_nx (lo c : Int) (n : Nat) (i : Nat) (h : MH) : itR lo c n i h = nxOf (ivs (prog lo c n))[i]? := by
  unfold itR ivs prog
  by_cases hi : i < n
  · simp [hi, nxOf]
  · simp [hi, nxOf]
theorem itT_nx (xs : List MV) (i : Nat) (h : MH) : itT xs i h = nxOf xs[i]? := rfl
theorem itL_nx {n : Nat} {h : MH} {xs : List MV} (e : h[n]? = some (.lst xs)) (i : Nat) : itL n i h = nxOf xs[i]? := by
  unfold itL itemsOf
  simp [e]
theorem itLf_nx {n : Nat} {h : MH} {xs : List MV} (e : h[n]? = some (.frz xs)) (i : Nat) : itL n i h = nxOf xs[i]? := by
  unfold itL itemsOf
  simp [e]
def enumL (xs : List MV) : List MV := xs.zipIdx.map fun p => .tup [.int (p.2 : Nat), p.1]
theorem itE_nx {it : MIt} {h : MH} {xs : List MV} (e : ∀ i, it i h = nxOf xs[i]?) (i : Nat) : itE it i h = nxOf (enumL xs)[i]? := by
  unfold itE enumL
  rw [e i]
  by_cases hi : i < xs.length
  · simp [hi, nxOf]
  · simp [hi, nxOf]
theorem zip_nx : ∀ (xs ys : List MV) (i : Nat), (xs.zip ys)[i]? = (match xs[i]?, ys[i]? with | some a, some b => some (a, b) | _, _ => none)
  | [], ys, i => by simp
  | x :: xs, [], i => by
    simp only [List.zip_nil_right, List.getElem?_nil]
    cases (x :: xs)[i]? <;> rfl
  | x :: xs, y :: ys, 0 => rfl
  | x :: xs, y :: ys, i + 1 => by simpa using zip_nx xs ys i
theorem itZ_nx {it jt : MIt} {h : MH} {xs ys : List MV} (e : ∀ i, it i h = nxOf xs[i]?) (e' : ∀ i, jt i h = nxOf ys[i]?) (i : Nat) : itZ it jt i h = nxOf ((xs.zip ys).map fun p => MV.tup [p.1, p.2])[i]? := by
  unfold itZ
  rw [e i, e' i, List.getElem?_map, zip_nx]
  cases xs[i]? <;> cases ys[i]? <;> rfl
@[simp] theorem prog_length (lo c : Int) (n : Nat) : (prog lo c n).length = n := by simp [prog]
@[simp] theorem ints_length (ns : List Int) : (ivs ns).length = ns.length := by simp [ivs]
theorem mem_prog {lo c : Int} {n : Nat} {x : Int} : x ∈ prog lo c n ↔ ∃ i : Nat, i < n ∧ x = lo + (i : Int) * c := by
  unfold prog
  simp only [List.mem_map, List.mem_range]
  constructor
  · rintro ⟨i, h, rfl⟩; exact ⟨i, h, rfl⟩
  · rintro ⟨i, h, rfl⟩; exact ⟨i, h, rfl⟩
@[simp] theorem mem_ints {ns : List Int} {x : MV} : x ∈ ivs ns ↔ ∃ i ∈ ns, x = .int i := by
  unfold ivs
  simp only [List.mem_map]
  constructor
  · rintro ⟨i, h, rfl⟩; exact ⟨i, h, rfl⟩
  · rintro ⟨i, h, rfl⟩; exact ⟨i, h, rfl⟩
theorem filter_ints (ns : List Int) (p : MV → Bool) (f : MV → MV) (q : Int → Bool) (g : Int → MV) (hp : ∀ i, p (.int i) = q i) (hf : ∀ i, f (.int i) = g i) : ((ivs ns).filter p).map f = (ns.filter q).map g := by
  unfold ivs
  rw [List.filter_map, List.map_map]
  have e1 : p ∘ MV.int = q := funext hp
  have e2 : f ∘ MV.int = g := funext hf
  rw [e1, e2]
theorem unds_ints {n : Nat} (ns : List Int) : MV.unds n (ivs ns) := unds_of fun x hx => by
  obtain ⟨i, _, rfl⟩ := mem_ints.mp hx
  simp
/-! ### data of whole numbers -/
theorem data_int (n : Nat) (h : MH) (i : Int) : dataOf (n + 1) h (.int i) = some (.int i) := rfl
theorem allSome_map {α β : Type} {f : α → Option β} {g : α → β} : ∀ {l : List α}, (∀ x ∈ l, f x = some (g x)) → allSome (l.map f) = some (l.map g)
  | [], _ => rfl
  | x :: r, e => by
    simp only [List.map_cons, e x (List.mem_cons_self ..), allSome, allSome_map (l := r) fun y hy => e y (List.mem_cons_of_mem _ hy)]
theorem data_ints (n : Nat) (h : MH) (ns : List Int) : dataOf (n + 2) h (.tup (ivs ns)) = some (.tuple (ns.map PyData.int)) := by
  have e : allSome ((ivs ns).map (dataOf (n + 1) h)) = some (ns.map PyData.int) := by
    unfold ivs
    rw [List.map_map]
    exact allSome_map (fun i _ => rfl)
  show (allSome ((ivs ns).map (dataOf (n + 1) h))).map PyData.tuple = _
  rw [e]
  rfl
theorem eqvAll_ints : ∀ (a b : List Int), PyData.eqvAll (a.map PyData.int) (b.map PyData.int) = decide (a = b)
  | [], [] => by simp [PyData.eqvAll]
  | [], _ :: _ => by simp [PyData.eqvAll]
  | _ :: _, [] => by simp [PyData.eqvAll]
  | x :: a, y :: b => by
    simp only [List.map_cons, PyData.eqvAll, eqvAll_ints a b, PyData.eqv]
    by_cases h : x = y
    · subst h; simp
    · simp [h]
theorem eqv_tints (a b : List Int) : PyData.eqv (.tuple (a.map PyData.int)) (.tuple (b.map PyData.int)) = decide (a = b) := by
  simp only [PyData.eqv, eqvAll_ints]
theorem eqvAll_by {α : Type} {f : α → PyData} (hf : ∀ a b, PyData.eqv (f a) (f b) = true ↔ a = b) : ∀ (x y : List α), PyData.eqvAll (x.map f) (y.map f) = true ↔ x = y
  | [], [] => by simp [PyData.eqvAll]
  | [], _ :: _ => by simp [PyData.eqvAll]
  | _ :: _, [] => by simp [PyData.eqvAll]
  | a :: x, b :: y => by
    simp only [List.map_cons, PyData.eqvAll, Bool.and_eq_true, hf, eqvAll_by hf x y, List.cons.injEq]

theorem filter_yes {α : Type} (l : List α) : l.filter (fun _ => true) = l := by simp
/-! ### values by simp -/
theorem R.bind_def {α β : Type} (a : α) (h : MH) (f : α → MH → R β) : (R.ok a h).bind f = f a h := rfl
theorem items_tup (h : MH) (xs : List MV) : itemsOf h (.tup xs) = some xs := rfl
theorem items_new (h : MH) (xs : List MV) : itemsOf (h ++ [.lst xs]) (.ref h.length) = some xs := by
  unfold itemsOf
  simp
theorem list_new (h : MH) (xs : List MV) : listOf (h ++ [.lst xs]) (.ref h.length) = some xs := items_new h xs
theorem list_tup (h : MH) (xs : List MV) : listOf h (.tup xs) = none := rfl
theorem list_ref (h : MH) (n : Nat) : listOf h (.ref n) = itemsOf h (.ref n) := rfl
theorem lstOf_new (h : MH) (xs : List MV) : lstOf (h ++ [.lst xs]) h.length = some xs := by
  unfold lstOf
  simp
theorem items_at {h : MH} {n : Nat} {xs : List MV} (e : h[n]? = some (.lst xs)) : itemsOf h (.ref n) = some xs := by
  unfold itemsOf
  simp only [e]
theorem items_atf {h : MH} {n : Nat} {xs : List MV} (e : h[n]? = some (.frz xs)) : itemsOf h (.ref n) = some xs := by
  unfold itemsOf
  simp only [e]
theorem lstOf_at {h : MH} {n : Nat} {xs : List MV} (e : h[n]? = some (.lst xs)) : lstOf h n = some xs := by
  unfold lstOf
  simp only [e]
theorem beq_dec (i j : Int) : (i == j) = decide (i = j) := by
  by_cases e : i = j <;> simp [e]
theorem fEq_int (i j : Int) (h : MH) : fEq (.int i) (.int j) h = .ok (.bl (decide (i = j))) h := by
  show R.ok (MV.bl (i == j)) h = _
  rw [beq_dec]
theorem fNe_int (i j : Int) (h : MH) : fNe (.int i) (.int j) h = .ok (.bl (!decide (i = j))) h := by
  show R.ok (MV.bl (!(i == j))) h = _
  rw [beq_dec]
theorem fLen_tup (xs : List MV) (h : MH) : fLen [.tup xs] h = .ok (.int xs.length) h := rfl
theorem fLen_items {x : MV} {xs : List MV} {h : MH} (e : itemsOf h x = some xs) : fLen [x] h = .ok (.int xs.length) h := by
  unfold fLen
  cases x with
  | str z => cases e
  | _ => simp only [e]
/-- bools and their operators as values -/
theorem andV_ok (p q : Bool) (h : MH) : (match (MV.bl p) with | .bl true => (R.ok (.bl q) h : R MV) | .bl false => .ok (.bl false) h | _ => .bad) = .ok (.bl (p && q)) h := by cases p <;> rfl
theorem any_map {α : Type} (l : List α) (f : α → Bool) : asBools (l.map fun x => MV.bl (f x)) = some (l.map f) := by
  have : (l.map fun x => MV.bl (f x)) = (l.map f).map MV.bl := by simp
  rw [this, asBools_map]
theorem ints_map {α : Type} (l : List α) (f : α → Int) : asInts (l.map fun x => MV.int (f x)) = some (l.map f) := by
  have : (l.map fun x => MV.int (f x)) = (l.map f).map MV.int := by simp
  rw [this, asInts_map]
theorem fAny_at {h : MH} {n : Nat} {xs : List MV} {bs : List Bool} (e : itemsOf h (.ref n) = some xs) (e2 : asBools xs = some bs) : fAny [.ref n] h = .ok (.bl (bs.any id)) h := by
  unfold fAny listOf
  simp only [e, Option.bind_some, e2]
theorem fAll_at {h : MH} {n : Nat} {xs : List MV} {bs : List Bool} (e : itemsOf h (.ref n) = some xs) (e2 : asBools xs = some bs) : fAll [.ref n] h = .ok (.bl (bs.all id)) h := by
  unfold fAll listOf
  simp only [e, Option.bind_some, e2]
theorem fMax_at {h : MH} {n : Nat} {xs : List MV} {m : Int} {r : List Int} (e : itemsOf h (.ref n) = some xs) (e2 : asInts xs = some (m :: r)) : fMax [.ref n] h = .ok (.int (maxL m r)) h := by
  unfold fMax listOf
  simp only [e, Option.bind_some, e2]
theorem fTuple_at {h : MH} {n : Nat} {xs : List MV} (e : itemsOf h (.ref n) = some xs) : fTuple [.ref n] h = .ok (.tup xs) h := by
  unfold fTuple listOf
  simp only [e]
theorem fMax2 (i j : Int) (h : MH) : fMax [.int i, .int j] h = .ok (.int (if j > i then j else i)) h := rfl
theorem fMin2 (i j : Int) (h : MH) : fMin [.int i, .int j] h = .ok (.int (if j < i then j else i)) h := rfl
def maxOf : List Int → Int
  | [] => 0
  | m :: r => maxL m r
theorem maxOf_spec {l : List Int} (h : l ≠ []) : maxOf l ∈ l ∧ ∀ y ∈ l, y ≤ maxOf l := by
  cases l with
  | nil => exact absurd rfl h
  | cons m r =>
    obtain ⟨h1, h2, h3⟩ := maxL_spec r m
    refine ⟨?_, fun y hy => ?_⟩
    · rcases h1 with e | e
      · show maxL m r ∈ m :: r
        rw [e]; exact List.mem_cons_self ..
      · exact List.mem_cons_of_mem _ e
    · rcases List.mem_cons.mp hy with e | e
      · rw [e]; exact h2
      · exact h3 y e
theorem maxOf_eq {l : List Int} {m : Int} (h1 : m ∈ l) (h2 : ∀ y ∈ l, y ≤ m) : maxOf l = m := by
  have hne : l ≠ [] := fun e => by rw [e] at h1; cases h1
  obtain ⟨a, b⟩ := maxOf_spec hne
  exact Int.le_antisymm (h2 _ a) (b _ h1)
theorem fMax_ns {h : MH} {n : Nat} {xs : List MV} {ns : List Int} (e : itemsOf h (.ref n) = some xs) (e2 : asInts xs = some ns) (e3 : ns ≠ []) : fMax [.ref n] h = .ok (.int (maxOf ns)) h := by
  cases ns with
  | nil => exact absurd rfl e3
  | cons m r => exact fMax_at e e2
theorem fLen_new (h : MH) (xs : List MV) : fLen [.ref h.length] (h ++ [.lst xs]) = .ok (.int xs.length) (h ++ [.lst xs]) := fLen_items (items_new h xs)
theorem look_app {h g : MH} {n : Nat} {o : MO} (e : h[n]? = some o) : (h ++ g)[n]? = some o := by
  rw [List.getElem?_append_left (List.getElem?_eq_some_iff.mp e).1]
  exact e
theorem look_new (h : MH) (o : MO) : (h ++ [o])[h.length]? = some o := by simp
theorem fSl_drop {h : MH} {n k : Nat} {xs : List MV} (e : itemsOf h (.ref n) = some xs) (hk : k ≤ xs.length) (hl : xs.length ≤ cap) : fSl (.ref n) (some (k : Int)) none h = .ok (.ref h.length) (h ++ [.lst (xs.drop k)]) := by
  unfold fSl
  simp only [e]
  rw [if_pos hl]
  unfold cutM
  rw [HT.sIx_nat, HT.sIx_none, Nat.min_eq_left hk, ← List.length_drop, List.take_length]
theorem fSl_take {h : MH} {n k : Nat} {xs : List MV} (e : itemsOf h (.ref n) = some xs) (hk : k ≤ xs.length) (hl : xs.length ≤ cap) : fSl (.ref n) none (some (k : Int)) h = .ok (.ref h.length) (h ++ [.lst (xs.take k)]) := by
  unfold fSl
  simp only [e]
  rw [if_pos hl]
  unfold cutM
  rw [HT.sIx_nat, HT.sIx_none, Nat.min_eq_left hk, List.drop_zero, Nat.sub_zero]
theorem fAdd_refs {h : MH} {n m : Nat} {xs ys : List MV} (e : h[n]? = some (.lst xs)) (e' : h[m]? = some (.lst ys)) (hl : xs.length + ys.length ≤ cap) : fAdd (.ref n) (.ref m) h = .ok (.ref h.length) (h ++ [.lst (xs ++ ys)]) := by
  unfold fAdd
  simp only [lstOf_at e, lstOf_at e']
  rw [if_pos hl]
end Mv

set_option maxHeartbeats 4000000
/-! Mv10: instances: fields, methods, properties, made, isinstance, their own ==. -/
namespace Mv
open PySem PySem.Spec L2
open PyProof.Rows hiding St

theorem lookup_at {α : Type} {f : Str} {v : α} : ∀ {gs : List (Str × α)} {i : Nat}, (gs.map (·.1)).Nodup → gs[i]? = some (f, v) → gs.lookup f = some v
  | [], i, _, e => by simp at e
  | (g, x) :: r, 0, _, e => by
    simp only [List.getElem?_cons_zero, Option.some.injEq, Prod.mk.injEq] at e
    obtain ⟨rfl, rfl⟩ := e
    simp [List.lookup_cons]
  | (g, x) :: r, i + 1, n, e => by
    simp only [List.map_cons, List.nodup_cons] at n
    have e' : r[i]? = some (f, v) := by simpa using e
    have ne : ¬ f = g := fun z => n.1 (z ▸ List.mem_map.mpr ⟨_, List.mem_of_getElem? e', rfl⟩)
    rw [List.lookup_cons]
    have : (f == g) = false := by simpa using ne
    rw [this]
    exact lookup_at n.2 e'
theorem lookup_no {α : Type} {f : Str} : ∀ {gs : List (Str × α)}, f ∉ gs.map (·.1) → gs.lookup f = none
  | [], _ => rfl
  | (g, x) :: r, n => by
    simp only [List.map_cons, List.mem_cons, not_or] at n
    rw [List.lookup_cons]
    have : (f == g) = false := by simpa using n.1
    rw [this]
    exact lookup_no n.2
theorem putF_at {f : Str} {y : V} : ∀ {gs : List (Str × V)} {i : Nat}, (gs.map (·.1)).Nodup → (gs.map (·.1))[i]? = some f → putF f y gs = gs.set i (f, y)
  | [], i, _, e => by simp at e
  | (g, x) :: r, 0, _, e => by
    simp at e
    subst e
    simp [putF]
  | (g, x) :: r, i + 1, n, e => by
    simp only [List.map_cons, List.nodup_cons] at n
    have e' : (r.map (·.1))[i]? = some f := by simpa using e
    have ne : ¬ g = f := fun z => n.1 (z ▸ List.mem_of_getElem? e')
    simp only [putF, if_neg ne, List.set_cons_succ, putF_at n.2 e']
theorem putF_new {f : Str} {y : V} : ∀ {gs : List (Str × V)}, f ∉ gs.map (·.1) → putF f y gs = gs ++ [(f, y)]
  | [], _ => rfl
  | (g, x) :: r, n => by
    simp only [List.map_cons, List.mem_cons, not_or] at n
    have ne : ¬ g = f := fun z => n.1 z.symm
    simp only [putF, if_neg ne, putF_new n.2, List.cons_append]

/-- the classes cs have a field f at these places, and no attribute of the class is named so -/
def FldF (K : KC) (f : Str) (cs : List (Nat × Nat)) : Prop := ∀ p ∈ cs, ∃ nm fl, tab[p.1]? = some (nm, fl) ∧ fl[p.2]? = some f ∧ fl.Nodup ∧ fl.length < 1000 ∧ ∀ C, K.mg nm = some (.ref C) → NoAttr K.K C f
def insOf (h : MH) : MV → Option (Nat × List MV)
  | .ref n => match h[n]? with
    | some (.ins c vs) => some (c, vs)
    | _ => none
  | _ => none
theorem ins_of {K : KC} {φ : List Addr} {H : Hp} {h : MH} {x : MV} {u : V} {c : Nat} {vs : List MV} (hr : HR K φ H h) (t : IsV K φ H x u) (e : insOf h x = some (c, vs)) :
    ∃ n a gs, x = .ref n ∧ u = .ref a ∧ φ[n]? = some a ∧ h[n]? = some (.ins c vs) ∧ InsR K H a c vs.length gs ∧ IsVs K φ H vs (gs.map (·.2)) := by
  cases t with
  | @ref n a ea =>
    unfold insOf at e
    cases q : h[n]? with
    | none => simp only [q] at e; cases e
    | some ob =>
      have w := hr.at_ n a ob ea q
      cases ob with
      | ins c' vs' =>
        simp only [q, Option.some.injEq, Prod.mk.injEq] at e
        obtain ⟨rfl, rfl⟩ := e
        obtain ⟨gs, w1, w2⟩ := w
        exact ⟨n, a, gs, rfl, rfl, ea, q, w1, w2⟩
      | _ => simp only [q] at e; cases e
  | _ => cases e
def mFld (cs : List (Nat × Nat)) (m : ME) : ME := fun env h => (m env h).bind fun x h1 => match insOf h1 x with
  | some (c, vs) => (match cs.lookup c with
    | some i => (match vs[i]? with
      | some v => .ok v h1
      | none => .bad)
    | none => .bad)
  | none => .bad
theorem look_mem {α : Type} {c : Nat} {i : α} : ∀ {cs : List (Nat × α)}, cs.lookup c = some i → (c, i) ∈ cs
  | [], e => by cases e
  | (d, j) :: r, e => by
    rw [List.lookup_cons] at e
    by_cases q : c = d
    · subst q
      simp at e
      subst e
      exact List.mem_cons_self ..
    · have : (c == d) = false := by simpa using q
      rw [this] at e
      exact List.mem_cons_of_mem _ (look_mem e)
theorem fld_ok {K : KC} {H : Hp} {a : Addr} {c i n : Nat} {gs : List (Str × V)} {f : Str} {cs : List (Nat × Nat)} (ff : FldF K f cs) (r : InsR K H a c n gs) (hm : (c, i) ∈ cs) {v : V} (hv : (gs.map (·.2))[i]? = some v) :
    ∃ C dx, H a = some (.ins C dx gs) ∧ Cls K.K C ∧ NoAttr K.K C f ∧ gs.lookup f = some v := by
  obtain ⟨C, dx, nm, fl, q1, q2, q3, q, q4, q5⟩ := r
  obtain ⟨nm', fl', p1, p2, p3, _, p4⟩ := ff _ hm
  rw [q1] at p1
  cases p1
  refine ⟨C, dx, q, q3, p4 C q2, ?_⟩
  have hn : (gs.map (·.1)).Nodup := by rw [q4]; exact p3.sublist (List.take_sublist _ _)
  rw [List.getElem?_map] at hv
  cases e : gs[i]? with
  | none => rw [e] at hv; cases hv
  | some g =>
    rw [e] at hv
    cases hv
    obtain ⟨g1, g2⟩ := g
    have hi : i < gs.length := (List.getElem?_eq_some_iff.mp e).1
    have e1 : (gs.map (·.1))[i]? = some g1 := by rw [List.getElem?_map, e]; rfl
    have hl : gs.length = (fl.take n).length := by rw [← q4, List.length_map]
    rw [q4, List.getElem?_take_of_lt (by rw [hl, List.length_take] at hi; omega)] at e1
    have e2 := e1.symm.trans p2
    cases e2
    exact lookup_at hn e
section
variable {X : Cx} {W : WT} {pos : Pos} {a b c : Expr} {ma mb mc : ME} {es : List Expr} {mr : MA}
theorem se_fld {f : Str} {cs : List (Nat × Nat)} (ff : FldF (kc X) f cs) (ha : PE X a (tE (kc X) W ma)) (hb : attributeBase a f X.env (eval a X.env) = eval a X.env := by rfl) : PE X (.Attribute a f pos) (tE (kc X) W (mFld cs ma)) := (pe_fld ha hb).imp fun σ H Q => by
  rintro ⟨φ, env, h, hr, er, o⟩
  refine tG_step hr er o fun φ1 H1 h1 x u k1 hr1 er1 t1 o1 => ?_
  cases e1 : insOf h1 x with
  | none => simp only [e1] at o1; exact o1.elim
  | some p =>
    obtain ⟨c, vs⟩ := p
    simp only [e1] at o1
    cases e2 : cs.lookup c with
    | none => simp only [e2] at o1; exact o1.elim
    | some i =>
      simp only [e2] at o1
      cases e3 : vs[i]? with
      | none => simp only [e3] at o1; exact o1.elim
      | some v =>
        simp only [e3] at o1
        obtain ⟨n, p, gs, rfl, rfl, ea, _, ir, ts⟩ := ins_of hr1 t1 e1
        obtain ⟨w, hw, tw⟩ := ts.get e3
        obtain ⟨C, dx, q1, q2, q3, q4⟩ := fld_ok ff ir (look_mem e2) hw
        exact ⟨p, C, dx, gs, w, rfl, q1, q2, q3, q4, OkG.ok_here o1 hr1 tw⟩
/-- o.f = e -/
def mStF (cs : List (Nat × Nat)) (mo mv : ME) : MS := fun env h => (mv env h).andS env fun y h1 => (mo env h1).andS env fun x h2 => match insOf h2 x, x with
  | some (c, vs), .ref n => (match cs.lookup c with
    | some i => if i < vs.length then .nx env (h2.set n (.ins c (vs.set i y))) else if i = vs.length then .nx env (h2.set n (.ins c (vs ++ [y]))) else .bad
    | none => .bad)
  | _, _ => .bad
theorem ss_fld {f : Str} {pos' : Pos} {cs : List (Nat × Nat)} (ff : FldF (kc X) f cs) (ha : PE X a (tE (kc X) W ma)) (hv : PE X b (tE (kc X) W mb)) (hs : swapsWith b (some (.Attribute a f pos')) pos.line X.env = pure false := by rfl) :
    PS X (.Assign [.Attribute a f pos'] b pos) (tS (kc X) W (mStF cs ma mb)) := (ps_fld ha hv hs).imp fun D σ H => by
  rintro ⟨φ, env, h, hr, er, o⟩
  refine tS_step hr er o fun φ1 H1 h1 y v k1 hr1 er1 t1 o1 => ?_
  refine tS_step hr1 er1 o1 fun φ2 H2 h2 x u k2 hr2 er2 t2 o2 => ?_
  cases e1 : insOf h2 x with
  | none => simp only [e1] at o2; exact o2.elim
  | some p =>
    obtain ⟨c, vs⟩ := p
    obtain ⟨n, p, gs, rfl, rfl, ea, eh, ir, ts⟩ := ins_of hr2 t2 e1
    simp only [e1] at o2
    cases e2 : cs.lookup c with
    | none => simp only [e2] at o2; exact o2.elim
    | some i =>
      simp only [e2] at o2
      have t1' := t1.keep k2
      obtain ⟨C, dx, nm, fl, q1, q2, q3, q, q4, q5⟩ := ir
      obtain ⟨nm', fl', p1, p2, p3, p5, p4⟩ := ff _ (look_mem e2)
      rw [q1] at p1
      cases p1
      have hnd : (gs.map (·.1)).Nodup := by rw [q4]; exact p3.sublist (List.take_sublist _ _)
      have hl : gs.length = vs.length := by
        have := congrArg List.length q4
        simp only [List.length_map, List.length_take] at this
        omega
      have kp : ∀ w, Keep φ2 H2 φ2 (upd H2 p (.ins C dx w)) := fun w => Keep.putO (List.mem_of_getElem? ea) q (fun _ z => by cases z) (fun _ _ z => by cases z)
      refine ⟨p, C, dx, gs, rfl, q, q3, p4 C q2, by omega, ?_⟩
      split at o2
      · rename_i hi
        have g1 : (gs.map (·.1))[i]? = some f := by
          rw [q4, List.getElem?_take_of_lt hi]; exact p2
        rw [putF_at hnd g1]
        refine OkS.nx_here (OkS.mono o2 (kp _)) (hr2.putO ea eh (kp _) ?_) (er2.keep (kp _))
        refine ⟨gs.set i (f, v), ⟨C, dx, nm, fl, q1, q2, q3, upd_same, ?_, by simpa using q5⟩, ?_⟩
        · rw [List.map_set, List.length_set, ← q4]
          apply List.ext_getElem?
          intro j
          by_cases hj : i = j
          · subst hj
            rw [List.getElem?_set_self (by simpa [hl] using hi), g1]
          · rw [List.getElem?_set_ne hj]
        · rw [List.map_set]
          exact (IsVs.set t1' i ts).keep (kp _)
      · split at o2
        · rename_i hi hi2
          have hlt : vs.length < fl.length := by
            have := (List.getElem?_eq_some_iff.mp p2).1
            omega
          have g1 : f ∉ gs.map (·.1) := fun z => by
            rw [q4] at z
            obtain ⟨j, hj⟩ := List.mem_iff_getElem?.mp z
            have hj2 : j < vs.length := by
              have := (List.getElem?_eq_some_iff.mp hj).1
              simp at this; omega
            rw [List.getElem?_take_of_lt hj2] at hj
            obtain ⟨a1, a2⟩ := List.getElem?_eq_some_iff.mp hj
            obtain ⟨b1, b2⟩ := List.getElem?_eq_some_iff.mp p2
            have := (List.getElem_inj p3).mp (a2.trans b2.symm)
            omega
          rw [putF_new g1]
          refine OkS.nx_here (OkS.mono o2 (kp _)) (hr2.putO ea eh (kp _) ?_) (er2.keep (kp _))
          refine ⟨gs ++ [(f, v)], ⟨C, dx, nm, fl, q1, q2, q3, upd_same, ?_, by simp; omega⟩, ?_⟩
          · rw [List.map_append, q4, List.length_append]
            simp only [List.map_cons, List.map_nil, List.length_cons, List.length_nil, Nat.zero_add]
            rw [List.take_succ, ← hi2, p2]
            rfl
          · rw [List.map_append]
            exact (IsVs.append ts (.cons t1' .nil)).keep (kp _)
        · exact o2.elim
end

/-! ### methods, properties, new instances -/
/-- the class number c has a method m that computes G -/
structure MDef (P : Program) (w : World) (K : PySem.W.Frag) (mg : Str → Option Value) (base : Heap) (k : Nat) (c : Nat) (m : Str) (np : Nat) (G : List MV → MH → R MV) : Prop where
  ex : ∃ nm fl C f fd ps, tab[c]? = some (nm, fl) ∧ mg nm = some (.ref C) ∧ Cls K C ∧ Meth K C m f ∧ FnOk P w K mg base CX0 k f fd ps (spM ⟨K, mg⟩ np G) ∧ Binds K fd ps [] ∧ m ∉ fl
theorem MDef.as {P : Program} {w : World} {K : PySem.W.Frag} {mg : Str → Option Value} {base : Heap} {k c np : Nat} {m : Str} {F G : List MV → MH → R MV} (d : MDef P w K mg base k c m np F) (hs : ∀ xs h, xs.length = np → Sim h (F xs h) (G xs h)) : MDef P w K mg base k c m np G := by
  obtain ⟨nm, fl, C, f, fd, ps, h1, h2, h3, h4, h5, h6, h7⟩ := d.ex
  exact ⟨nm, fl, C, f, fd, ps, h1, h2, h3, h4, def_as h5 hs, h6, h7⟩
/-- .. a property -/
structure PDef (P : Program) (w : World) (K : PySem.W.Frag) (mg : Str → Option Value) (base : Heap) (k : Nat) (c : Nat) (m : Str) (G : List MV → MH → R MV) : Prop where
  ex : ∃ nm fl C p f fd ps, tab[c]? = some (nm, fl) ∧ mg nm = some (.ref C) ∧ Cls K C ∧ PropOf K C m p f ∧ FnOk P w K mg base CX0 k f fd ps (spM ⟨K, mg⟩ 1 G) ∧ Binds K fd ps []
theorem PDef.as {P : Program} {w : World} {K : PySem.W.Frag} {mg : Str → Option Value} {base : Heap} {k c : Nat} {m : Str} {F G : List MV → MH → R MV} (d : PDef P w K mg base k c m F) (hs : ∀ xs h, xs.length = 1 → Sim h (F xs h) (G xs h)) : PDef P w K mg base k c m G := by
  obtain ⟨nm, fl, C, p, f, fd, ps, h1, h2, h3, h4, h5, h6⟩ := d.ex
  exact ⟨nm, fl, C, p, f, fd, ps, h1, h2, h3, h4, def_as h5 hs, h6⟩
/-- .. is made by G (of self and np - 1 arguments; the last nk of them by keywords ks) -/
structure KDef (P : Program) (w : World) (K : PySem.W.Frag) (mg : Str → Option Value) (base : Heap) (k : Nat) (c : Nat) (np : Nat) (ks : List Str) (G : List MV → MH → R MV) : Prop where
  ex : ∃ nm fl C f fd ps, tab[c]? = some (nm, fl) ∧ mg nm = some (.ref C) ∧ Cls K C ∧ Mk K C f ∧ FnOk P w K mg base CX0 k f fd ps (spM ⟨K, mg⟩ (np + ks.length) G) ∧ (ks = [] → Binds K fd ps []) ∧ KBn K fd ps np ks (fun us ws => us ++ ws) (fun us ws => us ++ ws)
theorem KDef.as {P : Program} {w : World} {K : PySem.W.Frag} {mg : Str → Option Value} {base : Heap} {k c np : Nat} {ks : List Str} {F G : List MV → MH → R MV} (d : KDef P w K mg base k c np ks F) (hs : ∀ xs h, xs.length = np + ks.length → Sim h (F xs h) (G xs h)) : KDef P w K mg base k c np ks G := by
  obtain ⟨nm, fl, C, f, fd, ps, h1, h2, h3, h4, h5, h6, h7⟩ := d.ex
  exact ⟨nm, fl, C, f, fd, ps, h1, h2, h3, h4, def_as h5 hs, h6, h7⟩
/-- an instance's class has no alternative: c's name leads to C alone -/
theorem InsR.cls {K : KC} {H : Hp} {a C : Addr} {c n : Nat} {gs : List (Str × V)} {nm : Str} {fl : List Str} (r : InsR K H a c n gs) (e : tab[c]? = some (nm, fl)) (m : K.mg nm = some (.ref C)) : ∃ dx, H a = some (.ins C dx gs) ∧ gs.map (·.1) = fl.take n := by
  obtain ⟨C', dx, nm', fl', q1, q2, q3, q, q4, q5⟩ := r
  rw [e] at q1
  cases q1
  rw [m] at q2
  cases q2
  exact ⟨dx, q, q4⟩
section
variable {X : Cx} {W : WT} {pos : Pos} {a b c : Expr} {ma mb mc : ME} {es : List Expr} {mr : MA}
def mMeth (ms : List (Nat × (List MV → MH → R MV))) (np : Nat) (mo : ME) (r : MA) : ME := fun env h => (mo env h).bind fun x h1 => match insOf h1 x with
  | some (c, _) => (match ms.lookup c with
    | some G => (r env h1).bind fun xs h2 => if xs.length + 1 = np then (G (x :: xs) h2).noX else .bad
    | none => .bad)
  | none => .bad
theorem meth_step {K : KC} {np c : Nat} {C : Addr} {m : Str} {nm : Str} {fl : List Str} {G : List MV → MH → R MV} {E : XK} (q1 : tab[c]? = some (nm, fl)) (q2 : K.mg nm = some (.ref C)) (q7 : m ∉ fl) {σ : St} {H : Hp} {Q : VK} {ta : TA}
    (hta : ∀ σ H Q, tA K W mr σ H Q → ta σ H Q) (o : tE K W (mMeth [(c, G)] np ma mr) σ H Q) : tMeth C m (spM K np G) [] E (tE K W ma) ta σ H Q := by
  obtain ⟨φ, env, h, hr, er, o⟩ := o
  refine tG_step hr er o fun φ1 H1 h1 x u k1 hr1 er1 t1 o1 => ?_
  cases e1 : insOf h1 x with
  | none => simp only [e1] at o1; exact o1.elim
  | some p =>
    obtain ⟨c', vs⟩ := p
    simp only [e1] at o1
    by_cases hc : c' = c
    · subst hc
      have hl : List.lookup c' [(c', G)] = some G := by simp [List.lookup_cons]
      simp only [hl] at o1
      obtain ⟨n, p, gs, rfl, rfl, ea, eh, ir, ts⟩ := ins_of hr1 t1 e1
      obtain ⟨dx, i1, i2⟩ := ir.cls q1 q2
      refine ⟨p, dx, gs, rfl, i1, lookup_no (by rw [i2]; exact fun z => q7 (List.take_subset _ _ z)), hta _ _ _ ?_⟩
      refine tG_step hr1 er1 o1 fun φ2 H2 h2 xs us k2 hr2 er2 t2 o2 => ?_
      split at o2
      · rename_i hl
        refine ⟨by simp [t2.length, hl], φ2, _, h2, hr2, .cons (t1.keep k2) (by simpa using t2), noX_ok o2⟩
      · exact o2.elim
    · have hl : List.lookup c' [(c, G)] = none := by
        rw [List.lookup_cons]
        have : (c' == c) = false := by simpa using hc
        rw [this]; rfl
      simp only [hl] at o1
      exact o1.elim
theorem _root_.L2.PE.alt {e : Expr} {t t' : TE} (h : PE X e t) (h' : PE X e t') : PE X e (fun σ H Q => t σ H Q ∨ t' σ H Q) := ⟨fun pins s σ H Q I q => q.elim (fun q => h.run pins s σ H Q I q) fun q => h'.run pins s σ H Q I q⟩
theorem se_meth1 {k j np c : Nat} {m : Str} {G : List MV → MH → R MV} {apos : Pos} {pl : Sem Bool} (D : MDef X.prog X.w X.K X.mg X.base k c m np G) (hr : Room j X.A) (ho : PE X a (tE (kc X) W ma)) (ha : PA X (b :: es) (tA (kc X) W mr)) (hj : k ≤ j := by decide)
    (hst : starEach (b :: es) X.env = (false, eval b X.env) :: starEach es X.env := by rfl) (hpl : (backTo pos (starEach es X.env)).any (·.1) = false := by rfl)
    (ht : eval (.Call (.Attribute a m apos) (b :: es) [] pos) X.env = (do
      let ov ← eval a X.env
      standAt apos.atName
      let (f, first) ← holding [ov] (getMethod ov m pl)
      callWith pos f first (backTo pos (starEach (b :: es) X.env)) (backToKw pos (keywordEach [] X.env))) := by rfl) : PE X (.Call (.Attribute a m apos) (b :: es) [] pos) (tE (kc X) W (mMeth [(c, G)] np ma mr)) := by
  obtain ⟨nm, fl, C, f, fd, ps, q1, q2, q3, q4, q5, q6, q7⟩ := D.ex
  exact (pe_meth (E := E0) ho q3 q4 q5 (hr.mono hj) q6 .nil pass0 ha hst hpl ht).imp fun σ H Q o => meth_step q1 q2 q7 (fun _ _ _ z => z) o
theorem se_meth01 {k j np c : Nat} {m : Str} {G : List MV → MH → R MV} {apos : Pos} {pl : Sem Bool} (D : MDef X.prog X.w X.K X.mg X.base k c m np G) (hr : Room j X.A) (ho : PE X a (tE (kc X) W ma)) (hj : k ≤ j := by decide)
    (ht : eval (.Call (.Attribute a m apos) [] [] pos) X.env = (do
      let ov ← eval a X.env
      standAt apos.atName
      let (f, first) ← holding [ov] (getMethod ov m pl)
      callWith pos f first (backTo pos (starEach [] X.env)) (backToKw pos (keywordEach [] X.env))) := by rfl) : PE X (.Call (.Attribute a m apos) [] [] pos) (tE (kc X) W (mMeth [(c, G)] np ma mNil)) := by
  obtain ⟨nm, fl, C, f, fd, ps, q1, q2, q3, q4, q5, q6, q7⟩ := D.ex
  exact (pe_meth0 (E := E0) ho q3 q4 q5 (hr.mono hj) q6 .nil pass0 ht).imp fun σ H Q o => meth_step (K := kc X) q1 q2 q7 (fun σ H Q z => by
    obtain ⟨φ, env, h, hr, er, o⟩ := z
    exact OkG.ok_here o hr .nil) o
/-- one more class -/
theorem se_methc {e : Expr} {np c : Nat} {G : List MV → MH → R MV} {ms : List (Nat × (List MV → MH → R MV))} (h1 : PE X e (tE (kc X) W (mMeth [(c, G)] np ma mr))) (h2 : PE X e (tE (kc X) W (mMeth ms np ma mr))) : PE X e (tE (kc X) W (mMeth ((c, G) :: ms) np ma mr)) := (h1.alt h2).imp fun σ H Q => by
  rintro ⟨φ, env, h, hr, er, o⟩
  by_cases hc : ∃ x h1 vs, ma env h = .ok x h1 ∧ insOf h1 x = some (c, vs)
  · obtain ⟨x, h1, vs, e1, e2⟩ := hc
    refine .inl ⟨φ, env, h, hr, er, ?_⟩
    unfold mMeth at o ⊢
    rw [e1] at o ⊢
    simp only [R.bind_ok, e2] at o ⊢
    simpa [List.lookup_cons] using o
  · refine .inr ⟨φ, env, h, hr, er, ?_⟩
    unfold mMeth at o ⊢
    cases e1 : ma env h with
    | bad => rw [e1] at o; exact o.elim
    | exc x h1 => rw [e1] at o; exact o
    | ok x h1 =>
      rw [e1] at o
      simp only [R.bind_ok] at o ⊢
      cases e2 : insOf h1 x with
      | none => simp only [e2] at o; exact o.elim
      | some p =>
        obtain ⟨c', vs⟩ := p
        simp only [e2] at o ⊢
        have ne : (c' == c) = false := by
          simp only [beq_eq_false_iff_ne]
          intro z
          exact hc ⟨x, h1, vs, e1, by rw [e2, z]⟩
        rw [List.lookup_cons, ne] at o
        exact o
/-- o.f, a property -/
theorem se_prop {k j c : Nat} {m : Str} {G : List MV → MH → R MV} (D : PDef X.prog X.w X.K X.mg X.base k c m G) (hr : Room j X.A) (ho : PE X a (tE (kc X) W ma)) (hj : k + 1 ≤ j := by decide) (hx : Passes CX0 X.nox E0) (hb : attributeBase a m X.env (eval a X.env) = eval a X.env := by rfl) : PE X (.Attribute a m pos) (tE (kc X) W (mMeth [(c, G)] 1 ma mNil)) := by
  obtain ⟨nm, fl, C, p, f, fd, ps, q1, q2, q3, q4, q5, q6⟩ := D.ex
  refine (pe_prop (E := E0) ho q3 q4 q5 (hr.mono hj) q6 .nil hx hb).imp fun σ H Q => ?_
  rintro ⟨φ, env, h, hr, er, o⟩
  refine tG_step hr er o fun φ1 H1 h1 x u k1 hr1 er1 t1 o1 => ?_
  cases e1 : insOf h1 x with
  | none => simp only [e1] at o1; exact o1.elim
  | some p =>
    obtain ⟨c', vs⟩ := p
    simp only [e1] at o1
    by_cases hc : c' = c
    · subst hc
      have hl : List.lookup c' [(c', G)] = some G := by simp [List.lookup_cons]
      simp only [hl] at o1
      obtain ⟨n, p, gs, rfl, rfl, ea, eh, ir, ts⟩ := ins_of hr1 t1 e1
      obtain ⟨dx, i1, i2⟩ := ir.cls q1 q2
      refine ⟨p, dx, gs, rfl, i1, ?_⟩
      have o2 : OkG (kc X) (IsV (kc X)) (W σ env) φ1 H1 (if ([] : List MV).length + 1 = 1 then (G [.ref n] h1).noX else .bad) Q := o1
      rw [if_pos (show ([] : List MV).length + 1 = 1 from rfl)] at o2
      exact ⟨rfl, φ1, [.ref n], h1, hr1, .cons t1 .nil, noX_ok o2⟩
    · have hl : List.lookup c' [(c, G)] = none := by
        rw [List.lookup_cons]
        have : (c' == c) = false := by simpa using hc
        rw [this]; rfl
      simp only [hl] at o1
      exact o1.elim
/-- C(..) -/
def newIns (c : Nat) (F : List MV → MH → R MV) (xs : List MV) (h : MH) : R MV := match F (.ref h.length :: xs) (h ++ [.ins c []]) with
  | .ok .non h2 => .ok (.ref h.length) h2
  | _ => .bad
def mMake (c np : Nat) (F : List MV → MH → R MV) (r : MA) : ME := fun env h => (r env h).bind fun xs h1 => if xs.length + 1 = np then newIns c F xs h1 else .bad
theorem new_ok {K : KC} {c np : Nat} {F : List MV → MH → R MV} {C : Addr} {nm : Str} {fl : List Str} {φ : List Addr} {H : Hp} {h : MH} {xs : List MV} {us : List V} {Z : XW} {Q : VK} {E : XK} (q1 : tab[c]? = some (nm, fl)) (q2 : K.mg nm = some (.ref C)) (q3 : Cls K.K C)
    (hr : HR K φ H h) (ts : IsVs K φ H xs us) (hl : xs.length + 1 = np) (o : OkG K (IsV K) Z φ H (newIns c F xs h) Q) (x dx : Addr) (hx : H x = none) (hdx : H dx = none) (ne : dx ≠ x) :
    spM K np F (.ref x :: us) (upd (upd H dx (.own x)) x (.ins C dx [])) (fun v H2 => v = .non ∧ Q (.ref x) H2) E := by
  have hx' : upd H dx (.own x) x = none := by rw [upd_ne (Ne.symm ne)]; exact hx
  have k0 : Keep φ H φ (upd H dx (.own x)) := Keep.new hdx
  have k1 : Keep φ H (φ ++ [x]) (upd (upd H dx (.own x)) x (.ins C dx [])) := k0.trans (Keep.lay hx')
  have hr1 : HR K (φ ++ [x]) (upd (upd H dx (.own x)) x (.ins C dx [])) (h ++ [.ins c []]) := (hr.new hdx).layO hx' ⟨[], ⟨C, dx, nm, fl, q1, q2, q3, upd_same, rfl, Nat.zero_le _⟩, .nil⟩
  refine ⟨by simp [ts.length, hl], φ ++ [x], .ref h.length :: xs, h ++ [.ins c []], hr1, .cons (.ref (lay_at hr)) (ts.keep k1), ?_⟩
  unfold newIns at o
  cases e : F (.ref h.length :: xs) (h ++ [.ins c []]) with
  | ok v h2 =>
    rw [e] at o
    cases v with
    | non =>
      intro φ2 H2 u k2 hr2 t2
      cases t2
      exact ⟨rfl, o φ2 H2 (.ref x) (k1.trans k2) hr2 (.ref (k2.get (lay_at hr)))⟩
    | _ => exact o.elim
  | exc x h2 => rw [e] at o; exact o.elim
  | bad => rw [e] at o; exact o.elim
theorem se_make {k j c np : Nat} {x : Str} {fl : List Str} {p : Pos} {G : List MV → MH → R MV} (D : KDef X.prog X.w X.K X.mg X.base k c np [] G) (hr : Room j X.A) (hg : Gl X x) (ha : PA X (b :: es) (tA (kc X) W mr)) (hn : tab[c]? = some (x, fl) := by rfl) (hj : k + 1 ≤ j := by decide) (hdb : (x == ("__debug__" : Str)) = false := by decide)
    (he : starEach (b :: es) X.env = (false, eval b X.env) :: starEach es X.env := by rfl) (hpl : (backTo pos (starEach es X.env)).any (·.1) = false := by rfl) : PE X (.Call (.Name x p) (b :: es) [] pos) (tE (kc X) W (mMake c np G mr)) := by
  obtain ⟨nm, fl', C, f, fd, ps, q1, q2, q3, q4, q5, q6, q7⟩ := D.ex
  rw [hn] at q1
  cases q1
  refine (pe_make (E := E0) q4 q5 (hr.mono hj) hg q2 (q6 rfl) .nil pass0 ha hdb he hpl).imp fun σ H Q => ?_
  rintro ⟨φ, env, h, hr, er, o⟩
  refine tG_step hr er o fun φ1 H1 h1 xs us k1 hr1 er1 t1 o1 => ?_
  split at o1
  · rename_i hl
    intro y dx hy hdx ne
    have := new_ok (K := kc X) (E := E0) hn q2 q3 hr1 t1 hl o1 y dx hy hdx ne
    simpa using this
  · exact o1.elim
/-- C(.., k = v, ..) -/
theorem _root_.L2.PK.imp {e : List Keyword} {t t' : TA} (p : PK X e t) (q : ∀ σ H Q, t' σ H Q → t σ H Q) : PK X e t' := ⟨fun pos pins s σ H Q I h => p.run pos pins s σ H Q I (q σ H Q h)⟩
theorem sk_nil : PK X [] (tA (kc X) W mNil) := pk_nil.imp fun σ H Q => by
  rintro ⟨φ, env, h, hr, er, o⟩
  exact OkG.ok_here o hr .nil
theorem sk_cons {nm : Option Str} {kpos : Pos} {kws : List Keyword} (ha : PE X a (tE (kc X) W ma)) (hr : PK X kws (tA (kc X) W mr)) : PK X (⟨nm, a, kpos⟩ :: kws) (tA (kc X) W (mCons ma mr)) := (pk_cons ha hr).imp fun σ H Q => by
  rintro ⟨φ, env, h, hr, er, o⟩
  refine tG_step hr er o fun φ1 H1 h1 x u k1 hr1 er1 t1 o1 => ?_
  refine tG_step hr1 er1 o1 fun φ2 H2 h2 xs us k2 hr2 er2 t2 o2 => ?_
  exact OkG.ok_here o2 hr2 (.cons (t1.keep k2) t2)
def mMakeK (c n m : Nat) (F : List MV → MH → R MV) (r rk : MA) : ME := fun env h => (r env h).bind fun xs h1 => (rk env h1).bind fun ys h2 => if xs.length = n ∧ ys.length = m then newIns c F (xs ++ ys) h2 else .bad
theorem se_makeK {k j c n m : Nat} {x : Str} {fl : List Str} {p : Pos} {G : List MV → MH → R MV} {kws : List Keyword} {mk : MA} {ks : List Str} (D : KDef X.prog X.w X.K X.mg X.base k c (n + 1) ks G) (hr : Room j X.A) (hg : Gl X x) (ha : PA X (b :: es) (tA (kc X) W mr)) (hkw : PK X kws (tA (kc X) W mk))
    (hn : tab[c]? = some (x, fl) := by rfl) (hj : k + 1 ≤ j := by decide) (hlm : ks.length = m := by rfl)
    (hall : (backToKw pos (keywordEach kws X.env)).all (·.1.isSome) = true := by rfl) (hks : (backToKw pos (keywordEach kws X.env)).filterMap (·.1) = ks := by rfl) (hdb : (x == ("__debug__" : Str)) = false := by decide)
    (he : starEach (b :: es) X.env = (false, eval b X.env) :: starEach es X.env := by rfl) (hpl : ((backTo pos (starEach (b :: es) X.env)).any (·.1) || (backToKw pos (keywordEach kws X.env)).any (·.1.isNone)) = false := by rfl) :
    PE X (.Call (.Name x p) (b :: es) kws pos) (tE (kc X) W (mMakeK c n m G mr mk)) := by
  subst hlm
  obtain ⟨nm, fl', C, f, fd, ps, q1, q2, q3, q4, q5, q6, q7⟩ := D.ex
  rw [hn] at q1
  cases q1
  refine (pe_makeK (E := E0) q4 q5 (hr.mono hj) hg q2 q7 pass0 ha hkw hall hks hdb he hpl).imp fun σ H Q => ?_
  rintro ⟨φ, env, h, hr, er, o⟩
  refine tG_step hr er o fun φ1 H1 h1 xs us k1 hr1 er1 t1 o1 => ?_
  refine tG_step hr1 er1 o1 fun φ2 H2 h2 ys ws k2 hr2 er2 t2 o2 => ?_
  split at o2
  · rename_i hl
    refine ⟨by rw [t1.length]; exact hl.1, by rw [t2.length]; exact hl.2, fun y dx hy hdx ne => ?_⟩
    exact new_ok (K := kc X) (E := E0) hn q2 q3 hr2 (IsVs.append (t1.keep k2) t2) (by rw [List.length_append]; omega) o2 y dx hy hdx ne
  · exact o2.elim

/-! ### isinstance of own classes -/
structure IsiF (K : KC) (C' : Str) (cs : List (Nat × Bool)) : Prop where
  ex : ∃ c0, K.mg C' = some (.ref c0) ∧ ∀ p ∈ cs, ∃ nm fl C, tab[p.1]? = some (nm, fl) ∧ K.mg nm = some (.ref C) ∧ PySem.W.findIn K.K (.ref C) "__class__" = some (some (.builtin "object.__class__")) ∧ PySem.W.mroIn K.K C (.type "object") = some true ∧ PySem.W.kitOne K.K (.ref C) (.ref c0) = some p.2
  hn : PySem.W.specialIn K.K (.builtin "object.__class__") "__get__" = some (some (.builtin "getset_descriptor.__get__"))
  htk : PySem.W.takesIn K.K (.builtin "object.__class__") = some true
def mIsC (cs : List (Nat × Bool)) (m : ME) : ME := fun env h => (m env h).bind fun x h1 => match insOf h1 x with
  | some (c, _) => (match cs.lookup c with
    | some b => .ok (.bl b) h1
    | none => .bad)
  | none => .bad
theorem se_isC {p p2 : Pos} {T : Str} {cs : List (Nat × Bool)} (F : IsiF (kc X) T cs) (hg : Gl X "isinstance") (hm : X.mg "isinstance" = none) (hg2 : Gl X T) (ha : PE X a (tE (kc X) W ma)) (hd2 : (T == ("__debug__" : Str)) = false := by decide)
    (he : starEach [a, .Name T p2] X.env = (false, eval a X.env) :: starEach [.Name T p2] X.env := by rfl) (he2 : starEach [.Name T p2] X.env = (false, eval (.Name T p2) X.env) :: starEach [] X.env := by rfl) (hpl : (backTo pos (starEach [.Name T p2] X.env)).any (·.1) = false := by rfl) :
    PE X (.Call (.Name "isinstance" p) [a, .Name T p2] [] pos) (tE (kc X) W (mIsC cs ma)) := by
  obtain ⟨c0, f1, f2⟩ := F.ex
  refine (pe_callB call_isi hg hm boot_isinstance (pa_cons ha (pa_cons (pe_glob (v := .ref c0) hg2 f1 rfl hd2) pa_nil he2) he) (by decide) (by decide) he hpl).imp fun σ H Q => ?_
  rintro ⟨φ, env, h, hr, er, o⟩
  refine tG_step hr er o fun φ1 H1 h1 x u k1 hr1 er1 t1 o1 => ?_
  cases e1 : insOf h1 x with
  | none => simp only [e1] at o1; exact o1.elim
  | some q =>
    obtain ⟨c, vs⟩ := q
    simp only [e1] at o1
    cases e2 : cs.lookup c with
    | none => simp only [e2] at o1; exact o1.elim
    | some b =>
      simp only [e2] at o1
      obtain ⟨n, p, gs, rfl, rfl, ea, _, ir, ts⟩ := ins_of hr1 t1 e1
      obtain ⟨nm, fl, C, g1, g2, g3, g4, g5⟩ := f2 _ (look_mem e2)
      obtain ⟨dx, i1, i2⟩ := ir.cls g1 g2
      have hc : Cls X.K C := by
        obtain ⟨C', dx', nm', fl', q1, q2, q3, q, _⟩ := ir
        rw [i1] at q
        cases q
        exact q3
      exact ⟨.ref p, .ref c0, .ref C, .ref c0, b, rfl, .own c0, .base (.ins i1 hc g3 F.hn F.htk g4), g5, OkG.ok_here o1 hr1 (.bl b)⟩
end
end Mv

set_option maxHeartbeats 4000000
/-! Mv11: == of instances by their own __eq__. -/
namespace Mv
open PySem PySem.Spec L2
open PyProof.Rows hiding St

/-- x == y, x of the class number c with G as its own ==, y of one of the classes ds -/
def mEqI (gs : List (Nat × (List MV → MH → R MV))) (ds : List Nat) (ma mb : ME) : ME := fun env h => (ma env h).bind fun x h1 => (mb env h1).bind fun y h2 => match insOf h2 x, insOf h2 y with
  | some (c, _), some (d, _) => (match gs.lookup c with
    | some G => if d ∈ ds then (G [x, y] h2).noX else .bad
    | none => .bad)
  | _, _ => .bad
/-- y's class is no subclass of c's -/
def NotSub (K : KC) (c : Nat) (ds : List Nat) : Prop := ∀ d ∈ ds, ∃ nm fl C nm' fl' C', tab[c]? = some (nm, fl) ∧ K.mg nm = some (.ref C) ∧ tab[d]? = some (nm', fl') ∧ K.mg nm' = some (.ref C') ∧ PySem.W.notFirst K.K C (.ref C') = true
def rEqI (K : KC) (np : Nat) (C : Addr) (sp : Sp) : R2 := fun x y H Q => ∃ a b C' dx dy fs gs, x = .ref a ∧ y = .ref b ∧ H a = some (.ins C dx fs) ∧ H b = some (.ins C' dy gs) ∧ PySem.W.notFirst K.K C (.ref C') = true ∧ sp [x, y] H (fun v H' => (∃ r, v = .bl r) ∧ Q v H') E0
section
variable {X : Cx} {W : WT} {pos : Pos} {a b c : Expr} {ma mb mc : ME}
theorem op_eqI {n np : Nat} {C f : Addr} {fd : FuncData} {ps : List Str} {sp : Sp} (F : FnOk X.prog X.w X.K X.mg X.base CX0 n f fd ps sp) (M : Meth X.K C "__eq__" f) (hb : L2.Binds X.K fd ps []) (hr : Room n X.A) : OpR X (compareOp .Eq) (rEqI (kc X) np C sp) := by
  intro pins s σ H x y v u Q I rx ry hq
  obtain ⟨p, q, C', dx, dy, fs, gs, rfl, rfl, hp, hq, hn, hs⟩ := hq
  cases rx
  cases ry
  show wpAny (model X.prog X.w) X.A (richCompare .Eq (.ref p) (.ref q)) (EP X pins σ Q) X.xe s
  obtain ⟨mA, J, _⟩ := ins_get I.hok hp
  obtain ⟨mB, J', _⟩ := ins_get I.hok hq
  obtain ⟨od, J, _⟩ := J.look
  obtain ⟨od', J', _⟩ := J'.look
  obtain ⟨m, hF⟩ := I.fr
  refine PySem.W.cmp_K (op := .Eq) (tb := .ref C') hr.units0 hF I.ok.mod.kin J J'.type hn M.at_ M.fn ?_
  have hl := F.len _ _ _ _ hs
  have r2 : Vals [V.ref p, V.ref q] [Value.ref p, Value.ref q] := .cons rfl (.cons rfl .nil)
  refine wpAny_call (codeAny_mono (F.run X.A X.stack s H ⟨[.ref p, .ref q], []⟩ [.ref p, .ref q] [.ref p, .ref q] _ E0 hr I.env0 (by
    have := hb s [.ref p, .ref q] I.kIn (by simpa using hl)
    simpa using this) r2 hs) fun r s' hq => ?_)
  cases r with
  | error e => exact pass0 pins σ H s e s' I hq
  | ok fl =>
    cases fl with
    | ret w =>
      obtain ⟨z, H', I', rz, ⟨r, ez⟩, ex⟩ := I.after hq
      subst ez
      cases rz
      exact ⟨.bl r, H', I', rfl, ex⟩
    | next => exact False.elim hq
    | brk => exact False.elim hq
    | cont => exact False.elim hq
/-- what an own == gives is a bool -/
def boolR : R MV → R MV
  | .ok (.bl b) h => .ok (.bl b) h
  | _ => .bad
def mEqB (gs : List (Nat × (List MV → MH → R MV))) (ds : List Nat) (ma mb : ME) : ME := fun env h => (ma env h).bind fun x h1 => (mb env h1).bind fun y h2 => match insOf h2 x, insOf h2 y with
  | some (c, _), some (d, _) => (match gs.lookup c with
    | some G => if d ∈ ds then boolR (G [x, y] h2) else .bad
    | none => .bad)
  | _, _ => .bad
theorem se_eqI {k j c : Nat} {G : List MV → MH → R MV} {ds : List Nat} (D : MDef X.prog X.w X.K X.mg X.base k c "__eq__" 2 G) (N : NotSub (kc X) c ds) (hr : Room j X.A) (ha : PE X a (tE (kc X) W ma)) (hb : PE X b (tE (kc X) W mb)) (hj : k ≤ j := by decide)
    (hm : behindInMarks .Eq b = false := by first | exact nobehind _ (by decide) (by decide) | rfl) : PE X (.Compare a [.Eq] [b] pos) (tE (kc X) W (mEqB [(c, G)] ds ma mb)) := by
  obtain ⟨nm, fl, C, f, fd, ps, q1, q2, q3, q4, q5, q6, q7⟩ := D.ex
  refine (pe_cmpR (op_eqI (np := 2) q5 q4 q6 (hr.mono hj)) ha hb hm).imp fun σ H Q => ?_
  rintro ⟨φ, env, h, hr, er, o⟩
  refine tG_step hr er o fun φ1 H1 h1 x u k1 hr1 er1 t1 o1 => ?_
  refine tG_step hr1 er1 o1 fun φ2 H2 h2 y v k2 hr2 er2 t2 o2 => ?_
  cases e1 : insOf h2 x with
  | none => simp only [e1] at o2; exact o2.elim
  | some p =>
    cases e2 : insOf h2 y with
    | none => simp only [e1, e2] at o2; exact o2.elim
    | some p' =>
      obtain ⟨c', vs⟩ := p
      obtain ⟨d, ws⟩ := p'
      simp only [e1, e2] at o2
      by_cases hc : c' = c
      · subst hc
        have hl : List.lookup c' [(c', G)] = some G := by simp [List.lookup_cons]
        simp only [hl] at o2
        split at o2
        · rename_i hd
          obtain ⟨n, p, gs, rfl, rfl, ea, eh, ir, ts⟩ := ins_of hr2 (t1.keep k2) e1
          obtain ⟨n', p', gs', rfl, rfl, ea', eh', ir', ts'⟩ := ins_of hr2 t2 e2
          obtain ⟨nm1, fl1, C1, nm2, fl2, C2, g1, g2, g3, g4, g5⟩ := N d hd
          obtain ⟨dx, i1, i2⟩ := ir.cls q1 q2
          obtain ⟨dx1, i3, _⟩ := ir.cls g1 g2
          obtain ⟨dy, i4, _⟩ := ir'.cls g3 g4
          rw [i1] at i3
          cases i3
          refine ⟨p, p', C2, dx, dy, gs, gs', rfl, rfl, i1, i4, g5, rfl, φ2, [.ref n, .ref n'], h2, hr2, .cons (.ref ea) (.cons (.ref ea') .nil), ?_⟩
          cases e3 : G [.ref n, .ref n'] h2 with
          | ok v h3 =>
            rw [e3] at o2
            cases v with
            | bl r =>
              intro φ3 H3 w k3 hr3 t3
              cases t3
              exact ⟨⟨r, rfl⟩, o2 φ3 H3 (.bl r) k3 hr3 (.bl r)⟩
            | _ => exact o2.elim
          | exc x h3 => rw [e3] at o2; exact o2.elim
          | bad => rw [e3] at o2; exact o2.elim
        · exact o2.elim
      · have hl : List.lookup c' [(c, G)] = none := by
          rw [List.lookup_cons]
          have : (c' == c) = false := by simpa using hc
          rw [this]; rfl
        simp only [hl] at o2
        exact o2.elim
theorem se_eqc {e : Expr} {c : Nat} {G : List MV → MH → R MV} {gs : List (Nat × (List MV → MH → R MV))} {ds : List Nat} (h1 : PE X e (tE (kc X) W (mEqB [(c, G)] ds ma mb))) (h2 : PE X e (tE (kc X) W (mEqB gs ds ma mb))) : PE X e (tE (kc X) W (mEqB ((c, G) :: gs) ds ma mb)) := (h1.alt h2).imp fun σ H Q => by
  rintro ⟨φ, env, h, hr, er, o⟩
  by_cases hc : ∃ x h1 y h2 vs, ma env h = .ok x h1 ∧ mb env h1 = .ok y h2 ∧ insOf h2 x = some (c, vs)
  · obtain ⟨x, h1, y, h2, vs, e1, e2, e3⟩ := hc
    refine .inl ⟨φ, env, h, hr, er, ?_⟩
    unfold mEqB at o ⊢
    simp only [e1, e2, e3, R.bind_ok] at o ⊢
    cases e4 : insOf h2 y with
    | none => simp only [e4] at o; exact o.elim
    | some p => simpa [e4, List.lookup_cons] using o
  · refine .inr ⟨φ, env, h, hr, er, ?_⟩
    unfold mEqB at o ⊢
    cases e1 : ma env h with
    | bad => rw [e1] at o; exact o.elim
    | exc x h1 => rw [e1] at o; exact o
    | ok x h1 =>
      rw [e1] at o
      simp only [R.bind_ok] at o ⊢
      cases e2 : mb env h1 with
      | bad => rw [e2] at o; exact o.elim
      | exc x h1 => rw [e2] at o; exact o
      | ok y h2 =>
        rw [e2] at o
        simp only [R.bind_ok] at o ⊢
        cases e3 : insOf h2 x with
        | none => simp only [e3] at o; exact o.elim
        | some p =>
          obtain ⟨c', vs⟩ := p
          cases e4 : insOf h2 y with
          | none => simp only [e3, e4] at o; exact o.elim
          | some p' =>
            simp only [e3, e4] at o ⊢
            have ne : (c' == c) = false := by
              simp only [beq_eq_false_iff_ne]
              intro z
              exact hc ⟨x, h1, y, h2, vs, e1, e2, by rw [e3, z]⟩
            rw [List.lookup_cons, ne] at o
            exact o
/-- as a test -/
theorem st_of {e : Expr} {m : ME} (h : PE X e (tE (kc X) W m)) (he : ∀ whole, isTrue e X.env whole = (do let v ← whole; standAt e.pos; holding [v] (truthy v)) := by intro _; rfl) : PT X e (tT (kc X) W (mAsB m)) := st_val h he
end
end Mv

set_option maxHeartbeats 4000000
/-! Mv12: t[::-1] -/
namespace Mv
open PySem PySem.Spec L2 HT
open PyProof.Rows hiding St
section
variable {prog : Program} {w : World} {A : Around} {E : Value → Shared → Prop} {s : Shared}
theorem rv_adjust (n : Nat) : Builtin.Slice.sliceAdjust none none (-1) (n : Int) = ((n : Int) - 1, -1) := by
  unfold Builtin.Slice.sliceAdjust
  simp
theorem rv_places (n : Nat) : Builtin.Slice.slicePlaces ((n : Int) - 1) (-1) (-1) = n := by
  unfold Builtin.Slice.slicePlaces
  simp
  try (split <;> omega)
theorem rv_applied {sl : Addr} {vl vu vs : Value} {n : Nat} {Q : Int × Int × Nat → Shared → Prop} (hs : s.heap.IsSliceOf sl vl vu vs) (pl : IsPart vl none) (pu : IsPart vu none) (ps : IsPart vs (some (-1)))
    (h : Q ((n : Int) - 1, -1, n) s) : wpAny (model prog w) A (Builtin.Slice.sliceApplied (.ref sl) (pure (n : Int))) Q E s := by
  obtain ⟨os, hos, hcs, hds⟩ := id hs
  unfold Builtin.Slice.sliceApplied Builtin.Slice.sliceFields
  refine wpAny_bind (wpAny_bind (wpAny_field hos hds (x := vl) rfl (wpAny_bind (wpAny_field hos hds (x := vu) rfl (wpAny_bind (wpAny_field hos hds (x := vs) rfl (wpAny_pure ?_)))))))
  refine wpAny_bind (slicePart_ ps ?_)
  show wpAny _ _ (if ((-1 : Int) == 0) = true then _ else _) _ _ s
  rw [if_neg (by decide)]
  refine wpAny_bind (slicePart_ pl (wpAny_bind (slicePart_ pu (wpAny_bind (wpAny_pure ?_)))))
  show wpAny _ _ (match Builtin.Slice.sliceAdjust none none (-1) (n : Int) with | (lo, hi) => pure (lo, (-1 : Int), Builtin.Slice.slicePlaces lo hi (-1))) _ _ s
  rw [rv_adjust n]
  show wpAny _ _ (pure ((n : Int) - 1, (-1 : Int), Builtin.Slice.slicePlaces ((n : Int) - 1) (-1) (-1))) _ _ s
  rw [rv_places]
  exact wpAny_pure h
theorem rv_pick (xs : Array Value) : ((List.range xs.size).filterMap fun (m : Nat) => xs[(((xs.size : Int) - 1) + (m : Int) * (-1)).toNat]?).toArray = xs.toList.reverse.toArray := by
  congr 1
  have h2 : (List.range xs.size).filterMap (fun (m : Nat) => xs[(((xs.size : Int) - 1) + (m : Int) * (-1)).toNat]?) = ((List.range xs.size).map fun k => xs.size - 1 - k).filterMap (xs[·]?) := by
    rw [List.filterMap_map]
    have q : ∀ l : List Nat, (∀ m ∈ l, m < xs.size) → l.filterMap (fun (m : Nat) => xs[(((xs.size : Int) - 1) + (m : Int) * (-1)).toNat]?) = l.filterMap ((fun x => xs[x]?) ∘ fun k => xs.size - 1 - k) := by
      intro l
      induction l with
      | nil => intro _; rfl
      | cons m l ih =>
        intro hl
        have h1 := hl m (List.mem_cons_self ..)
        have h3 : (((xs.size : Int) - 1) + (m : Int) * (-1)).toNat = xs.size - 1 - m := by omega
        rw [List.filterMap_cons, List.filterMap_cons, ih fun z hz => hl z (List.mem_cons_of_mem _ hz)]
        simp only [Function.comp, h3]
    exact q _ fun m hm => List.mem_range.mp hm
  rw [h2, PySem.W.krv_range, List.filterMap_reverse, PySem.W.krv_all]
theorem getItem_tuple_rev {t sl : Addr} {items : Array Value} {vl vu vs : Value} {Q : Value → Shared → Prop} (ht : IsTup s.heap t items) (hs : s.heap.IsSliceOf sl vl vu vs) (pl : IsPart vl none) (pu : IsPart vu none) (ps : IsPart vs (some (-1)))
    (h : Q (.ref s.heap.objs.size) { s with heap := s.heap.push { cls := .type "tuple", data := .seq items.toList.reverse.toArray } })
    (hsz : items.size ≤ sizeLine) : wpAny (model prog w) A (getItem (.ref t) (.ref sl)) Q E s := by
  have htake : sizeOk (.seq items.toList.reverse.toArray) := by
    show items.toList.reverse.toArray.size ≤ sizeLine
    simpa using hsz
  obtain ⟨os, hos, hcs, hds⟩ := id hs
  have hTs : s.TypeIs (.ref sl) "slice" := ⟨os, hos, hcs⟩
  unfold getItem
  try with_reducible refine wpAny_holding ?_
  first | refine wpAny_bind (wpAny_pure ?_) | skip
  refine wpAny_bind (wpAny_sequenceKey ht.typeIs (by decide) ?_)
  refine wpAny_bind (wpAny_callSpecial?_slot (name := Str.ofString "__getitem__") ht.typeIs PyProof.Rows.slot_tuple_getitem
    (wpAny_call_entry PyProof.Rows.slot_tuple_getitem ht.typeIs entry_tuple_getitem ?_ (args_tuple_getitem _ _)))
  show wpAny _ _ (Builtin.Tuple.tupleItemsOf (.ref t) >>= _) _ _ s
  refine wpAny_bind (tupleItemsOf_ ht ?_)
  refine wpAny_bind (wpAny_typeOf hTs ?_)
  rw [if_pos (by decide)]
  refine wpAny_bind (rv_applied hs pl pu ps ?_)
  have hno : ¬ ((((items.size : Int) - 1) == 0 && (-1 : Int) == 1 && items.size == items.size) = true) := by
    intro q
    rw [Bool.and_eq_true, Bool.and_eq_true] at q
    exact absurd q.1.2 (by decide)
  show wpAny _ _ (if (((items.size : Int) - 1) == 0 && (-1 : Int) == 1 && items.size == items.size) = true then _ else _) _ _ s
  rw [if_neg hno, rv_pick]
  first
    | exact wpAny_bind (m := Builtin.Tuple.tupleExact _) (wpAny_newObj_type (wpAny_pure ⟨_, rfl, wpAny_pure h⟩) htake)
    | exact wpAny_bind (m := Builtin.Tuple.tupleExact _) (wpAny_newObj_type (wpAny_bind (wpAny_pure (wpAny_pure ⟨_, rfl, wpAny_pure h⟩))) htake)
    | exact wpAny_bind (wpAny_bind (m := Builtin.Tuple.tupleExact _) (wpAny_newObj_type (wpAny_pure (wpAny_pure ⟨_, rfl, wpAny_pure h⟩)) htake))
    | exact wpAny_bind (wpAny_bind (m := Builtin.Tuple.tupleExact _) (wpAny_newObj_type (wpAny_pure ⟨_, rfl, wpAny_pure h⟩) htake))
end
def tRevT (K : PySem.W.Frag) (te : TE) : TE := fun σ H Q => te σ H fun x H1 => ∃ a xs, x = .ref a ∧ SqT K H1 a xs ∧ ∀ p, H1 p = none → Q (.ref p) (upd H1 p (.tup xs.reverse))
section
variable {X : Cx} {W : WT} {e : Expr} {ma : ME}
theorem pe_revT {te : TE} {k : Nat} {p1 p2 p3 pos : Pos} (he : PE X e te) : PE X (.Subscript e (.Slice none none (some (.UnaryOp .USub (.Constant (.int 1) k p1) p2)) p3) pos) (tRevT X.K te) := by
  refine ⟨fun pins s σ H Q I h => ?_⟩
  refine Subscript_ (thn (he.run pins s σ H _ I h) fun v s1 ⟨x, H1, I1, r1, q1⟩ => ?_)
  obtain ⟨a, xs, ex, hx, q⟩ := q1
  subst ex
  cases r1
  have hst : PO X (some (.UnaryOp .USub (.Constant (.int 1) k p1) p2)) (tPart (tUn (rU fun i => .int (-i)) (tC (.int 1)))) := po_some (pe_un un_neg pe_int)
  refine wpAny_Slice (thn (po_none.run pins s1 σ H1 (fun o H2 => o = none ∧ H2 = H1) I1 ⟨rfl, rfl⟩) fun vl s2 ⟨l, H2, I2, pl, el, e2⟩ => ?_)
  subst el e2
  refine thn (po_none.run pins s2 σ H2 (fun o H3 => o = none ∧ H3 = H2) I2 ⟨rfl, rfl⟩) fun vu s3 ⟨u, H3, I3, pu, eu, e3⟩ => ?_
  subst eu e3
  refine thn (hst.run pins s3 σ H3 (fun o H4 => o = some (-1) ∧ H4 = H3) I3 ⟨1, rfl, -1, rfl, rfl, rfl⟩) fun vs s4 ⟨o, H4, I4, ps, eo, e4⟩ => ?_
  subst eo e4
  have I5 : Inv X pins σ H4 { s4 with heap := s4.heap.push { cls := .type "slice", data := .fields #[vl, vu, vs] } } := I4.kept (t' := s4.toks) fun b ob q => Heap.get?_push_of_some _ q
  obtain ⟨its, r, ht, hz⟩ := I5.tuple hx
  have hlen := r.length
  show wpAny (model X.prog X.w) X.A (subscriptTail e (.Slice none none (some (.UnaryOp .USub (.Constant (.int 1) k p1) p2)) p3) (.ref a) (.ref s4.heap.objs.size)) (EP X pins σ Q) X.xe { s4 with heap := s4.heap.push { cls := .type "slice", data := .fields #[vl, vu, vs] } }
  refine tail_any (ops := [.ref a, .ref s4.heap.objs.size]) ht.typeIs (PyProof.Rows.slot_tuple_getitem.lookup) ?_ (by with_unfolding_all rfl)
  refine getItem_tuple_rev ht (Heap.IsSliceOf.new _ vl vu vs) pl pu ps ?_ (by rw [List.size_toArray]; omega)
  refine ⟨.ref _, _, I5.laid (t' := s4.toks) (o := .tup xs.reverse) (fun b ob q => Heap.get?_push_of_some _ q) (Nat.le_refl _) ?_, rfl, q _ (I5.hok.fresh (Nat.le_refl _))⟩
  exact ⟨by rw [List.length_reverse]; exact hz, _, r.reverse, IsTup.new _ _⟩
def mRev (m : ME) : ME := fun env h => (m env h).bind fun x h1 => match x with
  | .tup xs => .ok (.tup xs.reverse) h1
  | x => match listOf h1 x with
    | some xs => if xs.length ≤ cap then .ok (.ref h1.length) (h1 ++ [.lst xs.reverse]) else .bad
    | none => .bad
theorem IsVs.reverse {K : KC} {φ : List Addr} {H : Hp} : ∀ {xs : List MV} {vs : List V}, IsVs K φ H xs vs → IsVs K φ H xs.reverse vs.reverse
  | _, _, .nil => .nil
  | _, _, .cons a t => by
    rw [List.reverse_cons, List.reverse_cons]
    exact IsVs.append (IsVs.reverse t) (.cons a .nil)
theorem se_rev {k : Nat} {p1 p2 p3 pos : Pos} (he : PE X e (tE (kc X) W ma)) : PE X (.Subscript e (.Slice none none (some (.UnaryOp .USub (.Constant (.int 1) k p1) p2)) p3) pos) (tE (kc X) W (mRev ma)) := ((pe_revT he).alt (pe_revL he)).imp fun σ H Q => by
  rintro ⟨φ, env, h, hr, er, o⟩
  unfold mRev at o
  cases e0 : ma env h with
  | bad => rw [e0] at o; exact o.elim
  | exc x h0 =>
    refine .inl ⟨φ, env, h, hr, er, ?_⟩
    rw [e0] at o ⊢
    exact o
  | ok x h0 =>
    rw [e0] at o
    simp only [R.bind_ok] at o
    cases x with
    | tup xs =>
      refine .inl ⟨φ, env, h, hr, er, ?_⟩
      rw [e0]
      intro φ1 H1 u k1 hr1 t1
      cases t1 with
      | @tup a vs xs ha ts =>
        exact ⟨a, vs, rfl, ha, fun p hp => tup_ok hr1 (IsVs.reverse ts) hp (OkG.mono o k1)⟩
    | ref n =>
      refine .inr ⟨φ, env, h, hr, er, ?_⟩
      rw [e0]
      intro φ1 H1 u k1 hr1 t1
      cases e1 : listOf h0 (.ref n) with
      | none => simp only [e1] at o; exact o.elim
      | some xs =>
        simp only [e1] at o
        split at o
        · rename_i hl
          obtain ⟨a, vs, rfl, ha, ts⟩ := list_of hr1 t1 e1
          exact ⟨a, vs, rfl, ha, fun p hp => lay_ok hr1 (IsVs.reverse ts) (by simpa using hl) hp (OkG.mono o k1)⟩
        · exact o.elim
    | _ => exact o.elim
/-- is True, is not True of a bool -/
def fIsB : MV → MV → MH → R MV := fun x y h => match x, y with
  | .bl a, .bl b => .ok (.bl (decide (a = b))) h
  | _, _ => .bad
def fNotB : MV → MV → MH → R MV := fun x y h => match x, y with
  | .bl a, .bl b => .ok (.bl (!decide (a = b))) h
  | _, _ => .bad
theorem os_isB : OpF (kc X) rIsB fIsB := by
  intro Z φ H h x y u w Q hr t1 t2 o
  cases t1 with
  | bl a =>
    cases t2 with
    | bl b => exact ⟨a, b, rfl, rfl, OkG.ok_here o hr (.bl _)⟩
    | _ => exact o.elim
  | _ => exact o.elim
theorem os_notB : OpF (kc X) rNotB fNotB := by
  intro Z φ H h x y u w Q hr t1 t2 o
  cases t1 with
  | bl a =>
    cases t2 with
    | bl b => exact ⟨a, b, rfl, rfl, OkG.ok_here o hr (.bl _)⟩
    | _ => exact o.elim
  | _ => exact o.elim
end
end Mv

set_option maxHeartbeats 4000000
/-! Mv13: what a call leaves behind is forgotten, its answer's own objects moved to the front; specs over the heap. -/
namespace Mv
open PySem PySem.Spec L2

mutual
def MV.ren (ρ : Nat → Nat) : MV → MV
  | .ref n => .ref (ρ n)
  | .tup xs => .tup (MV.rens ρ xs)
  | .non => .non
  | .bl b => .bl b
  | .int i => .int i
  | .str x => .str x
def MV.rens (ρ : Nat → Nat) : List MV → List MV
  | [] => []
  | x :: r => MV.ren ρ x :: MV.rens ρ r
end
def MO.ren (ρ : Nat → Nat) : MO → MO
  | .lst xs => .lst (MV.rens ρ xs)
  | .frz xs => .frz (MV.rens ρ xs)
  | .dct kvs => .dct (kvs.map fun p => (p.1, MV.ren ρ p.2))
  | .fdc kvs => .fdc (kvs.map fun p => (p.1, MV.ren ρ p.2))
  | .ins c vs => .ins c (MV.rens ρ vs)
theorem rens_map (ρ : Nat → Nat) : ∀ xs : List MV, MV.rens ρ xs = xs.map (MV.ren ρ)
  | [] => by simp [MV.rens]
  | x :: r => by simp [MV.rens, rens_map ρ r]
mutual
theorem ren_id {ρ : Nat → Nat} {n : Nat} (h : ∀ i, i < n → ρ i = i) : ∀ (x : MV), MV.und n x → MV.ren ρ x = x
  | .non, _ => by simp [MV.ren]
  | .bl _, _ => by simp [MV.ren]
  | .int _, _ => by simp [MV.ren]
  | .str _, _ => by simp [MV.ren]
  | .ref i, b => by
    simp only [MV.und] at b
    simp [MV.ren, h i b]
  | .tup xs, b => by
    simp only [MV.und] at b
    simp only [MV.ren, rens_id h xs b]
theorem rens_id {ρ : Nat → Nat} {n : Nat} (h : ∀ i, i < n → ρ i = i) : ∀ (xs : List MV), MV.unds n xs → MV.rens ρ xs = xs
  | [], _ => by simp [MV.rens]
  | x :: r, b => by
    simp only [MV.unds] at b
    simp only [MV.rens, ren_id h x b.1, rens_id h r b.2]
end
mutual
theorem IsV.ren {K : KC} {φ φ' : List Addr} {H : Hp} {ρ : Nat → Nat} {n : Nat} (hρ : ∀ i, i < n → ∀ a, φ'[ρ i]? = some a → φ[i]? = some a) : ∀ {x : MV} {u : V}, MV.und n x → IsV K φ' H (MV.ren ρ x) u → IsV K φ H x u
  | .non, _, _, h => by
    simp only [MV.ren] at h
    cases h; exact .non
  | .bl b, _, _, h => by
    simp only [MV.ren] at h
    cases h; exact .bl b
  | .int i, _, _, h => by
    simp only [MV.ren] at h
    cases h; exact .int i
  | .str s, _, _, h => by
    simp only [MV.ren] at h
    cases h; exact .str s
  | .ref i, _, b, h => by
    simp only [MV.ren] at h
    simp only [MV.und] at b
    cases h with
    | ref e => exact .ref (hρ i b _ e)
  | .tup xs, _, b, h => by
    simp only [MV.ren] at h
    simp only [MV.und] at b
    cases h with
    | tup q ts => exact .tup q (IsVs.ren hρ b ts)
theorem IsVs.ren {K : KC} {φ φ' : List Addr} {H : Hp} {ρ : Nat → Nat} {n : Nat} (hρ : ∀ i, i < n → ∀ a, φ'[ρ i]? = some a → φ[i]? = some a) : ∀ {xs : List MV} {us : List V}, MV.unds n xs → IsVs K φ' H (MV.rens ρ xs) us → IsVs K φ H xs us
  | [], _, _, h => by
    simp only [MV.rens] at h
    cases h; exact .nil
  | x :: r, _, b, h => by
    simp only [MV.rens] at h
    simp only [MV.unds] at b
    cases h with
    | cons t ts => exact .cons (IsV.ren hρ b.1 t) (IsVs.ren hρ b.2 ts)
end
theorem OR.ren {K : KC} {φ φ' : List Addr} {H : Hp} {ρ : Nat → Nat} {n : Nat} (hρ : ∀ i, i < n → ∀ a, φ'[ρ i]? = some a → φ[i]? = some a) {o : MO} {a : Addr} (b : MO.und n o) (r : OR K φ' H a (MO.ren ρ o)) : OR K φ H a o := by
  cases o with
  | lst xs => obtain ⟨l, vs, q, t⟩ := r; exact ⟨by simpa [rens_map] using l, vs, q, t.ren hρ b⟩
  | frz xs => obtain ⟨l, o, vs, q, t⟩ := r; exact ⟨by simpa [rens_map] using l, o, vs, q, t.ren hρ b⟩
  | dct kvs =>
    obtain ⟨ws, q, l, ek, t⟩ := r
    refine ⟨ws, q, by simpa using l, by rw [ek, List.map_map]; rfl, IsVs.ren hρ b ?_⟩
    rw [List.map_map] at t
    rw [rens_map, List.map_map]
    exact t
  | fdc kvs =>
    obtain ⟨o, ws, q, l, ek, t⟩ := r
    refine ⟨o, ws, q, by simpa using l, by rw [ek, List.map_map]; rfl, IsVs.ren hρ b ?_⟩
    rw [List.map_map] at t
    rw [rens_map, List.map_map]
    exact t
  | ins c vs =>
    obtain ⟨gs, q, t⟩ := r
    refine ⟨gs, ?_, t.ren hρ b⟩
    have : (MV.rens ρ vs).length = vs.length := by simp [rens_map]
    rwa [this] at q
/-- where the new heap's objects stood -/
def back (n : Nat) (f : List Nat) : Nat → Nat := fun i => if i < n then i else f.getD (i - n) 0
theorem back_lt {n : Nat} {f : List Nat} {i : Nat} (h : i < n) : back n f i = i := if_pos h
/-- the answer's own objects (at f in the old heap) are moved to the front of what is new; all else that is new is forgotten; h2: the old heap, changed in place -/
theorem sim_ren {h h2 g g' : MH} {v' : MV} (f : List Nat) (h2l : h2.length = h.length) (hb : Below h.length h → Below h.length h2) (hf : f.length = g'.length) (nd : f.Nodup) (hn : ∀ m ∈ f, h.length ≤ m)
    (ho : ∀ (j m : Nat) (o : MO), f[j]? = some m → g'[j]? = some o → (h2 ++ g)[m]? = some (o.ren (back h.length f)) ∧ MO.und (h.length + g'.length) o) (bv : MV.und (h.length + g'.length) v') :
    Sim h (.ok (v'.ren (back h.length f)) (h2 ++ g)) (.ok v' (h2 ++ g')) := by
  intro K Z φ H Q hr o φ' H' u k hr' t
  have b2 := hb hr.below
  have hlen := hr'.len
  rw [List.length_append] at hlen
  have hφ : ∀ m ∈ f, ∃ a, φ'[m]? = some a := fun m hm => by
    obtain ⟨j, ej⟩ := List.mem_iff_getElem?.mp hm
    have hj : j < g'.length := by rw [← hf]; exact (List.getElem?_eq_some_iff.mp ej).1
    exact hr'.addr (ho j m _ ej (List.getElem?_eq_getElem hj)).1
  let pick : Nat → Addr := fun m => φ'.getD m 0
  have hpick : ∀ m ∈ f, φ'[m]? = some (pick m) := fun m hm => by
    obtain ⟨a, ea⟩ := hφ m hm
    have : pick m = a := by show φ'.getD m 0 = a; rw [List.getD_eq_getElem?_getD, ea]; rfl
    rw [this]; exact ea
  have k0 : Keep φ H (φ'.take h2.length) H' := k.forget (by rw [hr.len, h2l]; exact Nat.le_refl _)
  have r0 := hr'.forget (h := h2) (by rw [h2l]; exact b2)
  have hl0 : (φ'.take h2.length).length = h2.length := r0.len
  have inj : ∀ {i j : Nat} {a : Addr}, φ'[i]? = some a → φ'[j]? = some a → i = j := fun e1 e2 => by
    obtain ⟨_, x1⟩ := List.getElem?_eq_some_iff.mp e1
    obtain ⟨_, x2⟩ := List.getElem?_eq_some_iff.mp e2
    exact (List.getElem_inj hr'.nd).mp (x1.trans x2.symm)
  -- the new addresses
  have hmem : ∀ a, a ∈ f.map pick → ∃ m ∈ f, φ'[m]? = some a := fun a ha => by
    obtain ⟨m, hm, e⟩ := List.mem_map.mp ha
    exact ⟨m, hm, by rw [← e]; exact hpick m hm⟩
  have hnew : ∀ a ∈ f.map pick, H a = none := fun a ha => by
    obtain ⟨m, hm, e⟩ := hmem a ha
    obtain ⟨mo, e3, fr⟩ := k.ext
    rw [e3, List.getElem?_append_right (by rw [hr.len]; exact hn m hm)] at e
    exact fr a (List.mem_of_getElem? e)
  have hgetF : ∀ (j : Nat) (a : Addr), (φ'.take h2.length ++ f.map pick)[h2.length + j]? = some a → ∃ m, f[j]? = some m ∧ φ'[m]? = some a := fun j a e => by
    rw [List.getElem?_append_right (by omega), hl0, Nat.add_sub_cancel_left, List.getElem?_map] at e
    cases q : f[j]? with
    | none => rw [q] at e; cases e
    | some m =>
      rw [q] at e
      cases e
      exact ⟨m, rfl, hpick m (List.mem_of_getElem? q)⟩
  have hρ : ∀ i, i < h.length + g'.length → ∀ a, φ'[back h.length f i]? = some a → (φ'.take h2.length ++ f.map pick)[i]? = some a := fun i hi a e => by
    by_cases hlt : i < h.length
    · rw [back_lt hlt] at e
      rw [List.getElem?_append_left (by omega), List.getElem?_take_of_lt (by omega)]
      exact e
    · rw [List.getElem?_append_right (by omega), hl0, List.getElem?_map, h2l]
      have hj : i - h.length < f.length := by omega
      have e2 : f[i - h.length]? = some (back h.length f i) := by
        unfold back
        rw [if_neg hlt, List.getD_eq_getElem?_getD, List.getElem?_eq_getElem hj]
        rfl
      rw [e2]
      have := hpick _ (List.mem_of_getElem? e2)
      rw [this] at e
      exact e
  refine o (φ'.take h2.length ++ f.map pick) H' u ?_ ?_ (IsV.ren hρ bv t)
  · obtain ⟨mo, e3, fr⟩ := k0.ext
    refine ⟨⟨mo ++ f.map pick, by rw [e3, List.append_assoc], fun b hb => ?_⟩, k0.dom, k0.out, k0.tup, k0.frz⟩
    rcases List.mem_append.mp hb with hb | hb
    · exact fr b hb
    · exact hnew b hb
  · refine ⟨by rw [List.length_append, List.length_append, hl0, List.length_map, hf], ?_, fun n a ob e1 e2 => ?_, r0.tb⟩
    · rw [List.nodup_append]
      refine ⟨r0.nd, ?_, fun a ha b hb' z => ?_⟩
      · refine List.pairwise_map.mpr (List.Pairwise.imp_of_mem (fun {x y} hx hy hxy e => hxy ?_) nd)
        have ex := hpick x hx
        have ey := hpick y hy
        rw [show pick x = pick y from e] at ex
        exact inj ex ey
      · obtain ⟨m, hm, e⟩ := hmem b hb'
        obtain ⟨i, ei⟩ := List.mem_iff_getElem?.mp ha
        have hi : i < h2.length := by
          have := (List.getElem?_eq_some_iff.mp ei).1
          omega
        rw [List.getElem?_take_of_lt hi, z] at ei
        have := inj ei e
        have := hn m hm
        omega
    · by_cases hlt : n < h2.length
      · rw [List.getElem?_append_left hlt] at e2
        rw [List.getElem?_append_left (by omega)] at e1
        exact (r0.at_ n a ob e1 e2).more _
      · rw [List.getElem?_append_right (by omega)] at e2
        have e1' : (φ'.take h2.length ++ f.map pick)[h2.length + (n - h2.length)]? = some a := by
          rw [show h2.length + (n - h2.length) = n by omega]; exact e1
        obtain ⟨m, q1, q2⟩ := hgetF _ _ e1'
        obtain ⟨q3, q4⟩ := ho _ _ _ q1 e2
        exact OR.ren hρ q4 (hr'.at_ m a _ q2 q3)

/-! ### specs over the heap -/
open Classical in
noncomputable def specH {α : Type} (enc : α → List MV) (dom : α → MH → Prop) (out : α → MH → R MV) : List MV → MH → R MV := fun xs h =>
  if q : ∃ a, enc a = xs ∧ dom a h then out q.choose h else .bad
theorem specH_eq {α : Type} {enc : α → List MV} {dom : α → MH → Prop} {out : α → MH → R MV} {h : MH} (inj : ∀ a b, enc a = enc b → dom a h → dom b h → out a h = out b h) {a : α} (d : dom a h) : specH enc dom out (enc a) h = out a h := by
  unfold specH
  have q : ∃ b, enc b = enc a ∧ dom b h := ⟨a, rfl, d⟩
  rw [dif_pos q, inj _ _ q.choose_spec.1 q.choose_spec.2 d]
theorem specH_sim {α : Type} {enc : α → List MV} {dom : α → MH → Prop} {out : α → MH → R MV} {F : List MV → MH → R MV} (hs : ∀ a h, dom a h → Sim h (F (enc a) h) (out a h)) (xs : List MV) (h : MH) : Sim h (F xs h) (specH enc dom out xs h) := by
  unfold specH
  split
  · rename_i q
    have := hs q.choose h q.choose_spec.2
    rw [q.choose_spec.1] at this
    exact this
  · exact Sim.bad
end Mv

set_option maxHeartbeats 4000000
/-! Mv14: *e in a display, list(range(..)) -/
namespace Mv
open PySem PySem.Spec L2
open PyProof.Rows hiding St
section
variable {X : Cx} {W : WT} {pos : Pos} {a b c : Expr} {ma mb mc : ME} {es : List Expr} {mr : MA}
theorem sa_star {p : Pos} (ha : PE X a (tE (kc X) W ma)) (hr : PA X es (tA (kc X) W mr)) (hs : starEach (.Starred a p :: es) X.env = (true, eval a X.env) :: starEach es X.env := by rfl) : PA X (.Starred a p :: es) (tA (kc X) W (mStar ma mr)) := (StX.pa_star ha hr hs).imp fun σ H Q => by
  rintro ⟨φ, env, h, hr, er, o⟩
  refine tG_step hr er o fun φ1 H1 h1 x u k1 hr1 er1 t1 o1 => ?_
  cases e1 : itemsOf h1 x with
  | none => simp only [e1] at o1; exact o1.elim
  | some xs =>
    simp only [e1] at o1
    obtain ⟨p, vs, rfl, hp, ts⟩ := seq_of hr1 t1 e1
    refine ⟨p, vs, rfl, hp, ?_⟩
    refine tG_step hr1 er1 o1 fun φ2 H2 h2 ys us k2 hr2 er2 t2 o2 => ?_
    exact OkG.ok_here o2 hr2 (IsVs.append (ts.keep k2) t2)
def lrg (i j : Int) (h : MH) : R MV := if inR i = true ∧ inR j = true ∧ (j - i).toNat ≤ cap then .ok (.ref h.length) (h ++ [.lst (ivs (prog i 1 (j - i).toNat))]) else .bad
def mLRg2 (ma mb : ME) : ME := fun env h => (ma env h).bind fun x h1 => (mb env h1).bind fun y h2 => match x, y with
  | .int i, .int j => lrg i j h2
  | _, _ => .bad
def mLRg1 (mb : ME) : ME := fun env h => (mb env h).bind fun y h2 => match y with
  | .int j => lrg 0 j h2
  | _ => .bad
theorem isVs_rg {K : KC} {φ : List Addr} {H : Hp} (i j : Int) : IsVs K φ H (ivs (prog i 1 (j - i).toNat)) (rgV i j) := by
  have e : ivs (prog i 1 (j - i).toNat) = (List.range (j - i).toNat).map fun (k : Nat) => MV.int (i + (k : Int)) := by
    unfold ivs prog
    rw [List.map_map]
    apply List.map_congr_left
    intro k _
    show MV.int (i + (k : Int) * 1) = _
    rw [Int.mul_one]
  rw [e]
  unfold rgV
  generalize List.range (j - i).toNat = l
  induction l with
  | nil => exact .nil
  | cons k l ih => exact .cons (.int _) ih
theorem lrg_ok {K : KC} {Z : XW} {φ : List Addr} {H : Hp} {h : MH} {i j : Int} {Q : VK} (hr : HR K φ H h) (o : OkG K (IsV K) Z φ H (lrg i j h) Q) : RgOk i j ∧ ∀ q, H q = none → Q (.ref q) (upd H q (.lst (rgV i j))) := by
  unfold lrg at o
  split at o
  · rename_i hc
    obtain ⟨c1, c2, c3⟩ := hc
    have b1 := inR_ok c1
    have b2 := inR_ok c2
    refine ⟨⟨b1.1, b1.2, b2.1, b2.2, Nat.le_trans c3 (by decide)⟩, fun p hp => lay_ok hr (isVs_rg i j) (by rw [ints_length, prog_length]; exact c3) hp o⟩
  · exact o.elim
theorem se_lrg2 {p p2 pos2 : Pos} (hc : X.calm = true) (hg : Gl X "list") (hm : X.mg "list" = none) (hg2 : Gl X "range") (hm2 : X.mg "range" = none) (ha : PE X a (tE (kc X) W ma)) (hb : PE X b (tE (kc X) W mb))
    (na2 : starEach [a, b] X.env = (false, eval a X.env) :: starEach [b] X.env := by rfl) (nb : starEach [b] X.env = (false, eval b X.env) :: starEach [] X.env := by rfl) (hp : (backTo pos2 (starEach [b] X.env)).any (·.1) = false := by rfl)
    (na : starEach [.Call (.Name "range" p2) [a, b] [] pos2] X.env = (false, eval (.Call (.Name "range" p2) [a, b] [] pos2) X.env) :: starEach [] X.env := by rfl) :
    PE X (.Call (.Name "list" p) [.Call (.Name "range" p2) [a, b] [] pos2] [] pos) (tE (kc X) W (mLRg2 ma mb)) := (pe_listRg hc hg hm (prg_2 hg2 hm2 ha hb na2 nb hp) na).imp fun σ H Q => by
  rintro ⟨φ, env, h, hr, er, o⟩
  refine tG_step hr er o fun φ1 H1 h1 x u k1 hr1 er1 t1 o1 => ?_
  refine tG_step hr1 er1 o1 fun φ2 H2 h2 y v k2 hr2 er2 t2 o2 => ?_
  cases t1 with
  | int i =>
    cases t2 with
    | int j => exact ⟨i, j, rfl, rfl, lrg_ok hr2 o2⟩
    | _ => exact o2.elim
  | _ => exact o2.elim
theorem se_lrg1 {p p2 pos2 : Pos} (hc : X.calm = true) (hg : Gl X "list") (hm : X.mg "list" = none) (hg2 : Gl X "range") (hm2 : X.mg "range" = none) (hb : PE X b (tE (kc X) W mb))
    (nb : starEach [b] X.env = (false, eval b X.env) :: starEach [] X.env := by rfl)
    (na : starEach [.Call (.Name "range" p2) [b] [] pos2] X.env = (false, eval (.Call (.Name "range" p2) [b] [] pos2) X.env) :: starEach [] X.env := by rfl) :
    PE X (.Call (.Name "list" p) [.Call (.Name "range" p2) [b] [] pos2] [] pos) (tE (kc X) W (mLRg1 mb)) := (pe_listRg hc hg hm (prg_1 hg2 hm2 hb nb) na).imp fun σ H Q => by
  rintro ⟨φ, env, h, hr, er, o⟩
  refine tG_step hr er o fun φ2 H2 h2 y v k2 hr2 er2 t2 o2 => ?_
  cases t2 with
  | int j => exact ⟨j, rfl, lrg_ok hr2 o2⟩
  | _ => exact o2.elim
end
end Mv

set_option maxHeartbeats 4000000
/-! Mv15: sorted(list of data), extend, pop(i), != of instances by their own ==. -/
namespace Mv
open PySem PySem.Spec L2
open PyProof.Rows hiding St

/-! ### sorted -/
def isTupN : PyData → Bool
  | .tuple (_ :: _) => true
  | _ => false
def notTup : PyData → Bool
  | .none => false
  | .tuple _ => false
  | _ => true
def alikeB (ds : List PyData) : Bool := ds.all fun d => ds.all fun e => PySem.W.alike d e
def sortB (ds : List PyData) : Bool := ds.all isTupN || ds.all notTup
theorem alikeB_ok {ds : List PyData} (h : alikeB ds = true) : PySem.W.AllAlike ds := fun d hd e he => by
  unfold alikeB at h
  exact List.all_eq_true.mp (List.all_eq_true.mp h d hd) e he
theorem sortB_ok {ds : List PyData} (h : sortB ds = true) : PySem.W.Sortable ds := by
  unfold sortB at h
  rcases Bool.or_eq_true_iff.mp h with h | h
  · refine .inl fun d hd => ?_
    have := List.all_eq_true.mp h d hd
    unfold isTupN at this
    split at this
    · exact ⟨_, _, rfl⟩
    · cases this
  · refine .inr fun d hd => ?_
    have := List.all_eq_true.mp h d hd
    unfold notTup at this
    constructor
    · intro z; rw [z] at this; cases this
    · intro xs z; rw [z] at this; cases this
/-- the items, sorted by their keys -/
def sortD (xs : List MV) (ds : List PyData) : List MV := ((xs.zip ds).mergeSort (PySem.W.dataLe false (·.2))).map (·.1)
def fSorted : List MV → MH → R MV := fun xs h => match xs with
  | [x] => match listOf h x with
    | some ys => match allSome (ys.map (dataOf 12 h)) with
      | some ds => if ys.length ≤ cap ∧ alikeB ds = true ∧ sortB ds = true then .ok (.ref h.length) (h ++ [.lst (sortD ys ds)]) else .bad
      | none => .bad
    | none => .bad
  | _ => .bad
theorem allSome_len {α : Type} : ∀ {xs : List (Option α)} {ys : List α}, allSome xs = some ys → ys.length = xs.length
  | [], _, e => by simp only [allSome] at e; cases e; rfl
  | none :: _, _, e => by simp only [allSome] at e; cases e
  | some x :: r, _, e => by
    simp only [allSome] at e
    split at e
    · rename_i ys q
      cases e
      simp [allSome_len q]
    · cases e
theorem allSome_get {α : Type} : ∀ {xs : List (Option α)} {ys : List α} {i : Nat} {y : α}, allSome xs = some ys → ys[i]? = some y → xs[i]? = some (some y)
  | [], _, _, _, e, h => by simp only [allSome] at e; cases e; simp at h
  | none :: _, _, _, _, e, _ => by simp only [allSome] at e; cases e
  | some x :: r, _, i, y, e, h => by
    simp only [allSome] at e
    split at e
    · rename_i ys q
      cases e
      cases i with
      | zero => simpa using h
      | succ i => simpa using allSome_get q (by simpa using h)
    · cases e
theorem sortD_len {xs : List MV} {ds : List PyData} (h : ds.length = xs.length) : (sortD xs ds).length = xs.length := by
  unfold sortD
  rw [List.length_map, List.length_mergeSort, List.length_zip, h, Nat.min_self]
theorem each_of_vals : ∀ {vs : List V} {us : List Value} {ds : List PyData}, Vals vs us → ds.length = vs.length → PySem.W.EachIs (fun (u : Value) (b : V × PyData) => RelV b.1 u) us (vs.zip ds)
  | _, _, [], .nil, _ => .nil
  | _, _, d :: ds, .cons r t, h => .cons r (each_of_vals t (by simpa using h))
  | _, _, [], .cons _ _, h => by simp at h
theorem vals_of_each : ∀ {us : List Value} {bs : List (V × PyData)}, PySem.W.EachIs (fun (u : Value) (b : V × PyData) => RelV b.1 u) us bs → Vals (bs.map (·.1)) us
  | _, _, .nil => .nil
  | _, _, .cons r t => .cons r (vals_of_each t)
def rSortedD (K : PySem.W.Frag) : List V → Hp → VK → Prop := fun vs H Q => ∃ (a : Addr) (xs : List V) (ds : List PyData), vs = [.ref a] ∧ SqL K H a xs ∧ DpAll K H xs ds ∧ ds.length = xs.length ∧ PySem.W.AllAlike ds ∧ PySem.W.Sortable ds ∧ (∀ d ∈ ds, d.depth ≤ 12) ∧ ∀ p, H p = none → Q (.ref p) (upd H p (.lst (((xs.zip ds).mergeSort (PySem.W.dataLe false (·.2))).map (·.1))))
section
variable {X : Cx} {W : WT} {pos : Pos} {a b c : Expr} {ma mb mc : ME} {es : List Expr} {mr : MA}
theorem each_reads {s : Shared} {σ : St} {H : Hp} {pins : List (Addr × Obj)} (I : Inv X pins σ H s) : ∀ {vs : List V} {us : List Value} {ds : List PyData}, Vals vs us → DpAll X.K H vs ds → PySem.W.EachIs (fun (u : Value) (b : V × PyData) => ∃ as, Reads s.heap u b.2 as) us (vs.zip ds)
  | _, _, _, .nil, .nil => .nil
  | _, _, _, .cons r t, .cons d ds => .cons (Dp.reads I _ _ _ d r) (each_reads I t ds)
theorem zip_snd {α β : Type} : ∀ {xs : List α} {ys : List β}, ys.length = xs.length → (xs.zip ys).map (·.2) = ys
  | _, [], _ => by simp
  | [], _ :: _, h => by simp at h
  | x :: xs, y :: ys, h => by simp [zip_snd (xs := xs) (ys := ys) (by simpa using h)]
theorem cr_sortedD (hu : X.A.units + 64 < cLine) : CallR X (.builtin "sorted") (rSortedD X.K) := by
  intro pins s σ H vs us Q I r h
  obtain ⟨a, xs, ds, rfl, hs, hd, hl, hal, hso, hdp, q⟩ := h
  obtain ⟨its, rv, hli, hz⟩ := I.list hs
  rw [Vals.ref1 r]
  have e2 : (xs.zip ds).map (·.2) = ds := zip_snd hl
  have hlen : (xs.zip ds).length = xs.length := by rw [List.length_zip, hl, Nat.min_self]
  refine PySem.W.sorted_data (enc := fun b : V × PyData => b.2) hli.isList (each_of_vals rv hl) (each_reads I rv hd) (by rw [e2]; exact hal) (by rw [e2]; exact hso) (by rw [hlen]; exact hz) (fun b hb => ?_) fun out ho eo => ?_
  · have := hdp b.2 (by rw [← e2]; exact List.mem_map.mpr ⟨b, hb, rfl⟩)
    omega
  · obtain ⟨ep, he'⟩ := PyProof.Rows.sortedAll_at s.heap its out.toArray
    have rv' := vals_of_each eo
    refine ⟨.ref _, upd H (s.heap.objs.size + 1) (.lst (((xs.zip ds).mergeSort (PySem.W.dataLe false (·.2))).map (·.1))), I.laid (t' := s.toks) (fun _ _ => PyProof.Rows.sortedAll_old) (Nat.le_succ _) ⟨?_, out, ep, rv', he'⟩, rfl, q _ (I.hok.fresh (Nat.le_succ _))⟩
    rw [List.length_map, List.length_mergeSort, hlen]
    exact hz
end
/-- the same sort of the small values and of the values -/
inductive Zp (K : KC) (φ : List Addr) (H : Hp) : List (MV × PyData) → List (V × PyData) → Prop
  | nil : Zp K φ H [] []
  | cons {x : MV} {v : V} {d : PyData} {xs ys} : IsV K φ H x v → Zp K φ H xs ys → Zp K φ H ((x, d) :: xs) ((v, d) :: ys)
theorem zp_of {K : KC} {φ : List Addr} {H : Hp} : ∀ {xs : List MV} {vs : List V} {ds : List PyData}, IsVs K φ H xs vs → ∃ zs : List ((MV × V) × PyData), xs.zip ds = zs.map (fun z => (z.1.1, z.2)) ∧ vs.zip ds = zs.map (fun z => (z.1.2, z.2)) ∧ ∀ z ∈ zs, IsV K φ H z.1.1 z.1.2
  | _, _, _, .nil => ⟨[], by simp, by simp, by simp⟩
  | _, _, [], .cons _ _ => ⟨[], by simp, by simp, by simp⟩
  | x :: xs, v :: vs, d :: ds, .cons t ts => by
    obtain ⟨zs, h1, h2, h3⟩ := zp_of (ds := ds) ts
    exact ⟨((x, v), d) :: zs, by simp [h1], by simp [h2], fun z hz => by
      rcases List.mem_cons.mp hz with e | e
      · rw [e]; exact t
      · exact h3 z e⟩
theorem isVs_of {K : KC} {φ : List Addr} {H : Hp} {α : Type} {f : α → MV} {g : α → V} : ∀ (zs : List α), (∀ z ∈ zs, IsV K φ H (f z) (g z)) → IsVs K φ H (zs.map f) (zs.map g)
  | [], _ => .nil
  | z :: zs, h => .cons (h z (List.mem_cons_self ..)) (isVs_of zs fun y hy => h y (List.mem_cons_of_mem _ hy))
theorem sortD_ok {K : KC} {φ : List Addr} {H : Hp} {xs : List MV} {vs : List V} {ds : List PyData} (ts : IsVs K φ H xs vs) : IsVs K φ H (sortD xs ds) (((vs.zip ds).mergeSort (PySem.W.dataLe false (·.2))).map (·.1)) := by
  obtain ⟨zs, h1, h2, h3⟩ := zp_of (ds := ds) ts
  unfold sortD
  rw [h1, h2]
  rw [← PySem.W.sort_maps (r := fun a b : (MV × V) × PyData => PySem.W.dataLe false (fun z : (MV × V) × PyData => z.2) a b) (fun z => (z.1.1, z.2)) (fun a _ b _ => rfl)]
  rw [← PySem.W.sort_maps (r := fun a b : (MV × V) × PyData => PySem.W.dataLe false (fun z : (MV × V) × PyData => z.2) a b) (fun z => (z.1.2, z.2)) (fun a _ b _ => rfl)]
  rw [List.map_map, List.map_map]
  exact isVs_of (f := fun z : (MV × V) × PyData => z.1.1) (g := fun z => z.1.2) _ fun z hz => h3 z ((List.mergeSort_perm zs _).mem_iff.mp hz)
theorem data_alls {K : KC} {φ : List Addr} {H : Hp} {h : MH} (hr : HR K φ H h) : ∀ {xs : List MV} {vs : List V} {ds : List PyData}, IsVs K φ H xs vs → allSome (xs.map (dataOf 12 h)) = some ds → DpAll K H vs ds ∧ ∀ d ∈ ds, d.depth ≤ 12
  | _, _, _, .nil, e => by
    simp only [List.map_nil, allSome] at e; cases e
    exact ⟨.nil, by simp⟩
  | x :: xs, _, _, .cons t ts, e => by
    simp only [List.map_cons] at e
    cases e1 : dataOf 12 h x with
    | none => simp only [e1, allSome] at e; cases e
    | some d =>
      simp only [e1, allSome] at e
      cases e2 : allSome (xs.map (dataOf 12 h)) with
      | none => simp only [e2] at e; cases e
      | some dr =>
        simp only [e2] at e
        cases e
        obtain ⟨p1, p2, p3⟩ := data_ok hr 12 _ _ _ t e1
        obtain ⟨q1, q2⟩ := data_alls hr ts e2
        refine ⟨.cons p1 q1, fun y hy => ?_⟩
        rcases List.mem_cons.mp hy with z | z
        · rw [z]; exact p3
        · exact q2 y z
theorem cs_sorted {X : Cx} : CallF (kc X) (rSortedD X.K) fSorted := by
  intro Z φ H h xs us Q hr t o
  unfold fSorted at o
  split at o
  · rename_i x
    obtain ⟨u, rfl, t1⟩ := one_of t
    split at o
    · rename_i ys q
      split at o
      · rename_i ds q2
        split at o
        · rename_i hc
          obtain ⟨c1, c2, c3⟩ := hc
          obtain ⟨p, vs, rfl, hs, ts⟩ := list_of hr t1 q
          obtain ⟨hd, hdp⟩ := data_alls hr ts q2
          have hl : ds.length = ys.length := by
            have := allSome_len q2
            simpa using this
          refine ⟨p, vs, ds, rfl, hs, hd, by rw [hl, ts.length], alikeB_ok c2, sortB_ok c3, hdp, fun r hp => lay_ok hr (sortD_ok ts) (by rw [sortD_len hl]; exact c1) hp o⟩
        · exact o.elim
      · exact o.elim
    · exact o.elim
  · exact o.elim

/-! ### extend, pop -/
def fExtend : MV → List MV → MH → R MV := fun x xs h => match x, xs with
  | .ref n, [.ref m] => match lstOf h n, lstOf h m with
    | some ys, some zs => if ys.length + zs.length ≤ cap then .ok .non (h.set n (.lst (ys ++ zs))) else .bad
    | _, _ => .bad
  | _, _ => .bad
theorem ms_extend {X : Cx} : MethF (kc X) rExtend fExtend := by
  intro Z φ H h x xs u us Q hr t ts o
  unfold fExtend at o
  split at o
  · rename_i n m
    obtain ⟨v, rfl, tv⟩ := one_of ts
    cases t with
    | @ref _ p ea =>
      cases tv with
      | @ref _ q eb =>
        split at o
        · rename_i ys zs q1 q2
          split at o
          · rename_i hl
            obtain ⟨e1, vs, e2, t2⟩ := lst_of hr ea q1
            obtain ⟨f1, ws, f2, t3⟩ := lst_of hr eb q2
            refine ⟨p, q, vs, ws, rfl, rfl, e2, f2, by rw [t2.length, t3.length]; exact cap_line hl, ?_⟩
            exact o φ _ .non (Keep.put (List.mem_of_getElem? ea) e2) (hr.put ea e1 e2 (by simpa using cap_line hl) (t2.append t3)) .non
          · exact o.elim
        · exact o.elim
  · exact o.elim
def fPopAt : MV → List MV → MH → R MV := fun x xs h => match x, xs with
  | .ref n, [.int i] => match lstOf h n with
    | some ys => if inR i = true then match seqIndex? i ys.length with
        | some k => match ys[k]? with
          | some y => .ok y (h.set n (.lst (ys.eraseIdx k)))
          | none => .bad
        | none => .bad
      else .bad
    | none => .bad
  | _, _ => .bad
theorem IsVs.erase {K : KC} {φ : List Addr} {H : Hp} : ∀ {xs : List MV} {vs : List V} (k : Nat), IsVs K φ H xs vs → IsVs K φ H (xs.eraseIdx k) (vs.eraseIdx k)
  | _, _, _, .nil => by simp; exact .nil
  | _, _, 0, .cons _ t => by simpa using t
  | _, _, k + 1, .cons h t => by simpa using IsVs.cons h (IsVs.erase k t)
theorem ms_popAt {X : Cx} : MethF (kc X) rPopAt fPopAt := by
  intro Z φ H h x xs u us Q hr t ts o
  unfold fPopAt at o
  split at o
  · rename_i n i
    obtain ⟨v, rfl, tv⟩ := one_of ts
    cases t with
    | @ref _ p ea =>
      cases tv
      split at o
      · rename_i ys q1
        split at o
        · rename_i hi
          have b := inR_ok hi
          split at o
          · rename_i k q2
            split at o
            · rename_i y q3
              obtain ⟨e1, vs, e2, t2⟩ := lst_of hr ea q1
              obtain ⟨w, hw, tw⟩ := t2.get q3
              have hz : ys.length ≤ sizeLine := by
                have := hr.at_ n p _ ea e1
                exact this.1
              refine ⟨p, vs, i, k, w, rfl, rfl, e2, ?_, ?_, by rw [t2.length]; exact q2, hw, ?_⟩
              · have := b.1; omega
              · have := b.2; omega
              · refine o φ _ w (Keep.put (List.mem_of_getElem? ea) e2) (hr.put ea e1 e2 (Nat.le_trans ?_ hz) (t2.erase k)) (tw.keep (Keep.put (List.mem_of_getElem? ea) e2))
                exact (List.eraseIdx_sublist ys k).length_le
            · exact o.elim
          · exact o.elim
        · exact o.elim
      · exact o.elim
  · exact o.elim
section
variable {X : Cx} {W : WT} {pos : Pos} {a b c : Expr} {ma mb mc : ME} {es : List Expr} {mr : MA}
theorem se_extend {apos cpos : Pos} (ho : PE X a (tE (kc X) W ma)) (ha : PA X (b :: es) (tA (kc X) W mr))
    (hbase : attributeBase a "extend" X.env (eval a X.env) = eval a X.env := by rfl)
    (hfew : ((backTo cpos (starEach (b :: es) X.env)).all (fun x => !x.1) && (backToKw cpos (keywordEach [] X.env)).all (fun x => x.1.isSome)
      && decide ((b :: es).length + ([] : List Keyword).length + (if ([] : List Keyword).isEmpty then 0 else 1) < 30)) = true := by rfl)
    (hline : (apos.endLine == cpos.line) = true := by rfl) (hs : starEach (b :: es) X.env = (false, eval b X.env) :: starEach es X.env := by rfl) (hplain : (backTo cpos (starEach es X.env)).any (·.1) = false := by rfl) :
    PE X (.Call (.Attribute a "extend" apos) (b :: es) [] cpos) (tE (kc X) W (mLm fExtend ma mr)) :=
  (pe_bm PySem.F.plainAttrs_list PySem.F.slot_list_extend PySem.F.type_list_extend mt_extend ho ha hbase hfew hline hs hplain).imp fun _ _ _ o => tLm_of ms_extend o
theorem se_popAt {apos cpos : Pos} (ho : PE X a (tE (kc X) W ma)) (ha : PA X (b :: es) (tA (kc X) W mr))
    (hbase : attributeBase a "pop" X.env (eval a X.env) = eval a X.env := by rfl)
    (hfew : ((backTo cpos (starEach (b :: es) X.env)).all (fun x => !x.1) && (backToKw cpos (keywordEach [] X.env)).all (fun x => x.1.isSome)
      && decide ((b :: es).length + ([] : List Keyword).length + (if ([] : List Keyword).isEmpty then 0 else 1) < 30)) = true := by rfl)
    (hline : (apos.endLine == cpos.line) = true := by rfl) (hs : starEach (b :: es) X.env = (false, eval b X.env) :: starEach es X.env := by rfl) (hplain : (backTo cpos (starEach es X.env)).any (·.1) = false := by rfl) :
    PE X (.Call (.Attribute a "pop" apos) (b :: es) [] cpos) (tE (kc X) W (mLm fPopAt ma mr)) :=
  (pe_bm PySem.F.plainAttrs_list PySem.F.slot_list_pop PySem.F.type_list_pop mt_popAt ho ha hbase hfew hline hs hplain).imp fun _ _ _ o => tLm_of ms_popAt o
end
end Mv

set_option maxHeartbeats 4000000
/-! Mv16: x != y of instances whose class has its own == and object's != -/
namespace PySem.W
open PySem PySem.Calls PyProof.Rows
section
variable {prog : Program} {w : World} {A : Around} {E : Value → Shared → Prop} {s : Shared} {K : Frag} {x C L f : Addr} {h₀ : Heap} {m : Str → Option Value} {ox : Obj} {od : Option Obj} {b tb : Value}
/-- the class has object's != -/
def neIn (K : Frag) (C : Addr) : Bool := findIn K (.ref C) "__ne__" == some (some (.builtin "object.__ne__")) && mroIn K C (.type "object") == some true
theorem mv_ifBoundB {M : Model} {args : List Value} {Q : Option Value → Shared → Prop} (X : K.In s.heap) (I : InstAt s.heap x ox C od) (hs : findIn K (.ref C) "__ne__" = some (some (.builtin "object.__ne__")))
    (h : wpAny M A (call (.builtin "object.__ne__") (.ref x :: args)) (fun v => Q (some v)) E s) : wpAny M A (callSpecialIfBound? (.ref x) "__ne__" args) Q E s := by
  simp only [callSpecialIfBound?, bindSpecialIfBound?]
  refine wpAny_holding (wpAny_bind (wpAny_bind (wpAny_bind (I.type.here ((looks_findIn X hs).here ?_)))))
  refine wpAny_bind (wpAny_askSetting (wpAny_ite ?_))
  have e : bindSpecial (.builtin "object.__ne__") (.ref x) = pure (.builtin "object.__ne__", [.ref x]) := PySem.F.cmp_object.ne.bind _
  have fin : wpAny M A (call (.builtin "object.__ne__") ([.ref x] ++ args) >>= fun v => pure (some v)) Q E s := wpAny_bind (wpAny_mono h (fun v s' h' => wpAny_pure h') fun _ _ h' => h')
  split
  · rw [e]; exact wpAny_bind (wpAny_pure (wpAny_pure (by exact fin)))
  · rw [e]; exact wpAny_tryCatch (wpAny_bind (wpAny_pure (wpAny_pure (by exact fin))))
theorem mv_check_obj {M : Model} {rest : List Value} {Q : Unit → Shared → Prop} (X : K.In s.heap) (I : InstAt s.heap x ox C od) (hm : mroIn K C (.type "object") = some true) (ha : argsOk "object.__ne__" ⟨.ref x :: rest, []⟩) (hq : Q () s) :
    wpAny M A (checkBuiltinCall "object.__ne__" ⟨.ref x :: rest, []⟩) Q E s := by
  simp only [checkBuiltinCall, F.cmpKind_ne, F.cmpSplit_ne]
  refine wpAny_bind ?_
  have L1 := looks_mroIn (M := M) X hm
  unfold isInstance
  refine wpAny_bind (I.type.here ?_)
  refine L1.here ?_
  cases hsig : Manifest.signature? "object.__ne__" with
  | none => wp_step; exact wpAny_pure hq
  | some sig =>
    simp only [argsOk, hsig] at ha
    have h2 : Bind.checkArgs "object.__ne__" sig ⟨.ref x :: rest, []⟩ = pure () := ha
    show wpAny M A (Bind.checkArgs "object.__ne__" sig ⟨.ref x :: rest, []⟩) Q E _
    rw [h2]; exact wpAny_pure hq
theorem mv_ne_K {Q : Value → Shared → Prop} (hu : A.units + 1 < cLine) (hF : Fr h₀ L s.heap m) (X₀ : K.In h₀) (I : InstAt s.heap x ox C od) (hb : Looks (model prog w) s.heap (typeOf b) tb) (hn : notFirst K C tb = true) (hne : neIn K C = true)
    (hs : findIn K (.ref C) "__eq__" = some (some (.ref f))) (hf : isFn K (.ref f) = true)
    (h : wpAny (model prog w) A.in1 (call (.ref f) [.ref x, b]) (fun v s' => ∃ r, v = .bool r ∧ Q (.bool (!r)) s') E s) : wpAny (model prog w) A (richCompare .NotEq (.ref x) b) Q E s := by
  have X := X₀.keeps hF.keep
  unfold neIn at hne
  rw [Bool.and_eq_true, beq_iff_eq, beq_iff_eq] at hne
  obtain ⟨hn1, hn2⟩ := hne
  have inner : wpAny (model prog w) A.in1 (Builtin.«object.__ne__» ⟨[.ref x, b], []⟩) (fun r s' => ∃ v, r = .done (.ret v) ∧ ∃ q, v = .bool q ∧ Q v s') E s := by
    unfold Builtin.«object.__ne__»
    repeat (first
      | with_reducible refine wpAny_cRoomFor hu ?_
      | (refine wpAny_bind (m := callSpecialIfBound? (.ref x) (Str.ofString "__eq__") [b])
          (ifBound_K X I hs hf (wpAny_mono h (fun r s' hr => by
            obtain ⟨q, rfl, hq⟩ := hr
            repeat (first | exact ⟨_, rfl, _, rfl, hq⟩ | exact wpAny_pure ⟨_, rfl, _, rfl, hq⟩ | exact wpAny_truthy_bool ⟨_, rfl, _, rfl, hq⟩ | (refine wpAny_bind (m := truthy (.bool _)) (wpAny_truthy_bool ?_)) | wp_step)) fun _ _ e => e)))
      | wp_step)
  have one : wpAny (model prog w) A (tryCompare (.ref x) "__ne__" b) (fun r s' => ∃ v, r = some v ∧ Q v s') E s := by
    unfold tryCompare
    refine wpAny_bind (mv_ifBoundB X I hn1 (wpAny_call (codeAny_call_builtin PySem.F.cmp_object.ne.plain PySem.F.cmpEntry_ne (mv_check_obj X I hn2 (PySem.F.cmpArgs_ne _ _) (wpAny_mono inner (fun r s' hr => ?_) fun _ _ e => e)))))
    obtain ⟨v, rfl, q, rfl, hq⟩ := hr
    first | exact wpAny_pure ⟨_, rfl, hq⟩ | exact wpAny_pure (wpAny_pure ⟨_, rfl, hq⟩) | exact ⟨_, rfl, wpAny_pure ⟨_, rfl, hq⟩⟩
  unfold richCompare
  simp only [oneThing_ref]
  refine wpAny_holding (wpAny_bind (wpAny_cRoomFor (Nat.lt_of_succ_lt hu) ?_))
  rw [cmpInfo_NotEq]
  dsimp only
  refine wpAny_bind (I.type.here (wpAny_bind (hb.here ?_)))
  split
  · rename_i q
    have e : subIn K tb (.ref C) = some false := by
      rcases Bool.or_eq_true_iff.mp hn with e | e
      · rw [beq_iff_eq.mp e] at q; simp at q
      · exact beq_iff_eq.mp e
    refine wpAny_bind ((looks_subIn X e).here ?_)
    simp only [Bool.false_eq_true, if_false]
    refine wpAny_bind (wpAny_mono one (fun r s' z => ?_) fun _ _ e => e)
    obtain ⟨v, rfl, hq⟩ := z
    exact wpAny_pure hq
  · refine wpAny_bind (wpAny_pure ?_)
    simp only [Bool.false_eq_true, if_false]
    refine wpAny_bind (wpAny_mono one (fun r s' z => ?_) fun _ _ e => e)
    obtain ⟨v, rfl, hq⟩ := z
    exact wpAny_pure hq
end
end PySem.W
namespace Mv
open PySem PySem.Spec L2
open PyProof.Rows hiding St
def rNeI (K : KC) (C : Addr) (sp : Sp) : R2 := fun x y H Q => ∃ a b C' dx dy fs gs, x = .ref a ∧ y = .ref b ∧ H a = some (.ins C dx fs) ∧ H b = some (.ins C' dy gs) ∧ PySem.W.notFirst K.K C (.ref C') = true ∧ sp [x, y] H (fun v H' => ∃ r, v = .bl r ∧ Q (.bl (!r)) H') E0
section
variable {X : Cx} {W : WT} {pos : Pos} {a b c : Expr} {ma mb mc : ME}
theorem op_neI {n : Nat} {C f : Addr} {fd : FuncData} {ps : List Str} {sp : Sp} (F : FnOk X.prog X.w X.K X.mg X.base CX0 n f fd ps sp) (M : Meth X.K C "__eq__" f) (hne : PySem.W.neIn X.K C = true) (hb : L2.Binds X.K fd ps []) (hr : Room (n + 1) X.A) : OpR X (compareOp .NotEq) (rNeI (kc X) C sp) := by
  intro pins s σ H x y v u Q I rx ry hq
  obtain ⟨p, q, C', dx, dy, fs, gs, rfl, rfl, hp, hq, hn, hs⟩ := hq
  cases rx
  cases ry
  show wpAny (model X.prog X.w) X.A (richCompare .NotEq (.ref p) (.ref q)) (EP X pins σ Q) X.xe s
  obtain ⟨mA, J, _⟩ := ins_get I.hok hp
  obtain ⟨mB, J', _⟩ := ins_get I.hok hq
  obtain ⟨od, J, _⟩ := J.look
  obtain ⟨od', J', _⟩ := J'.look
  obtain ⟨m, hF⟩ := I.fr
  refine PySem.W.mv_ne_K (tb := .ref C') (by have := hu65 hr; omega) hF I.ok.mod.kin J J'.type hn hne M.at_ M.fn ?_
  have hl := F.len _ _ _ _ hs
  have r2 : Vals [V.ref p, V.ref q] [Value.ref p, Value.ref q] := .cons rfl (.cons rfl .nil)
  refine wpAny_call (codeAny_mono (F.run X.A.in1 X.stack s H ⟨[.ref p, .ref q], []⟩ [.ref p, .ref q] [.ref p, .ref q] _ E0 hr.in1 I.env0.in1 (by
    have := hb s [.ref p, .ref q] I.kIn (by simpa using hl)
    simpa using this) r2 hs) fun r s' hq => ?_)
  cases r with
  | error e => exact (pass0 pins σ H s e s' I hq)
  | ok fl =>
    cases fl with
    | ret w =>
      obtain ⟨z, H', I', rz, r, ez, ex⟩ := I.after hq
      subst ez
      cases rz
      exact ⟨r, rfl, .bl (!r), H', I', rfl, ex⟩
    | next => exact False.elim hq
    | brk => exact False.elim hq
    | cont => exact False.elim hq
/-- what an own == gives, turned -/
def notR : R MV → R MV
  | .ok (.bl b) h => .ok (.bl (!b)) h
  | _ => .bad
def mNeB (gs : List (Nat × (List MV → MH → R MV))) (ds : List Nat) (ma mb : ME) : ME := fun env h => (ma env h).bind fun x h1 => (mb env h1).bind fun y h2 => match insOf h2 x, insOf h2 y with
  | some (c, _), some (d, _) => (match gs.lookup c with
    | some G => if d ∈ ds then notR (G [x, y] h2) else .bad
    | none => .bad)
  | _, _ => .bad
/-- the class number c has object's != -/
def NeC (K : KC) (c : Nat) : Prop := ∃ nm fl C, tab[c]? = some (nm, fl) ∧ K.mg nm = some (.ref C) ∧ PySem.W.neIn K.K C = true
theorem neI_core {c : Nat} {C : Addr} {nm : Str} {fl : List Str} {G : List MV → MH → R MV} {ds : List Nat} (q1 : tab[c]? = some (nm, fl)) (q2 : X.mg nm = some (.ref C)) (N : NotSub (kc X) c ds) {σ : St} {H : Hp} {Q : VK} :
    tE (kc X) W (mNeB [(c, G)] ds ma mb) σ H Q → tOp (rNeI (kc X) C (spM (kc X) 2 G)) (tE (kc X) W ma) (tE (kc X) W mb) σ H Q := by
  rintro ⟨φ, env, h, hr, er, o⟩

  refine tG_step hr er o fun φ1 H1 h1 x u k1 hr1 er1 t1 o1 => ?_
  refine tG_step hr1 er1 o1 fun φ2 H2 h2 y v k2 hr2 er2 t2 o2 => ?_
  cases e1 : insOf h2 x with
  | none => simp only [e1] at o2; exact o2.elim
  | some p =>
    cases e2 : insOf h2 y with
    | none => simp only [e1, e2] at o2; exact o2.elim
    | some p' =>
      obtain ⟨c', vs⟩ := p
      obtain ⟨d, ws⟩ := p'
      simp only [e1, e2] at o2
      by_cases hc : c' = c
      · subst hc
        have hl : List.lookup c' [(c', G)] = some G := by simp [List.lookup_cons]
        simp only [hl] at o2
        split at o2
        · rename_i hd
          obtain ⟨n, p, gs, rfl, rfl, ea, eh, ir, ts⟩ := ins_of hr2 (t1.keep k2) e1
          obtain ⟨n', p', gs', rfl, rfl, ea', eh', ir', ts'⟩ := ins_of hr2 t2 e2
          obtain ⟨nm1, fl1, C1, nm2, fl2, C2, g1, g2, g3, g4, g5⟩ := N d hd
          obtain ⟨dx, i1, i2⟩ := ir.cls q1 q2
          obtain ⟨dx1, i3, _⟩ := ir.cls g1 g2
          obtain ⟨dy, i4, _⟩ := ir'.cls g3 g4
          rw [i1] at i3
          cases i3
          refine ⟨p, p', C2, dx, dy, gs, gs', rfl, rfl, i1, i4, g5, rfl, φ2, [.ref n, .ref n'], h2, hr2, .cons (.ref ea) (.cons (.ref ea') .nil), ?_⟩
          cases e3 : G [.ref n, .ref n'] h2 with
          | ok v h3 =>
            rw [e3] at o2
            cases v with
            | bl r =>
              intro φ3 H3 w k3 hr3 t3
              cases t3
              exact ⟨r, rfl, o2 φ3 H3 (.bl (!r)) k3 hr3 (.bl _)⟩
            | _ => exact o2.elim
          | exc x h3 => rw [e3] at o2; exact o2.elim
          | bad => rw [e3] at o2; exact o2.elim
        · exact o2.elim
      · have hl : List.lookup c' [(c, G)] = none := by
          rw [List.lookup_cons]
          have : (c' == c) = false := by simpa using hc
          rw [this]; rfl
        simp only [hl] at o2
        exact o2.elim
theorem se_neI {k j c : Nat} {G : List MV → MH → R MV} {ds : List Nat} (D : MDef X.prog X.w X.K X.mg X.base k c "__eq__" 2 G) (N : NotSub (kc X) c ds) (Ne : NeC (kc X) c) (hr : Room j X.A) (ha : PE X a (tE (kc X) W ma)) (hb : PE X b (tE (kc X) W mb)) (hj : k + 1 ≤ j := by decide)
    (hm : behindInMarks .NotEq b = false := by first | exact nobehind _ (by decide) (by decide) | rfl) : PE X (.Compare a [.NotEq] [b] pos) (tE (kc X) W (mNeB [(c, G)] ds ma mb)) := by
  obtain ⟨nm, fl, C, f, fd, ps, q1, q2, q3, q4, q5, q6, q7⟩ := D.ex
  obtain ⟨nm3, fl3, C3, n1, n2, n3⟩ := Ne
  rw [q1] at n1
  cases n1
  have n2' : X.mg nm = some (.ref C3) := n2
  rw [q2] at n2'
  cases n2'
  exact (pe_cmpR (op_neI q5 q4 n3 q6 (hr.mono hj)) ha hb hm).imp fun σ H Q o => neI_core q1 q2 N o
theorem st_neI {k j c : Nat} {G : List MV → MH → R MV} {ds : List Nat} (D : MDef X.prog X.w X.K X.mg X.base k c "__eq__" 2 G) (N : NotSub (kc X) c ds) (Ne : NeC (kc X) c) (hr : Room j X.A) (ha : PE X a (tE (kc X) W ma)) (hb : PE X b (tE (kc X) W mb)) (hj : k + 1 ≤ j := by decide)
    (hm : behindInMarks .NotEq b = false := by first | exact nobehind _ (by decide) (by decide) | rfl) : PT X (.Compare a [.NotEq] [b] pos) (tT (kc X) W (mAsB (mNeB [(c, G)] ds ma mb))) := by
  obtain ⟨nm, fl, C, f, fd, ps, q1, q2, q3, q4, q5, q6, q7⟩ := D.ex
  obtain ⟨nm3, fl3, C3, n1, n2, n3⟩ := Ne
  rw [q1] at n1
  cases n1
  have n2' : X.mg nm = some (.ref C3) := n2
  rw [q2] at n2'
  cases n2'
  exact (pt_cmpR (op_neI q5 q4 n3 q6 (hr.mono hj)) ha hb hm).imp fun σ H Q o => tTest_of (fun _ _ _ q => neI_core q1 q2 N q) o
end
end Mv

set_option maxHeartbeats 4000000
/-! Mv17: sorted(xs, key=f): f's calls keep what an invariant says -/
namespace PySem.W
open PySem PySem.Calls PyProof.Rows
section
variable {prog : Program} {w : World} {A : Around} {E : Value → Shared → Prop} {s : Shared} {a kS : Addr} {b : Bool} {vs : List Value} {e1 : Nat} {P : PySem.Fin → Shared → Prop}
/-- the turns of the key's calls, then the end -/
theorem mv_key_rest {f : Value} (J : Nat → Array Value → Shared → Prop) (hJ : J 0 #[] s) (hZ : vs.length ≤ sizeLine)
    (hat : ∀ i kA s', J i kA s' → kA.size = i ∧ ∃ e, s'.heap.get? kS = some (seqObj "list" kA e))
    (turn : ∀ i v kA s', vs[i]? = some v → J i kA s' → wpAny (model prog w) A (call f [v]) (fun u s'' => (∃ e, s''.heap.get? kS = some (seqObj "list" kA e)) ∧ J (i + 1) (kA.push u) { s'' with heap := s''.heap.update kS (Obj.mapSeq (·.push u)) }) (fun _ _ => False) s')
    (done : ∀ kA s', J vs.length kA s' → wpAny (model prog w) A (ksk_end a b vs.toArray e1 (.ref kS) kA) P E s') : wpAny (model prog w) A (ksk_rest a f b vs.toArray e1 (.ref kS)) P E s := by
  unfold ksk_rest
  refine wpAny_bind (wpAny_rule ?_)
  first
    | rw [List.forIn_toArray]
    | (rw [← Array.forIn_toList]; simp only [List.toList_toArray])
    | rw [← Array.forIn_toList]
  refine wpAny_bind (ksk_fold (fun i s' => ∃ kA, J i kA s') vs 0 s ⟨#[], hJ⟩ ?step ?fin)
  case step =>
    rintro j x s' hx ⟨kA, hj⟩
    simp only [Nat.zero_add] at hj ⊢
    have hlt : j < vs.length := (List.getElem?_eq_some_iff.mp hx).1
    obtain ⟨hz, _⟩ := hat j kA s' hj
    refine wpAny_bind (wpAny_attempt (wpAny_mono (turn j x kA s' hx hj) (fun v s'' he => ?_) fun _ _ hF => hF.elim))
    obtain ⟨⟨e, nk⟩, hJ'⟩ := he
    try dsimp only
    refine wpAny_bind (listUpdate_at nk rfl ?_ (by omega) (by rw [Array.size_push]; omega))
    exact wpAny_pure ⟨rfl, _, hJ'⟩
  case fin =>
    rintro s' ⟨kA, hj⟩
    simp only [Nat.zero_add] at hj
    obtain ⟨_, e, nk⟩ := hat _ kA s' hj
    try dsimp only
    refine wpAny_bind (listItems_at nk rfl ?_)
    exact done kA s' hj
theorem mv_key_tree {f : Value} {n : Nat} (ho : s.heap.get? a = some (seqObj "list" vs.toArray n)) (hZ : vs.length ≤ sizeLine)
    (h : ∀ (h3 : Heap) (kS e1 : Nat), KeepsBut a s.heap h3 → s.heap.objs.size ≤ kS → kS ≠ a → h3.get? kS = some (seqObj "list" #[] 0) → h3.get? a = some (seqObj "list" #[] e1) → wpAny (model prog w) A (ksk_rest a f b vs.toArray e1 (.ref kS)) P E { s with heap := h3 }) :
    wpAny (model prog w) A (ksk_tree a f b) P E s := by
  have ha : a < s.heap.objs.size := Heap.lt_size ho
  obtain ⟨e1, ho1⟩ : ∃ e1, (s.heap.update a (Obj.mapSeq fun _ => (#[] : Array Value))).get? a = some (seqObj "list" #[] e1) := ⟨_, get?_update_seq ho fun _ => #[]⟩
  have hkS : ((s.heap.update a (Obj.mapSeq fun _ => (#[] : Array Value))).push (seqObj "tuple" vs.toArray 0)).objs.size = s.heap.objs.size + 1 := by rw [size_push', Heap.size_update]
  unfold ksk_tree
  refine wpAny_bind (listItems_at ho rfl ?_)
  refine wpAny_bind (listUpdate_at ho rfl ?_ (by rw [List.size_toArray]; exact hZ) (Nat.zero_le _))
  refine wpAny_bind (seqEpoch_at ho1 rfl ?_)
  refine wpAny_bind (wpAny_newTuple ?_ (by show vs.length ≤ _; exact hZ))
  refine wpAny_bind (wpAny_newList ?_ (Nat.zero_le _))
  refine wpAny_holding ?_
  exact h _ _ e1 (fun b o hb q => sortingHeap_old (vs := vs) hb q) (by rw [hkS]; exact Nat.le_succ _) (by rw [hkS]; exact Nat.ne_of_gt (Nat.lt_succ_of_lt ha)) (Heap.get?_push_size _ rfl) (Heap.get?_push_of_some _ (Heap.get?_push_of_some _ ho1))
end
end PySem.W

set_option maxHeartbeats 4000000
/-! Mv18: lambdas: made, called; sorted(xs, key=lambda x: ..) -/
namespace Mv
open PySem PySem.Spec L2 LamX NdefX
open PyProof.Rows hiding St

/-! ### like heaps -/
mutual
def MV.sm : MV → MV → Bool
  | .non, .non => true
  | .bl a, .bl b => a == b
  | .int a, .int b => a == b
  | .str a, .str b => decide (a = b)
  | .ref a, .ref b => a == b
  | .tup xs, .tup ys => MV.sms xs ys
  | _, _ => false
def MV.sms : List MV → List MV → Bool
  | [], [] => true
  | x :: xs, y :: ys => MV.sm x y && MV.sms xs ys
  | _, _ => false
end
mutual
theorem MV.sm_eq : ∀ {x y : MV}, MV.sm x y = true → x = y
  | .non, .non, _ => rfl
  | .bl a, .bl b, h => by simp [MV.sm] at h; rw [h]
  | .int a, .int b, h => by simp [MV.sm] at h; rw [h]
  | .str a, .str b, h => by simp [MV.sm] at h; rw [h]
  | .ref a, .ref b, h => by simp [MV.sm] at h; rw [h]
  | .tup xs, .tup ys, h => by
    simp only [MV.sm] at h
    rw [MV.sms_eq h]
  | .non, .bl _, h => by simp [MV.sm] at h
  | .non, .int _, h => by simp [MV.sm] at h
  | .non, .str _, h => by simp [MV.sm] at h
  | .non, .ref _, h => by simp [MV.sm] at h
  | .non, .tup _, h => by simp [MV.sm] at h
  | .bl _, .non, h => by simp [MV.sm] at h
  | .bl _, .int _, h => by simp [MV.sm] at h
  | .bl _, .str _, h => by simp [MV.sm] at h
  | .bl _, .ref _, h => by simp [MV.sm] at h
  | .bl _, .tup _, h => by simp [MV.sm] at h
  | .int _, .non, h => by simp [MV.sm] at h
  | .int _, .bl _, h => by simp [MV.sm] at h
  | .int _, .str _, h => by simp [MV.sm] at h
  | .int _, .ref _, h => by simp [MV.sm] at h
  | .int _, .tup _, h => by simp [MV.sm] at h
  | .str _, .non, h => by simp [MV.sm] at h
  | .str _, .bl _, h => by simp [MV.sm] at h
  | .str _, .int _, h => by simp [MV.sm] at h
  | .str _, .ref _, h => by simp [MV.sm] at h
  | .str _, .tup _, h => by simp [MV.sm] at h
  | .ref _, .non, h => by simp [MV.sm] at h
  | .ref _, .bl _, h => by simp [MV.sm] at h
  | .ref _, .int _, h => by simp [MV.sm] at h
  | .ref _, .str _, h => by simp [MV.sm] at h
  | .ref _, .tup _, h => by simp [MV.sm] at h
  | .tup _, .non, h => by simp [MV.sm] at h
  | .tup _, .bl _, h => by simp [MV.sm] at h
  | .tup _, .int _, h => by simp [MV.sm] at h
  | .tup _, .str _, h => by simp [MV.sm] at h
  | .tup _, .ref _, h => by simp [MV.sm] at h
theorem MV.sms_eq : ∀ {x y : List MV}, MV.sms x y = true → x = y
  | [], [], _ => rfl
  | x :: xs, y :: ys, h => by
    simp only [MV.sms, Bool.and_eq_true] at h
    rw [MV.sm_eq h.1, MV.sms_eq h.2]
  | [], _ :: _, h => by simp [MV.sms] at h
  | _ :: _, [], h => by simp [MV.sms] at h
end
mutual
theorem MV.sm_refl : ∀ (x : MV), MV.sm x x = true
  | .non => by simp [MV.sm]
  | .bl _ => by simp [MV.sm]
  | .int _ => by simp [MV.sm]
  | .str _ => by simp [MV.sm]
  | .ref _ => by simp [MV.sm]
  | .tup xs => by simp only [MV.sm]; exact MV.sms_refl xs
theorem MV.sms_refl : ∀ (xs : List MV), MV.sms xs xs = true
  | [] => by simp [MV.sms]
  | x :: xs => by simp only [MV.sms, MV.sm_refl x, MV.sms_refl xs, Bool.and_self]
end
def MO.sm : MO → MO → Bool
  | .lst a, .lst b => MV.sms a b
  | .frz a, .frz b => MV.sms a b
  | .dct a, .dct b => MV.sms (a.map (·.1)) (b.map (·.1)) && MV.sms (a.map (·.2)) (b.map (·.2))
  | .fdc a, .fdc b => MV.sms (a.map (·.1)) (b.map (·.1)) && MV.sms (a.map (·.2)) (b.map (·.2))
  | .ins c a, .ins d b => c == d && MV.sms a b
  | _, _ => false
theorem pairs_eq {α β : Type} : ∀ {a b : List (α × β)}, a.map (·.1) = b.map (·.1) → a.map (·.2) = b.map (·.2) → a = b
  | [], [], _, _ => rfl
  | [], _ :: _, h, _ => by simp at h
  | _ :: _, [], h, _ => by simp at h
  | (x, y) :: a, (z, w) :: b, h1, h2 => by
    simp only [List.map_cons, List.cons.injEq] at h1 h2
    rw [h1.1, h2.1, pairs_eq h1.2 h2.2]
theorem MO.sm_eq {x y : MO} (h : MO.sm x y = true) : x = y := by
  cases x <;> cases y <;> simp only [MO.sm, Bool.and_eq_true, Bool.false_eq_true] at h
  · rw [MV.sms_eq h]
  · rw [MV.sms_eq h]
  · rw [pairs_eq (MV.sms_eq h.1) (MV.sms_eq h.2)]
  · rw [pairs_eq (MV.sms_eq h.1) (MV.sms_eq h.2)]
  · rw [MV.sms_eq h.2, beq_iff_eq.mp h.1]
theorem MO.sm_refl (x : MO) : MO.sm x x = true := by
  cases x <;> simp [MO.sm, MV.sms_refl]
def MH.sm : MH → MH → Bool
  | [], [] => true
  | x :: xs, y :: ys => MO.sm x y && MH.sm xs ys
  | _, _ => false
theorem MH.sm_eq : ∀ {x y : MH}, MH.sm x y = true → x = y
  | [], [], _ => rfl
  | x :: xs, y :: ys, h => by
    simp only [MH.sm, Bool.and_eq_true] at h
    rw [MO.sm_eq h.1, MH.sm_eq h.2]
  | [], _ :: _, h => by simp [MH.sm] at h
  | _ :: _, [], h => by simp [MH.sm] at h
theorem MH.sm_refl : ∀ (x : MH), MH.sm x x = true
  | [] => rfl
  | x :: xs => by simp only [MH.sm, MO.sm_refl x, MH.sm_refl xs, Bool.and_self]

/-! ### a lambda is made -/
abbrev LF (q : Str) (params : Arguments) (scope : Scope) (cl : List (Str × Addr)) (c : Addr) : NF := ⟨"<lambda>", q, params, [], scope, cl, c⟩
abbrev lamO (q : Str) (params : Arguments) (body : Expr) (scope : Scope) (cl : List (Str × Addr)) (pm : Value) (c : Addr) (ctv : Value) : Obj := PySem.W.kla_obj "<lambda>" q params body scope cl pm c ctv
section
variable {X : Cx} {pins : List (Addr × Obj)} {σ : St} {H : Hp} {s : Shared}
theorem lam_made {T : List (Addr × Str)} {c P : Addr} {params : Arguments} {body : Expr} {scope : Scope} {pos : Pos} {E : Value → Shared → Prop} {Q : Value → Shared → Prop} (I : Inv X pins σ H s) (TB : TabB X.base X.mg c P) (hcode : X.env.code = .ref c)
    (hm : (P, X.env.qual ++ "<lambda>") ∈ T) (hu : ∀ p ∈ T, p.1 = P → p.2 = X.env.qual ++ "<lambda>") (hT : Tabs T H) (hdef : defaultsOf params X.env = ([], [])) (hfree : ∀ y ∈ scope.names, y.2 = .free → ∃ c, X.env.cells.lookup y.1 = some c)
    (h : ∀ (f c' : Addr) (pm ctv : Value) (H1 : Hp) (s' : Shared), Inv X pins σ H1 s' → (∀ φ, Keep φ H φ H1) → (∀ b o, H b = some o → (∀ ps, o ≠ .tbl ps) → H1 b = some o) → Tabs T H1 →
      s'.heap.get? f = some (lamO (X.env.qual ++ "<lambda>") params body scope (cloFrom X.env.cells scope.names []) pm c' ctv) → FpOk X pins H1 f → H1 c' = some (CodeO c' (X.env.qual ++ "<lambda>")) → Q (.ref f) s') :
    wpAny (model X.prog X.w) X.A (eval (.Lambda params body scope pos) X.env) Q E s := by
  obtain ⟨ps, hP, ht, ha⟩ := hT _ hm
  have hP' : s.heap.get? P = some { cls := .none, data := .fields ps } := I.hok P _ hP
  refine PySem.W.kla_eval hdef ?_
  cases hc : codeAmong pos ps.toList with
  | none =>
    refine PySem.W.kla_makeFunction (mg := X.mg) (c := c) (P := P) (ps := ps) (closure_ok hfree) I.ok.glob (I.mod.glob.keeps I.bk) hcode (TB.code.keeps I.bk) hP' ht hc TB.gP (TB.bm.keeps I.bk) fun c' ctv h' tk hx hge hlt hrec htb => ?_
    obtain ⟨c2, oc, vs, t, e2, hoc, hd, hv⟩ := hrec
    cases e2
    have nC : H c' = none := I.hok.fresh hge
    have nPc : P ≠ c' := ne_of_none hP nC
    let H1 := upd (upd H P (.tbl (ps ++ #[rawInt pos.line, rawInt pos.col, .ref c']))) c' (CodeO c' (X.env.qual ++ "<lambda>"))
    have I1 : Inv X pins σ H1 _ := inv_table (t' := tk) (more := #[rawInt pos.line, rawInt pos.col, .ref c']) (h' := h'.push (lamO (X.env.qual ++ "<lambda>") params body scope (cloFrom X.env.cells scope.names []) ((X.mg "__name__").getD .none) c' ctv)) I hP
      (fun b o hb e => Heap.get?_push_of_some _ (hx b o hb e)) (Heap.get?_push_of_some _ htb) hge ⟨oc, vs, t, Heap.get?_push_of_some _ hoc, hd, hv⟩
    have nt : ∀ b o, H b = some o → (∀ ps, o ≠ .tbl ps) → H1 b = some o := fun b o e n => by
      show upd (upd H P _) c' _ b = _
      rw [upd_ne (ne_of_none e nC), upd_ne (fun z => n ps (Option.some.inj (e.symm.trans (by rw [z]; exact hP))))]
      exact e
    have atP : H1 P = some (.tbl (ps ++ #[rawInt pos.line, rawInt pos.col, .ref c'])) := by
      show upd (upd H P _) c' _ P = _
      rw [upd_ne nPc, upd_same]
    have kp : ∀ φ, Keep φ H φ H1 := fun φ => by
      refine ⟨⟨[], by simp⟩, fun b o e => ?_, fun b o e n _ => nt b o e n, fun b xs e => nt b _ e (fun _ z => by cases z), fun b o u e => nt b _ e (fun _ z => by cases z)⟩
      by_cases hb : b = P
      · rw [hb]; exact ⟨_, atP⟩
      · exact ⟨o, by show upd (upd H P _) c' _ b = _; rw [upd_ne (ne_of_none e nC), upd_ne hb]; exact e⟩
    have eL : (ps ++ #[rawInt pos.line, rawInt pos.col, .ref c']).toList = ps.toList ++ [rawInt pos.line, rawInt pos.col, .ref c'] := by simp
    have hsz : s.heap.objs.size ≤ h'.objs.size := Nat.le_trans hge (Nat.le_of_lt hlt)
    refine h h'.objs.size c' ((X.mg "__name__").getD .none) ctv H1 _ I1 kp nt (fun p hp => ?_) (Heap.get?_push_size _ rfl) (I.fpOk hsz ?_) upd_same
    · by_cases hb : p.1 = P
      · rw [hu p hp hb, hb]
        refine ⟨_, atP, by rw [eL]; exact PySem.TriplesOk_snoc _ _ _ _ ht, fun p' cv hcv => ?_⟩
        rw [eL] at hcv
        rcases among_app _ ht hcv with z | z
        · obtain ⟨c0, e1, e2⟩ := ha p' cv z
          exact ⟨c0, e1, nt _ _ e2 codeO_ne⟩
        · exact ⟨c', z, upd_same⟩
      · obtain ⟨ps', a1, a2, a3⟩ := hT p hp
        refine ⟨ps', by show upd (upd H P _) c' _ p.1 = _; rw [upd_ne (ne_of_none a1 nC), upd_ne hb]; exact a1, a2, fun p' cv hcv => ?_⟩
        obtain ⟨c0, e1, e2⟩ := a3 p' cv hcv
        exact ⟨c0, e1, nt _ _ e2 codeO_ne⟩
    · have n1 : h'.objs.size ≠ c' := Nat.ne_of_gt hlt
      have n2 : h'.objs.size ≠ P := Nat.ne_of_gt (Nat.lt_of_lt_of_le (Heap.lt_size hP') hsz)
      show upd (upd H P _) c' _ _ = _
      rw [upd_ne n1, upd_ne n2]
      exact I.hok.fresh hsz
  | some cv =>
    obtain ⟨c', e, hco⟩ := ha pos cv hc
    subst e
    refine PySem.W.kla_makeFunctionHit (mg := X.mg) (c := c) (P := P) (ps := ps) (closure_ok hfree) I.ok.glob (I.mod.glob.keeps I.bk) hcode (TB.code.keeps I.bk) hP' ht hc (TB.bm.keeps I.bk) fun ctv h' tk hx hsz => ?_
    have I1 : Inv X pins σ H { s with heap := h'.push (lamO (X.env.qual ++ "<lambda>") params body scope (cloFrom X.env.cells scope.names []) ((X.mg "__name__").getD .none) c' ctv), toks := tk } := I.kept fun b o e => Heap.get?_push_of_some _ (hx b o e)
    exact h h'.objs.size c' ((X.mg "__name__").getD .none) ctv H _ I1 (fun _ => Keep.refl) (fun _ _ e _ => e) hT (Heap.get?_push_size _ rfl) (I.fpOk hsz (I.hok.fresh hsz)) hco
end
theorem HR.tabled {K : KC} {φ : List Addr} {H H1 : Hp} {h : MH} (r : HR K φ H h) (k : Keep φ H φ H1) (nt : ∀ b o, H b = some o → (∀ ps, o ≠ .tbl ps) → H1 b = some o) (t : TabsH K H1) : HR K φ H1 h :=
  ⟨r.len, r.nd, fun n a o e1 e2 => by
    have w := r.at_ n a o e1 e2
    obtain ⟨u, eu, n1, _⟩ := w.exN
    exact w.keepH k ((nt a u eu n1).trans eu.symm), t⟩
/-- a lambda is called -/
theorem lam_run {P : Program} {w : World} {K : PySem.W.Frag} {mg : Str → Option Value} {base : Heap} {N ps fr : List Str} {q : Str} {params : Arguments} {body : Expr} {scope : Scope} {cl : List (Str × Addr)} {c' f : Addr} {pm ctv : Value} {k : Nat} {A : Around} {outer : List Env} {s : Shared} {H : Hp}
    {us : List Value} {vs : List V} {ws : List (Option V)} {Q : VK} {E : XK} {t : TE} (S : NScope N ps fr scope) (hr : Room (k + 1) A) (e0 : Env0 P w K mg base A outer s H) (hf : s.heap.get? f = some (lamO q params body scope cl pm c' ctv)) (hc : H c' = some (CodeO c' q))
    (C : CellsAt cl fr ws s.heap H) (r : Vals vs us) (hl : vs.length = ps.length) (hb : bindArgs (PySem.W.kla_fn "<lambda>" q params body scope cl pm (.ref c') ctv) ⟨us, []⟩ = pure (ps.zip us))
    (ht : Room k (A.deeper (envF (LF q params scope cl c') f s.heap.objs.size)) → PE (ncx CX0 P w K mg base N (LF q params scope cl c') f A outer s H E).nox body t) (hq : t (startF N vs ws) H Q) : codeAny (model P w) A (.call (.ref f) ⟨us, []⟩) (CR CX0 outer P w H s Q E) s := by
  have lim : s.heap.NoLimit := e0.mod.nolimit.keeps fun b o e => (e0.bs b o e).1
  refine PySem.W.kla_callFunE hr.depth hf rfl S.co S.gen rfl (codeO_at e0.hok hc) ?_
  rw [hb]
  refine wpAny_pure (wpAny_newFunctionEnv S.nocell (fun ⟨n, _⟩ hy => S.par n (List.of_mem_zip hy).1) (fun h₁ hns hsb => ⟨lim.fresh _ hsb, ?_⟩) S.kind)
  have kp : ∀ b o, s.heap.get? b = some o → h₁.get? b = some o := fun b o e => hsb.extBut b o (Nat.ne_of_lt (Heap.lt_size e)) (Heap.get?_push_of_some _ e)
  have I : Inv (ncx CX0 P w K mg base N (LF q params scope cl c') f A outer s H E) [] (startF N vs ws) H { s with heap := h₁, toks := s.toks + (ps.zip us).length } := inv_startN S hr.hd e0 hl r C hns kp
  refine PySem.W.kla_codeExpr (wpAny_mono ((ht (hr.deeper _)).nox.run [] _ _ H Q I hq) (fun v s' hq => ?_) fun e s' hq => hq)
  obtain ⟨w', H', J', rv, q⟩ := hq
  exact ⟨w', H', J'.os, J'.bare, J'.base, J'.hok, rv, q⟩
/-- an untracked list of ours is tracked from now on -/
theorem inv_track {X : Cx} {pins : List (Addr × Obj)} {σ : St} {H : Hp} {s : Shared} {h' : Heap} {t' : Nat} {ch : List Addr} {T : Addr} {ob : HO} (I : Inv X pins σ H s) (k : ∀ b o, b ∉ ch → s.heap.get? b = some o → h'.get? b = some o) (hf : ∀ b ∈ ch, FpOk X pins H b) (hT : T ∈ ch)
    (new : ObjOk X.prog X.w (upd H T ob) h' T ob) : Inv X pins σ (upd H T ob) { s with heap := h', toks := t' } := by
  have hn : H T = none := (hf T hT).1
  have nit : ∀ b u, H b = some u → b ∉ ch := fun b u e z => by
    have q := (hf b z).1
    rw [q] at e; cases e
  refine I.step (g' := s.gens) (d' := s.drawn) (ch := ch) (fun b hb => ⟨(hf b hb).2.2.2.1, (hf b hb).2.1, (hf b hb).2.2.2.2.1, (hf b hb).2.2.2.2.2⟩) (fun b o _ _ hc e _ => k b o hc e) (fun b o _ _ hc e _ => ⟨o.slots, k b o hc e⟩)
    (fun b o hb e n => ?_) (fun b o hc e => ⟨o, k b o hc e⟩) (fun b xs e => ?_) (fun b o u e => ?_) (fun b ps e => ⟨#[], ?_⟩) (fun m hm => ?_) (fun b u e => ?_) I.bare
  · rw [upd_ne fun z => hb (by rw [z]; exact hT)]; exact n
  · rw [upd_ne (ne_of_none e hn)]; exact e
  · rw [upd_ne (ne_of_none e hn)]; exact e
  · rw [upd_ne (ne_of_none e hn), e]; simp
  · obtain ⟨o, es, ep, ho, r⟩ := hm
    exact ⟨o, es, ep, k _ o (fun z => (hf _ z).2.1 rfl) ho, r⟩
  · by_cases hb : b = T
    · subst hb
      rw [upd_same] at e
      cases e
      exact new
    · rw [upd_ne hb] at e
      refine (I.hok b u e).stay (fun c v hc q => k c v ?_ q) (fun c q => by rw [upd_ne (ne_of_none q hn)]; exact q) fun c xs q => by rw [upd_ne (ne_of_none q hn)]; exact q
      rcases hc with z | z
      · rw [z]; exact nit b u e
      · exact nit c _ z
end Mv

set_option maxHeartbeats 4000000
/-! Mv19: sorted(xs, key=lambda x: ..) -/
namespace Mv
open PySem PySem.Spec L2 LamX NdefX
open PyProof.Rows hiding St

/-- the lambda's names: its parameter, what it captures -/
def lamEnv (env : MEnv) (js : List Nat) (n : Nat) (y : MV) : MEnv := some y :: (js.map (fun j => (env[j]?).join) ++ List.replicate (n - 1 - js.length) none)
def keyAt (mb : ME) (env : MV → MEnv) (h : MH) (y : MV) : Option PyData := match mb (env y) h with
  | .ok k h' => if MH.sm h' h = true then dataOf 12 h k else none
  | _ => none
def mSortK (ma : ME) (js : List Nat) (n : Nat) (mb : ME) : ME := fun env h => (ma env h).bind fun x h1 => match listOf h1 x with
  | some ys => match allSome (ys.map (keyAt mb (lamEnv env js n) h1)) with
    | some ks => if ys.length ≤ cap ∧ alikeB ks = true ∧ sortB ks = true then .ok (.ref h1.length) (h1 ++ [.lst (sortD ys ks)]) else .bad
    | none => .bad
  | none => .bad
def keyM (mb : ME) (env : MV → MEnv) (h : MH) (y : MV) : MV := match mb (env y) h with
  | .ok k _ => k
  | _ => .non
theorem keyAt_some {mb : ME} {env : MV → MEnv} {h : MH} {y : MV} {d : PyData} (e : keyAt mb env h y = some d) : mb (env y) h = .ok (keyM mb env h y) h ∧ dataOf 12 h (keyM mb env h y) = some d := by
  unfold keyAt at e
  unfold keyM
  split at e
  · rename_i k h' q
    split at e
    · rename_i q2
      have := MH.sm_eq q2
      subst this
      rw [q]
      exact ⟨rfl, e⟩
    · cases e
  · cases e
theorem keys_of {mb : ME} {env : MV → MEnv} {h : MH} : ∀ {ys : List MV} {ks : List PyData}, allSome (ys.map (keyAt mb env h)) = some ks → allSome ((ys.map (keyM mb env h)).map (dataOf 12 h)) = some ks
  | [], _, e => e
  | y :: ys, ks, e => by
    simp only [List.map_cons] at e ⊢
    cases e1 : keyAt mb env h y with
    | none => simp only [e1, allSome] at e; cases e
    | some d =>
      simp only [e1, allSome] at e
      rw [(keyAt_some e1).2]
      cases e2 : allSome (ys.map (keyAt mb env h)) with
      | none => simp only [e2] at e; cases e
      | some dr =>
        simp only [e2] at e
        cases e
        simp only [allSome, keys_of e2]
theorem keyed {mb : ME} {env : MV → MEnv} {h : MH} : ∀ {ys : List MV} {ks : List PyData} {y : MV}, allSome (ys.map (keyAt mb env h)) = some ks → y ∈ ys → mb (env y) h = .ok (keyM mb env h y) h := fun {ys ks y} e hy => by
  obtain ⟨i, hi⟩ := List.mem_iff_getElem?.mp hy
  have hl := allSome_len e
  rw [List.length_map] at hl
  have hk : i < ks.length := by rw [hl]; exact (List.getElem?_eq_some_iff.mp hi).1
  have := allSome_get e (List.getElem?_eq_getElem hk)
  rw [List.getElem?_map, hi] at this
  exact (keyAt_some (Option.some.inj this)).1
theorem ER.lam {K : KC} {φ : List Addr} {H : Hp} {σ : St} {env : MEnv} {N : List Str} {js : List Nat} {y : MV} {v : V} (r : ER K φ H σ env) (t : IsV K φ H y v) (hn : 1 + js.length ≤ N.length) : ER K φ H (startF N [v] (js.map (slotAt σ))) (lamEnv env js N.length y) := by
  unfold startF lamEnv
  refine ⟨by simp, fun i x e => ?_⟩
  cases i with
  | zero =>
    simp only [List.getElem?_cons_zero, Option.some.injEq] at e
    subst e
    exact ⟨v, by simp, t⟩
  | succ i =>
    simp only [List.getElem?_cons_succ] at e
    simp only [List.map_cons, List.map_nil, List.cons_append, List.nil_append, List.getElem?_cons_succ, List.length_singleton]
    by_cases hi : i < js.length
    · rw [List.getElem?_append_left (by simpa using hi), List.getElem?_map] at e
      rw [List.getElem?_append_left (by simpa using hi), List.getElem?_map]
      cases ej : js[i]? with
      | none => rw [ej] at e; cases e
      | some j =>
        rw [ej] at e
        have e : (env[j]?).join = some x := Option.some.inj e
        cases q : env[j]? with
        | none => rw [q] at e; cases e
        | some o =>
          rw [q] at e
          have e : o = some x := e
          subst e
          obtain ⟨w, h1, h2⟩ := r.at_ j x q
          exact ⟨w, by simp [slotAt_of h1], h2⟩
    · rw [List.getElem?_append_right (by simpa using hi), List.getElem?_replicate] at e
      split at e <;> cases e
theorem keep_same {φ φ' : List Addr} {H H' : Hp} (k : Keep φ H φ' H') (h : φ'.length = φ.length) : φ' = φ := by
  obtain ⟨m, e, _⟩ := k.ext
  subst e
  rw [List.length_append] at h
  have : m = [] := List.length_eq_zero_iff.mp (by omega)
  rw [this, List.append_nil]
section
variable {X : Cx}
theorem each_readsK {s : Shared} {σ : St} {H : Hp} {pins : List (Addr × Obj)} (I : Inv X pins σ H s) : ∀ {vs : List V} {us : List Value} {ds : List PyData}, Vals vs us → DpAll X.K H vs ds → PySem.W.EachIs (fun (u : Value) (k : PyData) => ∃ as, Reads s.heap u k as) us ds
  | _, _, _, .nil, .nil => .nil
  | _, _, _, .cons r t, .cons d ds => .cons (Dp.reads I _ _ _ d r) (each_readsK I t ds)
theorem isVs_snoc {K : KC} {φ : List Addr} {H : Hp} {xs : List MV} {vs : List V} {x : MV} {v : V} (t : IsVs K φ H xs vs) (t1 : IsV K φ H x v) : IsVs K φ H (xs ++ [x]) (vs ++ [v]) := t.append (.cons t1 .nil)
theorem take_snoc {α : Type} {l : List α} {i : Nat} {x : α} (e : l[i]? = some x) : l.take (i + 1) = l.take i ++ [x] := by rw [List.take_add_one, e]; simp
theorem defaults_none {q : Str} : (q == ("__debug__" : Str)) = (q == ("__debug__" : Str)) := rfl
variable {W : WT} {a : Expr} {ma mb : ME}
theorem se_sortK {p pos lpos kpos : Pos} {params : Arguments} {body : Expr} {scope : Scope} {N fr : List Str} {js : List Nat} {pn : Str} {k : Nat} {c P : Addr}
    (hc : X.calm = true) (hg : Gl X "sorted") (hm : X.mg "sorted" = none) (ha : PE X a (tE (kc X) W ma))
    (TB : TabB X.base X.mg c P) (hcode : X.env.code = .ref c) (hmT : (P, X.env.qual ++ "<lambda>") ∈ tabsK X.K) (hu : ∀ p ∈ tabsK X.K, p.1 = P → p.2 = X.env.qual ++ "<lambda>")
    (S : NScope N [pn] fr scope) (hB : ndefB X.env.scope scope fr = true) (hjs : js.map (fun j => X.N[j]?) = fr.map some)
    (hr : Room (k + 3) X.A)
    (hbody : ∀ (A : Around) (outer : List Env) (s : Shared) (H : Hp) (E : XK) (f c' : Addr) (cl : List (Str × Addr)), Room k (A.deeper (envF (LF (X.env.qual ++ "<lambda>") params scope cl c') f s.heap.objs.size)) → PE (ncx CX0 X.prog X.w X.K X.mg X.base N (LF (X.env.qual ++ "<lambda>") params scope cl c') f A outer s H E).nox body (tE (kc X) W0 mb))
    (hbind : ∀ (q : Str) (cl : List (Str × Addr)) (pm cv ctv u : Value), bindArgs (PySem.W.kla_fn "<lambda>" q params body scope cl pm cv ctv) ⟨[u], []⟩ = pure [(pn, u)] := by intro _ _ _ _ _ _; rfl)
    (hdef : defaultsOf params X.env = ([], []) := by rfl) (hv : bootBuiltins "sorted" = some (.builtin "sorted") := by rfl)
    (hs : starEach [a] X.env = (false, eval a X.env) :: starEach [] X.env := by rfl)
    (he : backTo pos (starEach [a] X.env) = (false, eval a X.env) :: backTo pos (starEach [] X.env) := by rfl) (hpl : (backTo pos (starEach [a] X.env)).any (·.1) = false := by rfl)
    (hks : (backToKw pos (keywordEach [⟨some "key", .Lambda params body scope lpos, kpos⟩] X.env)).filterMap (·.1) = [Str.ofString "key"] := by rfl)
    (hall : (backToKw pos (keywordEach [⟨some "key", .Lambda params body scope lpos, kpos⟩] X.env)).all (·.1.isSome) = true := by rfl)
    (hnone : (backToKw pos (keywordEach [⟨some "key", .Lambda params body scope lpos, kpos⟩] X.env)).any (·.1.isNone) = false := by rfl) :
    PE X (.Call (.Name "sorted" p) [a] [⟨some "key", .Lambda params body scope lpos, kpos⟩] pos) (tE (kc X) W (mSortK ma js N.length mb)) := by
  have hu64 := hu65 hr
  refine ⟨fun pins s σ H Q I hh => ?_⟩
  obtain ⟨φ, env, h, hr0, er, o⟩ := hh
  refine wpAny_Call_Name_kw (ld_blt I hg hm hv ?_)
  have t0 : tA (kc X) W (mCons ma mNil) σ H fun us H1 => ∃ φ1 h1 x u, us = [u] ∧ Keep φ H φ1 H1 ∧ HR (kc X) φ1 H1 h1 ∧ IsV (kc X) φ1 H1 x u ∧ ma env h = .ok x h1 := by
    refine ⟨φ, env, h, hr0, er, ?_⟩
    cases e : ma env h with
    | ok x h1 =>
      simp only [mCons, mNil, e, R.bind_ok]
      intro φ1 H1 us k1 hr1 t1
      obtain ⟨u, rfl, t2⟩ := one_of t1
      exact ⟨φ1, h1, x, u, rfl, k1, hr1, t2, rfl⟩
    | exc x h1 =>
      simp only [mSortK, e, R.bind_exc] at o
      simp only [mCons, e, R.bind_exc]
      exact o
    | bad =>
      simp only [mSortK, e, R.bind_bad] at o
      exact o.elim
  refine PyProof.Rows.callWith_kw (thn ((sa_cons ha sa_nil hs).run pos pins s σ H _ I t0) fun us s1 ⟨vs0, H1, I1, r1, φ1, h1, x, u0, ev, k1, hr1, t1, e1⟩ => ?_) he hpl hall hnone
  subst ev
  obtain ⟨u0', rfl, ru0⟩ := r1.one
  unfold mSortK at o
  simp only [e1, R.bind_ok] at o
  cases q1 : listOf h1 x with
  | none => simp only [q1] at o; exact o.elim
  | some ys =>
  simp only [q1] at o
  cases q2 : allSome (ys.map (keyAt mb (lamEnv env js N.length) h1)) with
  | none => simp only [q2] at o; exact o.elim
  | some ks =>
  simp only [q2] at o
  by_cases hcond : ys.length ≤ cap ∧ alikeB ks = true ∧ sortB ks = true
  · rw [if_pos hcond] at o
    obtain ⟨c1, c2, c3⟩ := hcond
    have o1 := OkG.mono o k1
    have er1 := er.keep k1
    obtain ⟨l, vs, rfl, hs1, ts⟩ := list_of hr1 t1 q1
    obtain rfl : u0' = Value.ref l := ru0
    rw [hks]
    show wpAny _ _ (evalAll ((do let v ← eval (.Lambda params body scope lpos) X.env; standAt pos; pure v) :: [])) _ _ s1
    have hfree : ∀ y ∈ scope.names, y.2 = .free → ∃ c, X.env.cells.lookup y.1 = some c := fun y hy e => (ndef_free hB y hy e).elim (fun z => I.ok.has _ (.inl z)) fun z => I.ok.has _ (.inr z)
    refine wpAny_evalAll_cons (wpAny_bind (lam_made I1 TB hcode hmT hu hr1.tb hdef hfree fun f c' pm ctv H2 s2 I2 kp2 nt2 T2 hf ff hco => wpAny_bind (wpAny_standAt (wpAny_pure (wpAny_evalAll_nil ?_)))))
    -- the list, the sort
    have kp2 := kp2 φ1
    have hr2 : HR (kc X) φ1 H2 h1 := hr1.tabled kp2 nt2 T2
    have er2 := er1.keep kp2
    have ts2 := ts.keep kp2
    have hs2 : SqL X.K H2 l vs := by
      rcases hs1 with (q | ⟨o, q⟩) | q
      · exact .inl (.inl (nt2 _ _ q fun _ z => by cases z))
      · exact .inl (.inr ⟨o, nt2 _ _ q fun _ z => by cases z⟩)
      · exact .inr q
    obtain ⟨its, rv, hl, hz⟩ := I2.list hs2
    have hitl : its.length = ys.length := by rw [← rv.length, ts2.length]
    have hZ : its.length ≤ sizeLine := by rw [hitl]; exact cap_line c1
    have hkl : ks.length = ys.length := by
      have := allSome_len q2
      simpa using this
    show wpAny _ _ (call (.builtin "sorted") [.ref l] [(Str.ofString "key", .ref f)]) _ _ s2
    refine PySem.W.sorted_of_sort hl.isList hZ (PyProof.Rows.ksk_s1 _ _) (fun _ => PyProof.Rows.ksk_l1 _ _) fun E' => ?_
    rw [PyProof.Rows.ksk_t1]
    refine PySem.W.mv_key_tree (s := { s2 with heap := PySem.W.copyHeap s2.heap its }) (PySem.W.copyHeap_at s2.heap its) hZ fun h3 kS e1 kb hkS ne g1 g2 => ?_
    have hcs : s2.heap.objs.size + 1 < kS := Nat.lt_of_lt_of_le (Heap.lt_size (PySem.W.copyHeap_at s2.heap its)) hkS
    have old : ∀ b o, s2.heap.get? b = some o → h3.get? b = some o := fun b o e => kb b o (Nat.ne_of_lt (Nat.lt_succ_of_lt (Heap.lt_size e))) (PySem.W.copyHeap_old e)
    have I3 : Inv X pins σ H2 { s2 with heap := h3 } := I2.kept (t' := s2.toks) old
    have hfl : f < s2.heap.objs.size := Heap.lt_size hf
    let fo : Obj := lamO (X.env.qual ++ "<lambda>") params body scope (cloFrom X.env.cells scope.names []) pm c' ctv
    have pinOk : ∀ (p : Addr × Obj), p ∈ (f, fo) :: pins → (∀ v, p.2.data ≠ .cell v) → True := fun _ _ _ => trivial
    have I4 : Inv X ((f, fo) :: pins) σ H2 { s2 with heap := h3 } := I3.pins_of fun p hp => by
      rcases List.mem_cons.mp hp with e | e
      · subst e
        exact ⟨old _ _ hf, ff.1, ff.2.1, ff.2.2.1, fun v z => by cases z⟩
      · exact I3.pin p (List.mem_append_right _ e)
    have fpA : FpOk X ((f, fo) :: pins) H2 (s2.heap.objs.size + 1) := by
      obtain ⟨a1, a2, a3, a4, a5, a6⟩ := I2.fpOk (Nat.le_succ _) (I2.hok.fresh (Nat.le_succ _))
      refine ⟨a1, a2, a3, a4, a5, fun p hp => ?_⟩
      rcases List.mem_append.mp hp with z | z
      · exact a6 p (List.mem_append_left _ z)
      · rcases List.mem_cons.mp z with e | e
        · subst e; exact Nat.ne_of_lt (Nat.lt_succ_of_lt hfl)
        · exact a6 p (List.mem_append_right _ e)
    have fpK : FpOk X ((f, fo) :: pins) H2 kS := by
      have hle : s2.heap.objs.size ≤ kS := Nat.le_of_lt (Nat.lt_of_succ_lt hcs)
      obtain ⟨a1, a2, a3, a4, a5, a6⟩ := I2.fpOk hle (I2.hok.fresh hle)
      refine ⟨a1, a2, a3, a4, a5, fun p hp => ?_⟩
      rcases List.mem_append.mp hp with z | z
      · exact a6 p (List.mem_append_left _ z)
      · rcases List.mem_cons.mp z with e | e
        · subst e; exact Nat.ne_of_lt (Nat.lt_of_lt_of_le hfl hle)
        · exact a6 p (List.mem_append_right _ e)
    have nc : c' ∉ φ1 := fun z => by
      obtain ⟨n, en⟩ := List.mem_iff_getElem?.mp z
      have hn : n < h1.length := by rw [← hr2.len]; exact (List.getElem?_eq_some_iff.mp en).1
      obtain ⟨u, eu, _, n2⟩ := (hr2.at_ n c' _ en (List.getElem?_eq_getElem hn)).exN
      rw [hco] at eu
      exact n2 _ (Option.some.inj eu).symm
    have cp := Caps.made (X := X) (scope := scope) (fr := fr) (js := js) I.ok (ndef_free hB) (ndef_fr hB) hjs
    let kms := ys.map (keyM mb (lamEnv env js N.length) h1)
    refine PySem.W.mv_key_rest (s := { s2 with heap := h3 }) (fun i kA s' => ∃ H' kvs e, Inv X ((f, fo) :: pins) σ H' s' ∧ H' (s2.heap.objs.size + 1) = none ∧ H' kS = none ∧ s'.heap.get? kS = some (PyProof.Rows.seqObj "list" kA e) ∧ s'.heap.get? (s2.heap.objs.size + 1) = some (PyProof.Rows.seqObj "list" #[] e1) ∧ kA.size = i ∧
      Keep φ1 H2 φ1 H' ∧ HR (kc X) φ1 H' h1 ∧ Vals kvs kA.toList ∧ IsVs (kc X) φ1 H' (kms.take i) kvs) ⟨H2, [], 0, I4, fpA.1, fpK.1, g1, g2, rfl, Keep.refl, hr2, .nil, by simp; exact .nil⟩ hZ (fun i kA s' ⟨H', kvs, e, _, _, _, ge, _, sz, _⟩ => ⟨sz, e, ge⟩) ?turn ?done
    case turn =>
      rintro i v kA s' hv ⟨H', kvs, e, I', n1, n2, gk, ga, sz, kpp, hr', rvk, tk⟩
      have hi : i < its.length := (List.getElem?_eq_some_iff.mp hv).1
      have hy : ∃ y, ys[i]? = some y := ⟨_, List.getElem?_eq_getElem (by omega)⟩
      obtain ⟨y, hy⟩ := hy
      obtain ⟨vi, hvi, ty⟩ := (ts2.keep kpp).get hy
      obtain ⟨v2, hv2, rvi⟩ := rv.get hvi
      rw [hv] at hv2
      cases hv2
      have ekey := keyed q2 (List.mem_of_getElem? hy)
      have ekm : kms[i]? = some (keyM mb (lamEnv env js N.length) h1 y) := by
        show (ys.map _)[i]? = _
        rw [List.getElem?_map, hy]; rfl
      let pins2 : List (Addr × Obj) := (kS, PyProof.Rows.seqObj "list" kA e) :: (s2.heap.objs.size + 1, PyProof.Rows.seqObj "list" #[] e1) :: (f, fo) :: pins
      have I5 : Inv X pins2 σ H' s' := I'.pins_of fun p hp => by
        rcases List.mem_cons.mp hp with z | z
        · subst z
          exact ⟨gk, n2, fpK.2.1, fpK.2.2.1, fun v z => by cases z⟩
        · rcases List.mem_cons.mp z with z | z
          · subst z
            exact ⟨ga, n1, fpA.2.1, fpA.2.2.1, fun v z => by cases z⟩
          · exact I'.pin p (List.mem_append_right _ z)
      have hf' : s'.heap.get? f = some fo := (I'.pin (f, fo) (List.mem_append_right _ (List.mem_cons_self ..))).1
      have hc'' : H' c' = some (CodeO c' (X.env.qual ++ "<lambda>")) := kpp.out _ _ hco codeO_ne nc
      have hnl : 1 + js.length ≤ N.length := by
        have q := congrArg List.length S.pre
        have q3 := congrArg List.length hjs
        rw [List.length_map, List.length_map] at q3
        rw [List.length_take, List.length_append] at q
        simp at q
        omega
      have tq : tE (kc X) W0 mb (startF N [vi] (js.map (slotAt σ))) H' fun z H'' => Keep φ1 H' φ1 H'' ∧ HR (kc X) φ1 H'' h1 ∧ IsV (kc X) φ1 H'' (keyM mb (lamEnv env js N.length) h1 y) z := by
        refine ⟨φ1, lamEnv env js N.length y, h1, hr', (er2.keep kpp).lam ty hnl, ?_⟩
        rw [ekey]
        intro φ' H'' b kk hrr tt
        have := keep_same kk (by rw [hrr.len, hr'.len])
        subst this
        exact ⟨kk, hrr, tt⟩
      refine wpAny_call (codeAny_mono (lam_run (E := E0) (us := [v]) (vs := [vi]) S (hr.in1.in1) I5.env0.in1.in1 hf' hc'' (cells_of I5 cp) (.cons rvi .nil) rfl (hbind _ _ _ _ _ _) (fun hr9 => hbody _ _ _ _ _ _ _ _ hr9) tq) fun r s'' hq => ?_)
      cases r with
      | error e => exact (show False from hq).elim
      | ok fl =>
        cases fl with
        | next => exact False.elim hq
        | brk => exact False.elim hq
        | cont => exact False.elim hq
        | ret u =>
          obtain ⟨z, H'', I6, rz, kk, hrr, tz⟩ := I5.after hq
          have pk := I6.pin (kS, PyProof.Rows.seqObj "list" kA e) (List.mem_append_right _ (List.mem_cons_self ..))
          have pa := I6.pin (s2.heap.objs.size + 1, PyProof.Rows.seqObj "list" #[] e1) (List.mem_append_right _ (List.mem_cons_of_mem _ (List.mem_cons_self ..)))
          refine ⟨⟨e, pk.1⟩, ?_⟩
          obtain ⟨c2, hc2⟩ : ∃ c2, (s''.heap.update kS (Obj.mapSeq (·.push u))).get? kS = some (PyProof.Rows.seqObj "list" (kA.push u) c2) := ⟨_, PyProof.Rows.get?_update_seq pk.1 (·.push u)⟩
          have sb := Heap.SameBut.update s''.heap kS (Obj.mapSeq (·.push u))
          have I7 : Inv X ((f, fo) :: pins) σ H'' s'' := I6.pins_of fun p hp => I6.pin p (List.mem_append_right _ (List.mem_cons_of_mem _ (List.mem_cons_of_mem _ hp)))
          have I8 : Inv X ((f, fo) :: pins) σ H'' { s'' with heap := s''.heap.update kS (Obj.mapSeq (·.push u)) } := I7.turnedL (t' := s''.toks) (ch := [kS]) (fun b o hb e => (sb.2 b (fun z => hb (by simp [z]))).trans e) fun b hb => by
            have : b = kS := by simpa using hb
            subst this
            exact ⟨pk.2.1, fpK.2⟩
          refine ⟨H'', kvs ++ [z], c2, I8, pa.2.1, pk.2.1, hc2, (sb.2 _ (Ne.symm ne)).trans pa.1, by rw [Array.size_push, sz], kpp.trans kk, hrr, ?_, ?_⟩
          · rw [Array.toList_push]
            exact Vals.append rvk (.cons rz .nil)
          · rw [take_snoc ekm]
            exact isVs_snoc (tk.keep kk) tz
    case done =>
      rintro kA s' ⟨H', kvs, e, I', n1, n2, gk, ga, sz, kpp, hr', rvk, tk⟩
      have hkms : kms.length = its.length := by
        show (ys.map _).length = _
        rw [List.length_map, hitl]
      rw [List.take_of_length_le (by omega)] at tk
      obtain ⟨hd, hdp⟩ := data_alls hr' tk (keys_of q2)
      have hk' := each_readsK I' rvk hd
      obtain ⟨G, gy, gn⟩ := restrict s'.heap fun b => decide (b ≠ kS)
      have kpG : PySem.W.KeepsBut (s2.heap.objs.size + 1) G s'.heap := fun b o _ q => by
        by_cases hb : b = kS
        · rw [gn b (by simp [hb])] at q; cases q
        · rw [gy b (by simp [hb])] at q; exact q
      refine PySem.W.keyH_end (κ := PySem.W.dataKind s'.heap ks) (h₁ := G) kpG (gn kS (by simp)) gk ga ne (PySem.W.SortsAt.data (s := s') hk' (alikeB_ok c2) (sortB_ok c3) fun d hd => ?_) sz hZ fun h4 tk4 cc kb4 n4 => ⟨rfl, ?_⟩
      · have := hdp d hd
        show X.A.units + 1 + 1 + d.depth < cLine
        omega
      · have kd : (vs.zip ks).map (·.2) = ks := zip_snd (by rw [hkl, ts2.length])
        have ko : PySem.W.KeyedOut false ((vs.zip ks).map (·.2)) its (PySem.W.sortVals (PySem.W.dataKind s'.heap ks) false kA.toList its) := by
          rw [kd]
          exact ⟨s'.heap, kA.toList, alikeB_ok c2, rfl, hk'⟩
        have eo := PySem.W.keyedOut_each (fun b : V × PyData => b.2) ko (each_of_vals rv (by rw [hkl, ts2.length]))
        have rv' := vals_of_each eo
        have fin : Inv X ((f, fo) :: pins) σ (upd H' (s2.heap.objs.size + 1) (.lst (((vs.zip ks).mergeSort (PySem.W.dataLe false (·.2))).map (·.1)))) { s' with heap := h4, toks := tk4 } := by
          refine inv_track (ch := [s2.heap.objs.size + 1, kS]) I' (fun b o hb e => ?_) (fun b hb => ?_) (by simp) ?_
          · have hb1 : b ≠ s2.heap.objs.size + 1 := fun z => hb (by simp [z])
            have hb2 : b ≠ kS := fun z => hb (by simp [z])
            exact kb4 b o hb1 ((gy b (by simp [hb2])).trans e)
          · rcases List.mem_cons.mp hb with z | z
            · rw [z]; exact ⟨n1, fpA.2⟩
            · have : b = kS := by simpa using z
              rw [this]; exact ⟨n2, fpK.2⟩
          · refine ⟨?_, _, cc, rv', n4⟩
            rw [List.length_map, List.length_mergeSort, List.length_zip, hkl, ts2.length, Nat.min_self]
            exact cap_line c1
        refine ⟨.ref (s2.heap.objs.size + 1), _, fin.pins_of (fun p hp => fin.pin p (List.mem_append_right _ (List.mem_cons_of_mem _ hp))), rfl, ?_⟩
        exact lay_ok hr' (sortD_ok (ts2.keep kpp)) (by rw [sortD_len hkl]; exact c1) n1 (OkG.mono (OkG.mono o1 kp2) kpp)
  · rw [if_neg hcond] at o
    exact o.elim
end
end Mv

set_option maxHeartbeats 4000000
/-! Mv20: defs that hold lambdas; the end of a law with tables. -/
namespace Mv
open PySem PySem.Spec L2 LamX
open PyProof.Rows hiding St

abbrev lamQ (x : Str) : Str := (x ++ ".<locals>.") ++ "<lambda>"
/-- the code objects, their tables -/
def csK (K : PySem.W.Frag) : List (Addr × Addr) := lamDefs.filterMap fun x => PySem.W.tabIn K x
/-- the tables stand apart, no table is in K, each def with a lambda has one -/
def lamsOk (K : PySem.W.Frag) : Bool := decide (((csK K).map (·.2)).Nodup) && (csK K).all (fun p => PySem.W.codeHdIn K p.1 p.2 && (K.lookup p.2).isNone)
/-- the def x, at f, may make lambdas: its code object is at c, its table at P -/
structure LamAt (K : PySem.W.Frag) (mg : Str → Option Value) (base : Heap) (x : Str) (c P : Addr) : Prop where
  TB : TabB base mg c P
  hm : (P, lamQ x) ∈ tabsK K
  hu : ∀ p ∈ tabsK K, p.1 = P → p.2 = lamQ x
structure LamOk (K : PySem.W.Frag) (mg : Str → Option Value) (base : Heap) (x : Str) (fd : FuncData) : Prop where
  ex : ∃ c P, fd.code = .ref c ∧ LamAt K mg base x c P
theorem tabsK_mem {K : PySem.W.Frag} {p : Addr × Str} (h : p ∈ tabsK K) : ∃ x ∈ lamDefs, ∃ c, PySem.W.tabIn K x = some (c, p.1) ∧ p.2 = lamQ x := by
  unfold tabsK at h
  obtain ⟨x, hx, e⟩ := List.mem_filterMap.mp h
  cases q : PySem.W.tabIn K x with
  | none => rw [q] at e; cases e
  | some r =>
    rw [q] at e
    have e : (r.2, (x ++ ".<locals>.") ++ "<lambda>") = p := Option.some.inj e
    subst e
    exact ⟨x, hx, r.1, q, rfl⟩
theorem nodup_tab {K : PySem.W.Frag} : ∀ (l : List Str), ((l.filterMap fun x => PySem.W.tabIn K x).map (·.2)).Nodup → ∀ x ∈ l, ∀ y ∈ l, ∀ c d P, PySem.W.tabIn K x = some (c, P) → PySem.W.tabIn K y = some (d, P) → x = y
  | [], _, x, hx, _, _, _, _, _, _, _ => by cases hx
  | z :: l, hn, x, hx, y, hy, c, d, P, ex, ey => by
    have mem : ∀ y c P, y ∈ l → PySem.W.tabIn K y = some (c, P) → P ∈ (l.filterMap fun x => PySem.W.tabIn K x).map (·.2) := fun y c P hy ey => List.mem_map.mpr ⟨(c, P), List.mem_filterMap.mpr ⟨y, hy, ey⟩, rfl⟩
    have sub : ((l.filterMap fun x => PySem.W.tabIn K x).map (·.2)).Nodup := by
      cases q : PySem.W.tabIn K z with
      | none => rw [List.filterMap_cons_none q] at hn; exact hn
      | some r => rw [List.filterMap_cons_some q, List.map_cons] at hn; exact (List.nodup_cons.mp hn).2
    rcases List.mem_cons.mp hx with e1 | e1
    · rcases List.mem_cons.mp hy with e2 | e2
      · rw [e1, e2]
      · subst e1
        rw [List.filterMap_cons_some ex, List.map_cons] at hn
        exact absurd (mem y d P e2 ey) (List.nodup_cons.mp hn).1
    · rcases List.mem_cons.mp hy with e2 | e2
      · subst e2
        rw [List.filterMap_cons_some ey, List.map_cons] at hn
        exact absurd (mem x c P e1 ex) (List.nodup_cons.mp hn).1
      · exact nodup_tab l sub x e1 y e2 c d P ex ey
theorem lamAt_mk {K : PySem.W.Frag} {mg : Str → Option Value} {base : Heap} {x : Str} {c P : Addr} (z : lamsOk K = true) (hx : x ∈ lamDefs) (e : PySem.W.tabIn K x = some (c, P)) (TB : ∀ p ∈ csK K, TabB base mg p.1 p.2) : LamAt K mg base x c P := by
  unfold lamsOk at z
  rw [Bool.and_eq_true] at z
  have hn := of_decide_eq_true z.1
  refine ⟨TB (c, P) (List.mem_filterMap.mpr ⟨x, hx, e⟩), List.mem_filterMap.mpr ⟨x, hx, by rw [e]; rfl⟩, fun p hp ep => ?_⟩
  obtain ⟨y, hy, d, ey, e2⟩ := tabsK_mem hp
  rw [ep] at ey
  rw [e2, nodup_tab lamDefs hn y hy x hx d c P ey e]
/-- .. by what is known of the def -/
theorem lamOk_mk {K : PySem.W.Frag} {mg : Str → Option Value} {base : Heap} {x : Str} {f : Addr} {oc : Value} {od : Option Addr} {fd : FuncData} {sl : Array (Option Value)} {c P : Addr} (z : lamsOk K = true) (hx : x ∈ lamDefs) (a : PySem.W.nsIn K mainGlobals x = some (some (.ref f))) (l : K.lookup f = some ⟨oc, od, .func fd, sl⟩)
    (e : PySem.W.tabIn K x = some (c, P)) (TB : ∀ p ∈ csK K, TabB base mg p.1 p.2) : LamOk K mg base x fd := by
  refine ⟨c, P, ?_, lamAt_mk z hx e TB⟩
  unfold PySem.W.tabIn at e
  simp only [a, l] at e
  split at e
  · rename_i c2 hc
    split at e
    · split at e
      · cases e; exact hc
      · cases e
    · cases e
  · cases e
section
variable {P : Program} {w : World} {K : PySem.W.Frag} {mg : Str → Option Value} {base : Heap}
theorem def_okL {x qual : Str} {st : Stmt} {f : Addr} {fd : FuncData} {N ps : List Str} {k : Nat} {body : MS} (F : Fun K x qual st f fd) (L : LamOk K mg base x fd) (S : FnScope N ps (defScope st))
    (hbody : ∀ (c T : Addr), LamAt K mg base x c T → ∀ (A : Around) (outer : List Env) (s : Shared) (H : Hp) (E : XK), Room k (A.deeper (envOfC qual (defScope st) s.heap.objs.size f (.ref c))) →
      PSs (cxOf CX0 P w K mg base N qual (defScope st) f (.ref c) A outer s H E).nox (defBody st) (tS ⟨K, mg⟩ W0 body)) : FnOk P w K mg base CX0 (k + 1) f fd ps (spM ⟨K, mg⟩ ps.length (mDef ps.length N.length body)) := by
  obtain ⟨c, T, hcd, hl⟩ := L.ex
  have hb := hbody c T hl
  obtain ⟨oc, od, kV, doc, pm, an, cdv, ct, osl, e, lk, hcode⟩ := F.ex
  rw [e] at hcd
  have hcd : cdv = .ref c := hcd
  subst hcd
  rw [e] at lk ⊢
  refine fn_of lk hcode S (fun vs H Q E h => h.1) fun A outer s H vs Q E hr h => ⟨_, (hb A outer s H E hr).nox, ?_⟩
  obtain ⟨hl, φ, xs, h0, hr0, ts, o⟩ := h
  refine ⟨φ, _, h0, hr0, ER.start (N := N) ts hl, ?_⟩
  unfold mDef at o
  rw [if_pos (by rw [← ts.length]; exact hl)] at o
  cases q : body (xs.map some ++ List.replicate (N.length - ps.length) none) h0 with
  | nx e h' =>
    rw [q] at o
    exact fun φ' σ' H' k' hr' _ => o φ' H' .non k' hr' .non
  | rt v h' => rw [q] at o; exact fun φ' H' u k' hr' t => o φ' H' u k' hr' t
  | exc x e h' => rw [q] at o; exact fun φ' σ' H' k' hr' _ => o φ' H' k' hr'
  | bk e h' => rw [q] at o; exact o.elim
  | ct e h' => rw [q] at o; exact o.elim
  | bad => rw [q] at o; exact o.elim
end
/-- the end of a law whose defs hold lambdas: the tables are empty at first -/
theorem walk_ofLam {l : PySem.W.OpenLaw} {n k : Nat} {q : Program} {loose : List Str} {XP : (Str → Option Value) → Heap → Prop} {YP : World → Heap → Prop} {d : DefRec} {K : Params → PySem.W.Frag} {CX : World → CXT} {sp : World → Sp} {x : Str}
    (hn : l.most = some n) (hn2 : n ≤ sizeLine) (hdf : d.params.defaults = []) (hr : Room k callerA) (hY : ∀ (w : World) (h : Heap), YP w h → (K w.params).In h) (hz : ∀ w : World, lamsOk (K w.params) = true)
    (hq : ∀ w : World, (lamDefs.all fun y => (PySem.W.tabIn (K w.params) y).isNone || ((recsOf q).find? fun e => e.name == y).isSome) = true)
    (F : ∀ (w : World) (mg : Str → Option Value) (fa : Addr) (h : Heap), (K w.params).In h → h.Ns mainGlobals mg → mg d.name = some (.ref fa) →
      ∃ fd : FuncData, (∀ (s : Shared) (u : Value), BindsTo s fd ⟨[u], []⟩ [(x, u)]) ∧
        ∀ base : Heap, (K w.params).In base → base.Ns mainGlobals mg → (∀ p ∈ csK (K w.params), TabB base mg p.1 p.2) → FnOk l.prog w (K w.params) mg base (CX w) k fa fd [x] (sp w))
    (hsp : ∀ (w : World) (H : Hp) (a : Addr) (ns : List Int), ns.length ≤ n → (∀ z ∈ ns, Builtin.Int.intBits z ≤ 1048576) → Tabs (tabsK (K w.params)) H → SqL (K w.params) H a (ns.map V.int) → sp w [.ref a] H (fun v _ => v = .bl true) fun _ _ _ => False)
    (hCX : ∀ (w : World) (H : Hp) (s : Shared) (e : Value) (s' : Shared), CX w [] H s (fun _ _ _ => False) e s' → False) :
    PySem.W.WalkO q loose XP YP l.row.toRowW d [] (fun f vs => PySem.call f vs) := by
  refine Att.attach_callB hn hdf fun w s₀ s₁ mg mb fa o pm cd doc a vs ns G Y ho hd hcd hmg hobj hints hlen hbits hg => ?_
  have KX := hY w _ Y
  have hz := hz w
  unfold lamsOk at hz
  rw [Bool.and_eq_true] at hz
  have own : ∀ p ∈ csK (K w.params), PySem.W.CodeHd s₁.heap p.1 p.2 ∧ s₁.heap.get? p.2 = some { cls := .none, data := .fields #[] } := fun p hp => by
    obtain ⟨y, hy, e⟩ := List.mem_filterMap.mp hp
    have hq := List.all_eq_true.mp (hq w) y hy
    rw [e] at hq
    simp only [Option.isNone_some, Bool.false_or] at hq
    obtain ⟨dL, hL⟩ := Option.isSome_iff_exists.mp hq
    exact PySem.W.tab_of G.T KX hL e
  obtain ⟨fd, hb, hF⟩ := F w mg fa _ KX G.T.g hmg
  refine law_callTs KX G.T.g G.T.b G.T.builtins G.T.nolimit hg (fun p hp => (own p hp).2) (fun p hp => ?_) (fun p hp => (own p hp).1) G.T.bmain hobj hints (Nat.le_trans hlen hn2) hr hF hb (fun H hH hS => hsp w H a ns hlen hbits (fun p hp => ?_) hS) fun H e s' => hCX w H s₁ e s'
  · have := List.all_eq_true.mp hz.2 p hp
    rw [Bool.and_eq_true] at this
    exact Option.isNone_iff_eq_none.mp this.2
  · obtain ⟨y, hy, c, e, e2⟩ := tabsK_mem hp
    exact TabS.nil (hH (c, p.1) (List.mem_filterMap.mpr ⟨y, hy, e⟩))
end Mv

set_option maxHeartbeats 4000000
/-! Mv21: a whole number in a tuple of whole numbers. -/
namespace Mv
open PySem PySem.Spec L2
open PyProof.Rows hiding St
def fInT : MV → MV → MH → R MV := fun x y h => match x, y with
  | .int i, .tup xs => match asInts xs with
    | some ns => .ok (.bl (decide (i ∈ ns))) h
    | none => .bad
  | _, _ => .bad
theorem inV_ints (i : Int) : ∀ ns : List Int, inV (.int i) (ns.map V.int) = decide (i ∈ ns)
  | [] => rfl
  | n :: ns => by
    have e : inV (.int i) ((n :: ns).map V.int) = ((n == i) || inV (.int i) (ns.map V.int)) := rfl
    rw [e, inV_ints i ns]
    by_cases q : n = i
    · subst q; simp
    · have q2 : ¬ i = n := fun z => q z.symm
      simp [q, q2]
theorem os_inT {X : Cx} : OpF (kc X) (rIn X.K false) fInT := by
  intro Z φ H h x y u w Q hr t1 t2 o
  unfold fInT at o
  split at o
  · rename_i i xs
    split at o
    · rename_i ns e
      have e2 := asInts_eq e
      subst e2
      cases t1
      cases t2 with
      | @tup p vs _ hq ts =>
        have := ts.ints
        subst this
        refine ⟨p, _, rfl, .inr hq, rfl, ?_, ?_⟩
        · rw [List.all_map]
          exact List.all_eq_true.mpr fun _ _ => rfl
        · show Q (.bl (inV (.int i) (ns.map V.int))) H
          rw [inV_ints]
          exact OkG.ok_here o hr (.bl _)
    · exact o.elim
  · exact o.elim
section
variable {X : Cx} {W : WT} {pos : Pos} {a b c : Expr} {ma mb mc : ME}
theorem eqI_core {c : Nat} {C : Addr} {nm : Str} {fl : List Str} {G : List MV → MH → R MV} {ds : List Nat} (q1 : tab[c]? = some (nm, fl)) (q2 : X.mg nm = some (.ref C)) (N : NotSub (kc X) c ds) {σ : St} {H : Hp} {Q : VK} :
    tE (kc X) W (mEqB [(c, G)] ds ma mb) σ H Q → tOp (rEqI (kc X) 2 C (spM (kc X) 2 G)) (tE (kc X) W ma) (tE (kc X) W mb) σ H Q := by
  rintro ⟨φ, env, h, hr, er, o⟩
  refine tG_step hr er o fun φ1 H1 h1 x u k1 hr1 er1 t1 o1 => ?_
  refine tG_step hr1 er1 o1 fun φ2 H2 h2 y v k2 hr2 er2 t2 o2 => ?_
  cases e1 : insOf h2 x with
  | none => simp only [e1] at o2; exact o2.elim
  | some p =>
    cases e2 : insOf h2 y with
    | none => simp only [e1, e2] at o2; exact o2.elim
    | some p' =>
      obtain ⟨c', vs⟩ := p
      obtain ⟨d, ws⟩ := p'
      simp only [e1, e2] at o2
      by_cases hc : c' = c
      · subst hc
        have hl : List.lookup c' [(c', G)] = some G := by simp [List.lookup_cons]
        simp only [hl] at o2
        split at o2
        · rename_i hd
          obtain ⟨n, p, gs, rfl, rfl, ea, eh, ir, ts⟩ := ins_of hr2 (t1.keep k2) e1
          obtain ⟨n', p', gs', rfl, rfl, ea', eh', ir', ts'⟩ := ins_of hr2 t2 e2
          obtain ⟨nm1, fl1, C1, nm2, fl2, C2, g1, g2, g3, g4, g5⟩ := N d hd
          obtain ⟨dx, i1, i2⟩ := ir.cls q1 q2
          obtain ⟨dx1, i3, _⟩ := ir.cls g1 g2
          obtain ⟨dy, i4, _⟩ := ir'.cls g3 g4
          rw [i1] at i3
          cases i3
          refine ⟨p, p', C2, dx, dy, gs, gs', rfl, rfl, i1, i4, g5, rfl, φ2, [.ref n, .ref n'], h2, hr2, .cons (.ref ea) (.cons (.ref ea') .nil), ?_⟩
          cases e3 : G [.ref n, .ref n'] h2 with
          | ok v h3 =>
            rw [e3] at o2
            cases v with
            | bl r =>
              intro φ3 H3 w k3 hr3 t3
              cases t3
              exact ⟨⟨r, rfl⟩, o2 φ3 H3 (.bl r) k3 hr3 (.bl r)⟩
            | _ => exact o2.elim
          | exc x h3 => rw [e3] at o2; exact o2.elim
          | bad => rw [e3] at o2; exact o2.elim
        · exact o2.elim
      · have hl : List.lookup c' [(c, G)] = none := by
          rw [List.lookup_cons]
          have : (c' == c) = false := by simpa using hc
          rw [this]; rfl
        simp only [hl] at o2
        exact o2.elim
theorem st_eqI {k j c : Nat} {G : List MV → MH → R MV} {ds : List Nat} (D : MDef X.prog X.w X.K X.mg X.base k c "__eq__" 2 G) (N : NotSub (kc X) c ds) (hr : Room j X.A) (ha : PE X a (tE (kc X) W ma)) (hb : PE X b (tE (kc X) W mb)) (hj : k ≤ j := by decide)
    (hm : behindInMarks .Eq b = false := by first | exact nobehind _ (by decide) (by decide) | rfl) : PT X (.Compare a [.Eq] [b] pos) (tT (kc X) W (mAsB (mEqB [(c, G)] ds ma mb))) := by
  obtain ⟨nm, fl, C, f, fd, ps, q1, q2, q3, q4, q5, q6, q7⟩ := D.ex
  exact (pt_cmpR (op_eqI (np := 2) q5 q4 q6 (hr.mono hj)) ha hb hm).imp fun σ H Q o => tTest_of (fun _ _ _ q => eqI_core q1 q2 N q) o
end
end Mv
namespace Mv
open PySem PySem.Spec L2
open PyProof.Rows hiding St
/-! ### zip of two tuples -/
theorem walksZT {K : KC} {φ0 : List Addr} {H0 : Hp} {xs ys : List MV} {vs ws : List V} {a b : Addr} (ha : SqT K H0 a vs) (hb : SqT K H0 b ws) (ts : IsVs K φ0 H0 xs vs) (tt : IsVs K φ0 H0 ys ws) : WalksM K (RZ.ItzT K a b) (itZ (itT xs) (itT ys)) φ0 H0 := by
  constructor
  · intro φ H h i x k hr e
    unfold itZ at e
    cases q1 : itT xs i h with
    | item y =>
      cases q2 : itT ys i h with
      | item z =>
        simp only [q1, q2] at e
        cases e
        obtain ⟨v, e1, t⟩ := (ts.keep k).get (nx_item q1)
        obtain ⟨w, e2, t'⟩ := (tt.keep k).get (nx_item q2)
        refine ⟨⟨vs, ws, v, w, k.sqT ha, k.sqT hb, e1, e2⟩, fun u H' zz => ?_⟩
        obtain ⟨T, x', y', rfl, hT, rfl, z1, z2⟩ := zz
        have g1 := z1 vs (k.sqT ha)
        have g2 := z2 ws (k.sqT hb)
        rw [e1] at g1
        rw [e2] at g2
        cases g1
        cases g2
        exact ⟨Keep.new hT, hr.new hT, .tup (SqT.of upd_same) (.cons (t.keep (Keep.new hT)) (.cons (t'.keep (Keep.new hT)) .nil))⟩
      | stop => simp only [q1, q2] at e; cases e
      | bad => simp only [q1, q2] at e; cases e
    | stop => simp only [q1] at e; (try cases e) <;> (cases q2 : itT ys i h <;> simp only [q2] at e <;> cases e)
    | bad => simp only [q1] at e; (try cases e) <;> (cases q2 : itT ys i h <;> simp only [q2] at e <;> cases e)
  · intro φ H h i k hr e
    unfold itZ at e
    cases q1 : itT xs i h with
    | item y =>
      cases q2 : itT ys i h with
      | item z => simp only [q1, q2] at e; cases e
      | stop => exact ⟨vs, ws, k.sqT ha, k.sqT hb, .inr (by rw [tt.length]; exact nx_stop q2)⟩
      | bad => simp only [q1, q2] at e; cases e
    | stop => exact ⟨vs, ws, k.sqT ha, k.sqT hb, .inl (by rw [ts.length]; exact nx_stop q1)⟩
    | bad => simp only [q1] at e; (try cases e) <;> (cases q2 : itT ys i h <;> simp only [q2] at e <;> cases e)
def mZipV (r : MA) : MI := fun env h => (r env h).bind fun xs h1 => match xs with
  | [.ref n, .ref m] => match itemsOf h1 (.ref n), itemsOf h1 (.ref m) with
    | some _, some _ => .ok (itZ (itL n) (itL m)) h1
    | _, _ => .bad
  | [.tup xs, .tup ys] => .ok (itZ (itT xs) (itT ys)) h1
  | _ => .bad
section
variable {X : Cx} {W : WT} {pos : Pos} {a b c : Expr} {mr : MA}
theorem si_zipV {p tpos : Pos} {elts : List Expr} {kk : Nat} (hg : Gl X "zip") (hm : X.mg "zip" = none) (ha : PA X [a, b] (tA (kc X) W mr))
    (hs : starEach [a, b] X.env = (false, eval a X.env) :: starEach [b] X.env := by rfl) (hpl : (backTo pos (starEach [b] X.env)).any (·.1) = false := by rfl) :
    PI X (.Tuple elts kk tpos) (.Call (.Name "zip" p) [a, b] [] pos) (tI (kc X) W (mZipV mr)) := by
  refine (RZ.pi_zipA hg hm ha hs hpl).imp fun σ H R => ?_
  rintro ⟨φ, env, h, hr, er, o⟩
  refine tG_step hr er o fun φ1 H1 h1 xs us k1 hr1 er1 t1 o1 => ?_
  split at o1
  · rename_i n m
    obtain ⟨u, v, rfl, t, t'⟩ := two_of t1
    cases t with
    | @ref _ p ea =>
      cases t' with
      | @ref _ p' eb =>
        split at o1
        · rename_i xs ys q q'
          obtain ⟨vs, hs, ts⟩ := items_list hr1 ea q
          obtain ⟨ws, hs', ts'⟩ := items_list hr1 eb q'
          exact ⟨p, p', vs, ws, rfl, .inl ⟨hs, hs', OkG.ok_here o1 hr1 (walksZ ea eb)⟩⟩
        · exact o1.elim
  · rename_i xs ys
    obtain ⟨u, v, rfl, t, t'⟩ := two_of t1
    cases t with
    | @tup p vs _ hq ts =>
      cases t' with
      | @tup p' ws _ hq' ts' => exact ⟨p, p', vs, ws, rfl, .inr ⟨hq, hq', OkG.ok_here o1 hr1 (walksZT hq hq' ts ts')⟩⟩
  · exact o1.elim
end
end Mv

set_option maxHeartbeats 4000000
namespace Mv
noncomputable section
open PySem PySem.Spec L2
/-- is_integer(value, low, high); slots ['value', 'low', 'high'] -/
def m_is_integer : MS :=
  mRet (mAndV (mIsi .int (mVar 0)) (mAndV (mNotV (mIsi .bool (mVar 0))) (mChain fLe fLe (mVar 1) (mVar 0) (mVar 2))))
def F_is_integer : List MV → MH → R MV := mDef 3 3 (m_is_integer)
/-- is_share(value); slots ['value'] -/
def m_is_share (G_is_integer : List MV → MH → R MV) : MS :=
  mSeq (mIfS (mOrT (mNotT (mAsB (mIsi .tuple (mVar 0)))) (mAsB (mBin fNe (mCall fLen (mCons (mVar 0) (mNil))) (mC (.int 2))))) (mRet (mC (.bl false))) (mNext))
    (mRet (mAndV (mDo 3 G_is_integer (mCons (mBin fIx (mVar 0) (mC (.int 0))) (mCons (mC (.int 0)) (mCons (mC (.int 4)) (mNil))))) (mDo 3 G_is_integer (mCons (mBin fIx (mVar 0) (mC (.int 1))) (mCons (mC (.int 1)) (mCons (mC (.int 4)) (mNil)))))))
def F_is_share (G_is_integer : List MV → MH → R MV) : List MV → MH → R MV := mDef 1 1 (m_is_share G_is_integer)
/-- Promise.__init__(self, reach, base, share, copies); slots ['self', 'reach', 'base', 'share', 'copies'] -/
def m_Promise_init (G_is_integer : List MV → MH → R MV) (G_is_share : List MV → MH → R MV) : MS :=
  mSeq (mIfS (mNotT (mAsB (mDo 3 G_is_integer (mCons (mVar 1) (mCons (mC (.int 0)) (mCons (mC (.int 6)) (mNil))))))) (mBad) (mNext))
    (mSeq (mIfS (mNotT (mAsB (mDo 3 G_is_integer (mCons (mVar 2) (mCons (mC (.int 0)) (mCons (mC (.int 3)) (mNil))))))) (mBad) (mNext))
    (mSeq (mIfS (mOrT (mNotT (mAsB (mDo 1 G_is_share (mCons (mVar 3) (mNil))))) (mAsB (mBin fGt (mBin fAdd (mBin fAdd (mVar 1) (mVar 2)) (mBin fDiv (mBin fMul (mVar 1) (mBin fIx (mVar 3) (mC (.int 0)))) (mBin fIx (mVar 3) (mC (.int 1))))) (mC (.int 9))))) (mBad) (mNext))
    (mSeq (mIfS (mNotT (mAsB (mDo 3 G_is_integer (mCons (mVar 4) (mCons (mC (.int 1)) (mCons (mC (.int 2)) (mNil))))))) (mBad) (mNext))
    (mSeq (mStF [(0, 0)] (mVar 0) (mVar 1))
    (mSeq (mStF [(0, 1)] (mVar 0) (mVar 2))
    (mSeq (mStF [(0, 2)] (mVar 0) (mVar 3))
    (mStF [(0, 3)] (mVar 0) (mVar 4))))))))
def F_Promise_init (G_is_integer : List MV → MH → R MV) (G_is_share : List MV → MH → R MV) : List MV → MH → R MV := mDef 5 5 (m_Promise_init G_is_integer G_is_share)
/-- Promise.reach(self); slots ['self'] -/
def m_Promise_reach : MS :=
  mRet (mFld [(0, 0)] (mVar 0))
def F_Promise_reach : List MV → MH → R MV := mDef 1 1 (m_Promise_reach)
/-- Promise.base(self); slots ['self'] -/
def m_Promise_base : MS :=
  mRet (mFld [(0, 1)] (mVar 0))
def F_Promise_base : List MV → MH → R MV := mDef 1 1 (m_Promise_base)
/-- Promise.share(self); slots ['self'] -/
def m_Promise_share : MS :=
  mRet (mFld [(0, 2)] (mVar 0))
def F_Promise_share : List MV → MH → R MV := mDef 1 1 (m_Promise_share)
/-- Promise.copies(self); slots ['self'] -/
def m_Promise_copies : MS :=
  mRet (mFld [(0, 3)] (mVar 0))
def F_Promise_copies : List MV → MH → R MV := mDef 1 1 (m_Promise_copies)
/-- Promise.all_parts(self); slots ['self'] -/
def m_Promise_all_parts : MS :=
  mRet (mLst (mCons (mFld [(0, 0)] (mVar 0)) (mCons (mFld [(0, 1)] (mVar 0)) (mCons (mFld [(0, 2)] (mVar 0)) (mCons (mFld [(0, 3)] (mVar 0)) (mNil))))))
def F_Promise_all_parts : List MV → MH → R MV := mDef 1 1 (m_Promise_all_parts)
/-- Promise.__eq__(self, other); slots ['self', 'other'] -/
def m_Promise_eq (G_Promise_all_parts : List MV → MH → R MV) : MS :=
  mRet (mAndV (mIsC [(0, true)] (mVar 1)) (mBin fEq (mMeth [(0, G_Promise_all_parts)] 1 (mVar 0) (mNil)) (mMeth [(0, G_Promise_all_parts)] 1 (mVar 1) (mNil))))
def F_Promise_eq (G_Promise_all_parts : List MV → MH → R MV) : List MV → MH → R MV := mDef 2 2 (m_Promise_eq G_Promise_all_parts)
/-- slack_at(promise, age); slots ['promise', 'age'] -/
def m_slack_at : MS :=
  mRet (mBin fAdd (mFld [(0, 1)] (mVar 0)) (mBin fDiv (mBin fMul (mVar 1) (mBin fIx (mFld [(0, 2)] (mVar 0)) (mC (.int 0)))) (mBin fIx (mFld [(0, 2)] (mVar 0)) (mC (.int 1)))))
def F_slack_at : List MV → MH → R MV := mDef 2 2 (m_slack_at)
/-- Promise.slack(self, age); slots ['self', 'age'] -/
def m_Promise_slack (G_is_integer : List MV → MH → R MV) (G_slack_at : List MV → MH → R MV) : MS :=
  mSeq (mIfS (mNotT (mAsB (mDo 3 G_is_integer (mCons (mVar 1) (mCons (mC (.int 0)) (mCons (mFld [(0, 0)] (mVar 0)) (mNil))))))) (mBad) (mNext))
    (mRet (mDo 2 G_slack_at (mCons (mVar 0) (mCons (mVar 1) (mNil)))))
def F_Promise_slack (G_is_integer : List MV → MH → R MV) (G_slack_at : List MV → MH → R MV) : List MV → MH → R MV := mDef 2 2 (m_Promise_slack G_is_integer G_slack_at)
/-- horizon_of(promise); slots ['promise'] -/
def m_horizon_of (G_slack_at : List MV → MH → R MV) : MS :=
  mRet (mBin fAdd (mFld [(0, 0)] (mVar 0)) (mDo 2 G_slack_at (mCons (mVar 0) (mCons (mFld [(0, 0)] (mVar 0)) (mNil)))))
def F_horizon_of (G_slack_at : List MV → MH → R MV) : List MV → MH → R MV := mDef 1 1 (m_horizon_of G_slack_at)
/-- Promise.horizon(self); slots ['self'] -/
def m_Promise_horizon (G_horizon_of : List MV → MH → R MV) : MS :=
  mRet (mDo 1 G_horizon_of (mCons (mVar 0) (mNil)))
def F_Promise_horizon (G_horizon_of : List MV → MH → R MV) : List MV → MH → R MV := mDef 1 1 (m_Promise_horizon G_horizon_of)
/-- check_promise(promise); slots ['promise'] -/
def m_check_promise : MS :=
  mIfS (mNotT (mAsB (mIsC [(0, true)] (mVar 0)))) (mBad) (mNext)
def F_check_promise : List MV → MH → R MV := mDef 1 1 (m_check_promise)
/-- is_state(promise, value); slots ['promise', 'value', 'one', 'other', 'age'] -/
def m_is_state (G_horizon_of : List MV → MH → R MV) (G_is_integer : List MV → MH → R MV) : MS :=
  mSeq (mIfS (mOrT (mNotT (mAsB (mIsi .tuple (mVar 1)))) (mNotT (mAsB (mCall fAll (mCons (mLc (mItV (mVar 1)) (gN 4) (mYes) (mDo 3 G_is_integer (mCons (mVar 4) (mCons (mC (.int 0)) (mCons (mDo 1 G_horizon_of (mCons (mVar 0) (mNil))) (mNil))))) [4]) (mNil)))))) (mRet (mC (.bl false))) (mNext))
    (mRet (mCall fAll (mCons (mLc (mZipV (mCons (mVar 1) (mCons (mSl (mVar 1) (mPart (mC (.int 1))) (mNoP)) (mNil)))) (gT [2, 3]) (mYes) (mBin fLt (mVar 2) (mVar 3)) [2, 3]) (mNil))))
def F_is_state (G_horizon_of : List MV → MH → R MV) (G_is_integer : List MV → MH → R MV) : List MV → MH → R MV := mDef 2 5 (m_is_state G_horizon_of G_is_integer)
/-- check_state(promise, state); slots ['promise', 'state'] -/
def m_check_state (G_check_promise : List MV → MH → R MV) (G_is_state : List MV → MH → R MV) : MS :=
  mSeq (mDrop (mDo 1 G_check_promise (mCons (mVar 0) (mNil))))
    (mIfS (mNotT (mAsB (mDo 2 G_is_state (mCons (mVar 0) (mCons (mVar 1) (mNil)))))) (mBad) (mNext))
def F_check_state (G_check_promise : List MV → MH → R MV) (G_is_state : List MV → MH → R MV) : List MV → MH → R MV := mDef 2 2 (m_check_state G_check_promise G_is_state)
/-- check_most(promise, most); slots ['promise', 'most'] -/
def m_check_most (G_check_promise : List MV → MH → R MV) (G_is_integer : List MV → MH → R MV) : MS :=
  mSeq (mDrop (mDo 1 G_check_promise (mCons (mVar 0) (mNil))))
    (mIfS (mNotT (mAsB (mDo 3 G_is_integer (mCons (mVar 1) (mCons (mC (.int 0)) (mCons (mC (.int 5)) (mNil))))))) (mBad) (mNext))
def F_check_most (G_check_promise : List MV → MH → R MV) (G_is_integer : List MV → MH → R MV) : List MV → MH → R MV := mDef 2 2 (m_check_most G_check_promise G_is_integer)
/-- holds_for(promise, state, age); slots ['promise', 'state', 'age', 'able', 'one'] -/
def m_holds_for (G_slack_at : List MV → MH → R MV) : MS :=
  mSeq (mSet 3 (mLc (mItV (mVar 1)) (gN 4) (mAsB (mChain fLe fLe (mVar 2) (mVar 4) (mBin fAdd (mVar 2) (mDo 2 G_slack_at (mCons (mVar 0) (mCons (mVar 2) (mNil))))))) (mVar 4) [4]))
    (mRet (mBin fGe (mCall fLen (mCons (mVar 3) (mNil))) (mFld [(0, 3)] (mVar 0))))
def F_holds_for (G_slack_at : List MV → MH → R MV) : List MV → MH → R MV := mDef 3 5 (m_holds_for G_slack_at)
/-- is_good(promise, state); slots ['promise', 'state', 'age'] -/
def m_is_good (G_holds_for : List MV → MH → R MV) : MS :=
  mRet (mCall fAll (mCons (mLc (mRng1 (mCons (mBin fAdd (mFld [(0, 0)] (mVar 0)) (mC (.int 1))) (mNil))) (gN 2) (mYes) (mDo 3 G_holds_for (mCons (mVar 0) (mCons (mVar 1) (mCons (mVar 2) (mNil))))) [2]) (mNil)))
def F_is_good (G_holds_for : List MV → MH → R MV) : List MV → MH → R MV := mDef 2 3 (m_is_good G_holds_for)
/-- aged(promise, state); slots ['promise', 'state', 'age'] -/
def m_aged (G_horizon_of : List MV → MH → R MV) : MS :=
  mRet (mTup (mCons (mC (.int 0)) (mStar (mLc (mItV (mVar 1)) (gN 2) (mAsB (mBin fLt (mVar 2) (mDo 1 G_horizon_of (mCons (mVar 0) (mNil))))) (mBin fAdd (mVar 2) (mC (.int 1))) [2]) (mNil))))
def F_aged (G_horizon_of : List MV → MH → R MV) : List MV → MH → R MV := mDef 2 3 (m_aged G_horizon_of)
/-- choices_of(promise, most, state); slots ['promise', 'most', 'state', 'found', 'age', 'some'] -/
def m_choices_of (G_aged : List MV → MH → R MV) (G_is_good : List MV → MH → R MV) : MS :=
  mSeq (mSet 3 (mLst (mCons (mTup (mNil)) (mNil))))
    (mSeq (mFor (mItV (mDo 2 G_aged (mCons (mVar 0) (mCons (mVar 2) (mNil))))) (gN 4) (mDrop (mLm fExtend (mVar 3) (mCons (mLc (mItV (mVar 3)) (gN 5) (mAsB (mBin fLt (mCall fLen (mCons (mVar 5) (mNil))) (mVar 1))) (mTup (mStar (mVar 5) (mCons (mVar 4) (mNil)))) [5]) (mNil)))))
    (mRet (mSortK (mLc (mItV (mVar 3)) (gN 5) (mAsB (mDo 2 G_is_good (mCons (mVar 0) (mCons (mVar 5) (mNil))))) (mVar 5) [5]) [] 1 (mTup (mCons (mCall fLen (mCons (mVar 0) (mNil))) (mCons (mVar 0) (mNil)))))))
def F_choices_of (G_aged : List MV → MH → R MV) (G_is_good : List MV → MH → R MV) : List MV → MH → R MV := mDef 3 6 (m_choices_of G_aged G_is_good)
/-- good_states(promise, most); slots ['promise', 'most', 'found', 'age', 'some'] -/
def m_good_states (G_horizon_of : List MV → MH → R MV) (G_is_good : List MV → MH → R MV) : MS :=
  mSeq (mSet 2 (mLst (mCons (mTup (mNil)) (mNil))))
    (mSeq (mFor (mRng1 (mCons (mBin fAdd (mDo 1 G_horizon_of (mCons (mVar 0) (mNil))) (mC (.int 1))) (mNil))) (gN 3) (mDrop (mLm fExtend (mVar 2) (mCons (mLc (mItV (mVar 2)) (gN 4) (mAsB (mBin fLt (mCall fLen (mCons (mVar 4) (mNil))) (mVar 1))) (mTup (mStar (mVar 4) (mCons (mVar 3) (mNil)))) [4]) (mNil)))))
    (mRet (mSortK (mLc (mItV (mVar 2)) (gN 4) (mAsB (mDo 2 G_is_good (mCons (mVar 0) (mCons (mVar 4) (mNil))))) (mVar 4) [4]) [] 1 (mTup (mCons (mCall fLen (mCons (mVar 0) (mNil))) (mCons (mVar 0) (mNil)))))))
def F_good_states (G_horizon_of : List MV → MH → R MV) (G_is_good : List MV → MH → R MV) : List MV → MH → R MV := mDef 2 5 (m_good_states G_horizon_of G_is_good)
/-- keeps(promise, state); slots ['promise', 'state'] -/
def m_keeps (G_check_state : List MV → MH → R MV) (G_is_good : List MV → MH → R MV) : MS :=
  mSeq (mDrop (mDo 2 G_check_state (mCons (mVar 0) (mCons (mVar 1) (mNil)))))
    (mRet (mDo 2 G_is_good (mCons (mVar 0) (mCons (mVar 1) (mNil)))))
def F_keeps (G_check_state : List MV → MH → R MV) (G_is_good : List MV → MH → R MV) : List MV → MH → R MV := mDef 2 2 (m_keeps G_check_state G_is_good)
/-- broken(promise, state); slots ['promise', 'state', 'age'] -/
def m_broken (G_check_state : List MV → MH → R MV) (G_holds_for : List MV → MH → R MV) : MS :=
  mSeq (mDrop (mDo 2 G_check_state (mCons (mVar 0) (mCons (mVar 1) (mNil)))))
    (mRet (mLc (mRng1 (mCons (mBin fAdd (mFld [(0, 0)] (mVar 0)) (mC (.int 1))) (mNil))) (gN 2) (mNotT (mAsB (mDo 3 G_holds_for (mCons (mVar 0) (mCons (mVar 1) (mCons (mVar 2) (mNil))))))) (mVar 2) [2]))
def F_broken (G_check_state : List MV → MH → R MV) (G_holds_for : List MV → MH → R MV) : List MV → MH → R MV := mDef 2 3 (m_broken G_check_state G_holds_for)
/-- grown(promise, state); slots ['promise', 'state'] -/
def m_grown (G_check_state : List MV → MH → R MV) (G_aged : List MV → MH → R MV) : MS :=
  mSeq (mDrop (mDo 2 G_check_state (mCons (mVar 0) (mCons (mVar 1) (mNil)))))
    (mRet (mDo 2 G_aged (mCons (mVar 0) (mCons (mVar 1) (mNil)))))
def F_grown (G_check_state : List MV → MH → R MV) (G_aged : List MV → MH → R MV) : List MV → MH → R MV := mDef 2 2 (m_grown G_check_state G_aged)
/-- choices(promise, most, state); slots ['promise', 'most', 'state'] -/
def m_choices (G_check_most : List MV → MH → R MV) (G_check_state : List MV → MH → R MV) (G_choices_of : List MV → MH → R MV) : MS :=
  mSeq (mDrop (mDo 2 G_check_most (mCons (mVar 0) (mCons (mVar 1) (mNil)))))
    (mSeq (mDrop (mDo 2 G_check_state (mCons (mVar 0) (mCons (mVar 2) (mNil)))))
    (mRet (mDo 3 G_choices_of (mCons (mVar 0) (mCons (mVar 1) (mCons (mVar 2) (mNil)))))))
def F_choices (G_check_most : List MV → MH → R MV) (G_check_state : List MV → MH → R MV) (G_choices_of : List MV → MH → R MV) : List MV → MH → R MV := mDef 3 3 (m_choices G_check_most G_check_state G_choices_of)
/-- after(promise, state, kept); slots ['promise', 'state', 'kept', 'age'] -/
def m_after (G_check_state : List MV → MH → R MV) (G_is_state : List MV → MH → R MV) (G_aged : List MV → MH → R MV) : MS :=
  mSeq (mDrop (mDo 2 G_check_state (mCons (mVar 0) (mCons (mVar 1) (mNil)))))
    (mSeq (mIfS (mOrT (mNotT (mAsB (mIsi .tuple (mVar 2)))) (mNotT (mAsB (mDo 2 G_is_state (mCons (mVar 0) (mCons (mVar 2) (mNil))))))) (mBad) (mNext))
    (mSeq (mIfS (mNotT (mAsB (mCall fAll (mCons (mLc (mItV (mVar 2)) (gN 3) (mYes) (mBin fInT (mVar 3) (mDo 2 G_aged (mCons (mVar 0) (mCons (mVar 1) (mNil))))) [3]) (mNil))))) (mBad) (mNext))
    (mRet (mVar 2))))
def F_after (G_check_state : List MV → MH → R MV) (G_is_state : List MV → MH → R MV) (G_aged : List MV → MH → R MV) : List MV → MH → R MV := mDef 3 4 (m_after G_check_state G_is_state G_aged)
/-- states(promise, most); slots ['promise', 'most'] -/
def m_states (G_check_most : List MV → MH → R MV) (G_good_states : List MV → MH → R MV) : MS :=
  mSeq (mDrop (mDo 2 G_check_most (mCons (mVar 0) (mCons (mVar 1) (mNil)))))
    (mRet (mDo 2 G_good_states (mCons (mVar 0) (mCons (mVar 1) (mNil)))))
def F_states (G_check_most : List MV → MH → R MV) (G_good_states : List MV → MH → R MV) : List MV → MH → R MV := mDef 2 2 (m_states G_check_most G_good_states)
/-- _law_draw(_law_cell, _law_k, _law_many); slots ['_law_cell', '_law_k', '_law_many', '_law_primes'] -/
def m_l_draw : MS :=
  mSeq (mSet 3 (mTup (mCons (mC (.int 1000003)) (mCons (mC (.int 1000033)) (mCons (mC (.int 1000037)) (mCons (mC (.int 1000039)) (mCons (mC (.int 1000081)) (mCons (mC (.int 1000099)) (mCons (mC (.int 1000117)) (mCons (mC (.int 1000121)) (mCons (mC (.int 1000133)) (mCons (mC (.int 1000151)) (mCons (mC (.int 1000159)) (mCons (mC (.int 1000171)) (mCons (mC (.int 1000183)) (mCons (mC (.int 1000187)) (mCons (mC (.int 1000193)) (mCons (mC (.int 1000199)) (mNil)))))))))))))))))))
    (mRet (mBin fMod (mBin fMod (mCall fInt (mCons (mBin fAdd (mBin fMul (mVar 0) (mC (.int 48271))) (mBin fMul (mVar 1) (mC (.int 69621)))) (mNil))) (mBin fIx (mVar 3) (mBin fMod (mVar 1) (mC (.int 16))))) (mVar 2)))
def F_l_draw : List MV → MH → R MV := mDef 3 4 (m_l_draw)
/-- _law_cell_at(_law_script, _law_k); slots ['_law_script', '_law_k'] -/
def m_l_cell_at (G_l_draw : List MV → MH → R MV) : MS :=
  mSeq (mIfS (mAsB (mBin fLt (mVar 1) (mCall fLen (mCons (mVar 0) (mNil))))) (mRet (mCall fAbs (mCons (mBin fIx (mVar 0) (mVar 1)) (mNil)))) (mNext))
    (mRet (mDo 3 G_l_draw (mCons (mBin fAdd (mCall fAbs (mCons (mCall fSum (mCons (mVar 0) (mNil))) (mNil))) (mBin fMul (mC (.int 7919)) (mVar 1))) (mCons (mVar 1) (mCons (mC (.int 999983)) (mNil))))))
def F_l_cell_at (G_l_draw : List MV → MH → R MV) : List MV → MH → R MV := mDef 2 2 (m_l_cell_at G_l_draw)
/-- _law_digits(_law_script, _law_at, _law_many, _law_base); slots ['_law_script', '_law_at', '_law_many', '_law_base', '_law_cell', '_law_found', '_law_remaining', '_law_turn', '_law_blend', '_law_more'] -/
def m_l_digits (G_l_cell_at : List MV → MH → R MV) (G_l_draw : List MV → MH → R MV) : MS :=
  mSeq (mPar 4 5 (mCons (mDo 2 G_l_cell_at (mCons (mVar 0) (mCons (mVar 1) (mNil)))) (mCons (mLst (mNil)) (mNil))))
    (mSeq (mSet 6 (mBin fSub (mVar 4) (mBin fPow (mC (.int 10)) (mC (.int 18)))))
    (mSeq (mFor (mRng1 (mCons (mVar 2) (mNil))) (gN 7) (mIfS (mAsB (mBin fGt (mVar 6) (mC (.int 0)))) (mSeq (mDrop (mLm fAppend (mVar 5) (mCons (mBin fMod (mCall fInt (mCons (mVar 6) (mNil))) (mVar 3)) (mNil))))
    (mSet 6 (mBin fDiv (mVar 6) (mVar 3)))) (mSeq (mSet 8 (mDo 3 G_l_draw (mCons (mBin fMul (mBin fAdd (mVar 4) (mBin fMul (mC (.int 977)) (mVar 7))) (mBin fAdd (mBin fAdd (mVar 4) (mBin fMul (mC (.int 31)) (mVar 7))) (mC (.int 5)))) (mCons (mBin fAdd (mBin fMod (mVar 7) (mC (.int 9))) (mC (.int 1))) (mCons (mC (.int 999983)) (mNil))))))
    (mSeq (mSet 9 (mDo 3 G_l_draw (mCons (mBin fAdd (mBin fMul (mBin fAdd (mVar 4) (mBin fMul (mC (.int 31)) (mVar 7))) (mBin fAdd (mVar 4) (mC (.int 7)))) (mBin fMul (mC (.int 977)) (mVar 7))) (mCons (mBin fAdd (mBin fMod (mVar 7) (mC (.int 7))) (mC (.int 2))) (mCons (mC (.int 1000003)) (mNil))))))
    (mDrop (mLm fAppend (mVar 5) (mCons (mBin fMod (mCall fInt (mCons (mBin fAdd (mBin fMul (mVar 8) (mC (.int 1000003))) (mVar 9)) (mNil))) (mVar 3)) (mNil))))))))
    (mRet (mVar 5))))
def F_l_digits (G_l_cell_at : List MV → MH → R MV) (G_l_draw : List MV → MH → R MV) : List MV → MH → R MV := mDef 4 10 (m_l_digits G_l_cell_at G_l_draw)
/-- _law_take(_law_draws, _law_many); slots ['_law_draws', '_law_many'] -/
def m_l_take : MS :=
  mRet (mIf (mAsB (mBin fNe (mVar 0) (mLst (mNil)))) (mBin fMod (mCall fInt (mCons (mLm fPopAt (mVar 0) (mCons (mC (.int 0)) (mNil))) (mNil))) (mVar 1)) (mC (.int 0)))
def F_l_take : List MV → MH → R MV := mDef 2 2 (m_l_take)
/-- _law_pool(_law_script, _law_bases); slots ['_law_script', '_law_bases', '_law_found', '_law_at', '_law_base_here'] -/
def m_l_pool (G_l_digits : List MV → MH → R MV) : MS :=
  mSeq (mSet 2 (mLst (mNil)))
    (mSeq (mFor (mEnumV (mCons (mVar 1) (mNil))) (gT [3, 4]) (mSet 2 (mBin fAdd (mVar 2) (mDo 4 G_l_digits (mCons (mVar 0) (mCons (mVar 3) (mCons (mC (.int 150)) (mCons (mVar 4) (mNil)))))))))
    (mRet (mVar 2)))
def F_l_pool (G_l_digits : List MV → MH → R MV) : List MV → MH → R MV := mDef 2 5 (m_l_pool G_l_digits)
/-- _law_plan(_law_draws, _law_most); slots ['_law_draws', '_law_most', '_law_far', '_law_near', '_law_part'] -/
def m_l_plan (G_l_take : List MV → MH → R MV) : MS :=
  mSeq (mPar 2 3 (mCons (mDo 2 G_l_take (mCons (mVar 0) (mCons (mBin fAdd (mVar 1) (mC (.int 1))) (mNil)))) (mCons (mDo 2 G_l_take (mCons (mVar 0) (mCons (mC (.int 3)) (mNil)))) (mNil))))
    (mSeq (mSet 4 (mTup (mCons (mDo 2 G_l_take (mCons (mVar 0) (mCons (mC (.int 4)) (mNil)))) (mCons (mBin fAdd (mC (.int 1)) (mDo 2 G_l_take (mCons (mVar 0) (mCons (mC (.int 3)) (mNil))))) (mNil)))))
    (mSeq (mWhile (mAsB (mBin fGt (mBin fAdd (mBin fAdd (mVar 2) (mVar 3)) (mBin fDiv (mBin fMul (mVar 2) (mBin fIx (mVar 4) (mC (.int 0)))) (mBin fIx (mVar 4) (mC (.int 1))))) (mC (.int 9)))) (mSet 4 (mTup (mCons (mBin fSub (mBin fIx (mVar 4) (mC (.int 0))) (mC (.int 1))) (mCons (mBin fIx (mVar 4) (mC (.int 1))) (mNil))))))
    (mRet (mTup (mCons (mVar 2) (mCons (mVar 3) (mCons (mVar 4) (mCons (mIf (mAsB (mBin fEq (mDo 2 G_l_take (mCons (mVar 0) (mCons (mC (.int 5)) (mNil)))) (mC (.int 0)))) (mC (.int 2)) (mC (.int 1))) (mNil)))))))))
def F_l_plan (G_l_take : List MV → MH → R MV) : List MV → MH → R MV := mDef 2 5 (m_l_plan G_l_take)
/-- _law_promise(_law_plan_here); slots ['_law_plan_here'] -/
def m_l_promise (G_Promise_init : List MV → MH → R MV) : MS :=
  mRet (mMakeK 0 2 2 G_Promise_init (mCons (mBin fIx (mVar 0) (mC (.int 0))) (mCons (mBin fIx (mVar 0) (mC (.int 1))) (mNil))) (mCons (mBin fIx (mVar 0) (mC (.int 2))) (mCons (mBin fIx (mVar 0) (mC (.int 3))) (mNil))))
def F_l_promise (G_Promise_init : List MV → MH → R MV) : List MV → MH → R MV := mDef 1 1 (m_l_promise G_Promise_init)
/-- _law_slack(_law_plan_here, _law_age); slots ['_law_plan_here', '_law_age'] -/
def m_l_slack : MS :=
  mRet (mBin fAdd (mBin fIx (mVar 0) (mC (.int 1))) (mBin fDiv (mBin fMul (mVar 1) (mBin fIx (mBin fIx (mVar 0) (mC (.int 2))) (mC (.int 0)))) (mBin fIx (mBin fIx (mVar 0) (mC (.int 2))) (mC (.int 1)))))
def F_l_slack : List MV → MH → R MV := mDef 2 2 (m_l_slack)
/-- _law_horizon(_law_plan_here); slots ['_law_plan_here'] -/
def m_l_horizon (G_l_slack : List MV → MH → R MV) : MS :=
  mRet (mBin fAdd (mBin fIx (mVar 0) (mC (.int 0))) (mDo 2 G_l_slack (mCons (mVar 0) (mCons (mBin fIx (mVar 0) (mC (.int 0))) (mNil)))))
def F_l_horizon (G_l_slack : List MV → MH → R MV) : List MV → MH → R MV := mDef 1 1 (m_l_horizon G_l_slack)
/-- _law_broken(_law_plan_here, _law_state); slots ['_law_plan_here', '_law_state', '_law_found', '_law_age', '_law_one'] -/
def m_l_broken (G_l_slack : List MV → MH → R MV) : MS :=
  mSeq (mSet 2 (mLst (mNil)))
    (mSeq (mFor (mRng1 (mCons (mBin fAdd (mBin fIx (mVar 0) (mC (.int 0))) (mC (.int 1))) (mNil))) (gN 3) (mIfS (mAsB (mBin fLt (mCall fLen (mCons (mLc (mItV (mVar 1)) (gN 4) (mAsB (mChain fLe fLe (mVar 3) (mVar 4) (mBin fAdd (mVar 3) (mDo 2 G_l_slack (mCons (mVar 0) (mCons (mVar 3) (mNil))))))) (mVar 4) [4]) (mNil))) (mBin fIx (mVar 0) (mC (.int 3))))) (mDrop (mLm fAppend (mVar 2) (mCons (mVar 3) (mNil)))) (mNext)))
    (mRet (mVar 2)))
def F_l_broken (G_l_slack : List MV → MH → R MV) : List MV → MH → R MV := mDef 2 5 (m_l_broken G_l_slack)
/-- _law_grown(_law_plan_here, _law_state); slots ['_law_plan_here', '_law_state', '_law_age'] -/
def m_l_grown (G_l_horizon : List MV → MH → R MV) : MS :=
  mRet (mBin fAdd (mLst (mCons (mC (.int 0)) (mNil))) (mLc (mItV (mVar 1)) (gN 2) (mAsB (mBin fLe (mBin fAdd (mVar 2) (mC (.int 1))) (mDo 1 G_l_horizon (mCons (mVar 0) (mNil))))) (mBin fAdd (mVar 2) (mC (.int 1))) [2]))
def F_l_grown (G_l_horizon : List MV → MH → R MV) : List MV → MH → R MV := mDef 2 3 (m_l_grown G_l_horizon)
/-- _law_parts(_law_ages, _law_most); slots ['_law_ages', '_law_most', '_law_found', '_law_age', '_law_many', '_law_some'] -/
def m_l_parts : MS :=
  mSeq (mSet 2 (mLst (mCons (mTup (mNil)) (mNil))))
    (mSeq (mFor (mItV (mVar 0)) (gN 3) (mSet 2 (mBin fAdd (mVar 2) (mLc (mItV (mVar 2)) (gN 5) (mAsB (mBin fLt (mCall fLen (mCons (mVar 5) (mNil))) (mVar 1))) (mBin fAdd (mVar 5) (mTup (mCons (mVar 3) (mNil)))) [5]))))
    (mRet (mLc (mItV (mCall fSorted (mCons (mLc (mItV (mVar 2)) (gN 5) (mYes) (mTup (mCons (mCall fLen (mCons (mVar 5) (mNil))) (mCons (mVar 5) (mNil)))) [5]) (mNil)))) (gT [4, 5]) (mYes) (mVar 5) [4, 5])))
def F_l_parts : List MV → MH → R MV := mDef 2 6 (m_l_parts)
/-- _law_choices(_law_plan_here, _law_most, _law_state); slots ['_law_plan_here', '_law_most', '_law_state', '_law_some'] -/
def m_l_choices (G_l_grown : List MV → MH → R MV) (G_l_parts : List MV → MH → R MV) (G_l_broken : List MV → MH → R MV) : MS :=
  mRet (mLc (mItV (mDo 2 G_l_parts (mCons (mDo 2 G_l_grown (mCons (mVar 0) (mCons (mVar 2) (mNil)))) (mCons (mVar 1) (mNil))))) (gN 3) (mAsB (mBin fEq (mDo 2 G_l_broken (mCons (mVar 0) (mCons (mVar 3) (mNil)))) (mLst (mNil)))) (mVar 3) [3])
def F_l_choices (G_l_grown : List MV → MH → R MV) (G_l_parts : List MV → MH → R MV) (G_l_broken : List MV → MH → R MV) : List MV → MH → R MV := mDef 3 4 (m_l_choices G_l_grown G_l_parts G_l_broken)
/-- _law_states(_law_plan_here, _law_most); slots ['_law_plan_here', '_law_most', '_law_some'] -/
def m_l_states (G_l_horizon : List MV → MH → R MV) (G_l_parts : List MV → MH → R MV) (G_l_broken : List MV → MH → R MV) : MS :=
  mRet (mLc (mItV (mDo 2 G_l_parts (mCons (mLRg1 (mBin fAdd (mDo 1 G_l_horizon (mCons (mVar 0) (mNil))) (mC (.int 1)))) (mCons (mVar 1) (mNil))))) (gN 2) (mAsB (mBin fEq (mDo 2 G_l_broken (mCons (mVar 0) (mCons (mVar 2) (mNil)))) (mLst (mNil)))) (mVar 2) [2])
def F_l_states (G_l_horizon : List MV → MH → R MV) (G_l_parts : List MV → MH → R MV) (G_l_broken : List MV → MH → R MV) : List MV → MH → R MV := mDef 2 3 (m_l_states G_l_horizon G_l_parts G_l_broken)
/-- law(_law_script); slots ['_law_script', '_law_draws', '_law_turn', '_law_plan_here', '_law_most', '_law_one', '_law_more', '_law_state', '_law_ages', '_law_kept', '_law_age'] -/
def m_law (G_l_pool : List MV → MH → R MV) (G_l_take : List MV → MH → R MV) (G_l_plan : List MV → MH → R MV) (G_l_promise : List MV → MH → R MV) (G_Promise_copies : List MV → MH → R MV) (G_Promise_share : List MV → MH → R MV) (G_Promise_base : List MV → MH → R MV) (G_Promise_reach : List MV → MH → R MV) (G_Promise_horizon : List MV → MH → R MV) (G_l_horizon : List MV → MH → R MV) (G_Promise_slack : List MV → MH → R MV) (G_l_slack : List MV → MH → R MV) (G_Promise_eq : List MV → MH → R MV) (G_Promise_init : List MV → MH → R MV) (G_states : List MV → MH → R MV) (G_l_states : List MV → MH → R MV) (G_broken : List MV → MH → R MV) (G_l_broken : List MV → MH → R MV) (G_keeps : List MV → MH → R MV) (G_l_grown : List MV → MH → R MV) (G_grown : List MV → MH → R MV) (G_after : List MV → MH → R MV) (G_choices : List MV → MH → R MV) (G_l_choices : List MV → MH → R MV) : MS :=
  mSeq (mSet 0 (mSl (mVar 0) (mNoP) (mPart (mC (.int 63)))))
    (mSeq (mSet 1 (mDo 2 G_l_pool (mCons (mVar 0) (mCons (mTup (mCons (mC (.int 1009)) (mCons (mC (.int 1013)) (mCons (mC (.int 1000033)) (mNil))))) (mNil)))))
    (mSeq (mFor (mRng1 (mCons (mC (.int 5)) (mNil))) (gN 2) (mSeq (mAsg (gT [3, 4]) (mTup (mCons (mDo 2 G_l_plan (mCons (mVar 1) (mCons (mC (.int 6)) (mNil)))) (mCons (mDo 2 G_l_take (mCons (mVar 1) (mCons (mC (.int 5)) (mNil)))) (mNil)))))
    (mSeq (mSet 5 (mDo 1 G_l_promise (mCons (mVar 3) (mNil))))
    (mSeq (mIfS (mOrT (mAsB (mBin fNe (mTup (mCons (mMeth [(0, G_Promise_reach)] 1 (mVar 5) mNil) (mCons (mMeth [(0, G_Promise_base)] 1 (mVar 5) mNil) (mCons (mMeth [(0, G_Promise_share)] 1 (mVar 5) mNil) (mCons (mMeth [(0, G_Promise_copies)] 1 (mVar 5) mNil) (mNil)))))) (mVar 3))) (mAsB (mBin fNe (mMeth [(0, G_Promise_horizon)] 1 (mVar 5) (mNil)) (mDo 1 G_l_horizon (mCons (mVar 3) (mNil)))))) (mRet (mC (.bl false))) (mNext))
    (mSeq (mIfS (mAsB (mBin fNe (mLc (mRng1 (mCons (mBin fAdd (mBin fIx (mVar 3) (mC (.int 0))) (mC (.int 1))) (mNil))) (gN 10) (mYes) (mMeth [(0, G_Promise_slack)] 2 (mVar 5) (mCons (mVar 10) (mNil))) [10]) (mLc (mRng1 (mCons (mBin fAdd (mBin fIx (mVar 3) (mC (.int 0))) (mC (.int 1))) (mNil))) (gN 10) (mYes) (mDo 2 G_l_slack (mCons (mVar 3) (mCons (mVar 10) (mNil)))) [10]))) (mRet (mC (.bl false))) (mNext))
    (mSeq (mIfS (mOrT (mAsB (mNeB [(0, G_Promise_eq)] [0] (mVar 5) (mDo 1 G_l_promise (mCons (mVar 3) (mNil))))) (mAsB (mEqB [(0, G_Promise_eq)] [0] (mVar 5) (mMakeK 0 2 2 G_Promise_init (mCons (mBin fIx (mVar 3) (mC (.int 0))) (mCons (mBin fIx (mVar 3) (mC (.int 1))) (mNil))) (mCons (mBin fIx (mVar 3) (mC (.int 2))) (mCons (mBin fSub (mC (.int 3)) (mBin fIx (mVar 3) (mC (.int 3)))) (mNil))))))) (mRet (mC (.bl false))) (mNext))
    (mSeq (mIfS (mAsB (mBin fNe (mDo 2 G_states (mCons (mVar 5) (mCons (mVar 4) (mNil)))) (mDo 2 G_l_states (mCons (mVar 3) (mCons (mVar 4) (mNil)))))) (mRet (mC (.bl false))) (mNext))
    (mFor (mRng1 (mCons (mC (.int 4)) (mNil))) (gN 6) (mSeq (mSet 7 (mCall fTuple (mCons (mLc (mRng1 (mCons (mBin fAdd (mDo 1 G_l_horizon (mCons (mVar 3) (mNil))) (mC (.int 1))) (mNil))) (gN 10) (mAsB (mBin fEq (mDo 2 G_l_take (mCons (mVar 1) (mCons (mC (.int 2)) (mNil)))) (mC (.int 0)))) (mVar 10) [10]) (mNil))))
    (mSeq (mIfS (mOrT (mAsB (mBin fNe (mDo 2 G_broken (mCons (mVar 5) (mCons (mVar 7) (mNil)))) (mDo 2 G_l_broken (mCons (mVar 3) (mCons (mVar 7) (mNil)))))) (mAsB (mBin fNe (mDo 2 G_keeps (mCons (mVar 5) (mCons (mVar 7) (mNil)))) (mBin fEq (mDo 2 G_l_broken (mCons (mVar 3) (mCons (mVar 7) (mNil)))) (mLst (mNil)))))) (mRet (mC (.bl false))) (mNext))
    (mSeq (mSet 8 (mDo 2 G_l_grown (mCons (mVar 3) (mCons (mVar 7) (mNil)))))
    (mSeq (mSet 9 (mCall fTuple (mCons (mLc (mItV (mVar 8)) (gN 10) (mAsB (mBin fEq (mDo 2 G_l_take (mCons (mVar 1) (mCons (mC (.int 2)) (mNil)))) (mC (.int 0)))) (mVar 10) [10]) (mNil))))
    (mSeq (mIfS (mOrT (mAsB (mBin fNe (mDo 2 G_grown (mCons (mVar 5) (mCons (mVar 7) (mNil)))) (mCall fTuple (mCons (mVar 8) (mNil))))) (mAsB (mBin fNe (mDo 3 G_after (mCons (mVar 5) (mCons (mVar 7) (mCons (mVar 9) (mNil))))) (mVar 9)))) (mRet (mC (.bl false))) (mNext))
    (mIfS (mAsB (mBin fNe (mDo 3 G_choices (mCons (mVar 5) (mCons (mVar 4) (mCons (mVar 7) (mNil))))) (mDo 3 G_l_choices (mCons (mVar 3) (mCons (mVar 4) (mCons (mVar 7) (mNil))))))) (mRet (mC (.bl false))) (mNext)))))))))))))))
    (mRet (mC (.bl true)))))
def F_law (G_l_pool : List MV → MH → R MV) (G_l_take : List MV → MH → R MV) (G_l_plan : List MV → MH → R MV) (G_l_promise : List MV → MH → R MV) (G_Promise_copies : List MV → MH → R MV) (G_Promise_share : List MV → MH → R MV) (G_Promise_base : List MV → MH → R MV) (G_Promise_reach : List MV → MH → R MV) (G_Promise_horizon : List MV → MH → R MV) (G_l_horizon : List MV → MH → R MV) (G_Promise_slack : List MV → MH → R MV) (G_l_slack : List MV → MH → R MV) (G_Promise_eq : List MV → MH → R MV) (G_Promise_init : List MV → MH → R MV) (G_states : List MV → MH → R MV) (G_l_states : List MV → MH → R MV) (G_broken : List MV → MH → R MV) (G_l_broken : List MV → MH → R MV) (G_keeps : List MV → MH → R MV) (G_l_grown : List MV → MH → R MV) (G_grown : List MV → MH → R MV) (G_after : List MV → MH → R MV) (G_choices : List MV → MH → R MV) (G_l_choices : List MV → MH → R MV) : List MV → MH → R MV := mDef 1 11 (m_law G_l_pool G_l_take G_l_plan G_l_promise G_Promise_copies G_Promise_share G_Promise_base G_Promise_reach G_Promise_horizon G_l_horizon G_Promise_slack G_l_slack G_Promise_eq G_Promise_init G_states G_l_states G_broken G_l_broken G_keeps G_l_grown G_grown G_after G_choices G_l_choices)
end
end Mv

set_option maxHeartbeats 4000000
namespace Mv
open PySem PySem.Spec L2

theorem map_inj {α β : Type} {f : α → β} (hf : ∀ a b, f a = f b → a = b) : ∀ {x y : List α}, x.map f = y.map f → x = y
  | [], [], _ => rfl
  | [], _ :: _, h => by cases h
  | _ :: _, [], h => by cases h
  | a :: x, b :: y, h => by
    simp only [List.map_cons, List.cons.injEq] at h
    rw [hf _ _ h.1, map_inj hf h.2]
theorem und_tints (n : Nat) (l : List Int) : MV.und n (.tup (ivs l)) := by
  simp only [MV.und]
  exact unds_ints l

/-! ### is_integer, is_pair, check_rule, check_time -/
theorem F_is_integer_eq (v lo hi : Int) (h : MH) : F_is_integer [.int v, .int lo, .int hi] h = .ok (.bl (decide (lo ≤ v ∧ v ≤ hi))) h := by
  unfold F_is_integer m_is_integer
  simp only [Mv.mDef, Mv.mSeq, Mv.mSet, Mv.mRet, Mv.mRetN, Mv.mIfS, Mv.mVar, Mv.mC, Mv.mBin, Mv.mChain, Mv.mCall, Mv.mDo, Mv.mCons, Mv.mNil, Mv.mAndV, Mv.mOrV, Mv.mNotV, Mv.mAsB, Mv.mAndT, Mv.mOrT, Mv.mNotT, Mv.mIf, Mv.mTup, Mv.mLst, Mv.mNext, Mv.mBad, Mv.mDrop, Mv.mPar, Mv.mAsg, Mv.mStore, Mv.mNeg, Mv.fNeg, Mv.mYes, Mv.mNoP, Mv.mPart, Mv.mSl, Mv.fI, Mv.fAdd, Mv.fSub, Mv.fMul, Mv.fMod, Mv.fDiv, Mv.fPow, Mv.fLt, Mv.fLe, Mv.fGt, Mv.fGe, Mv.yes2, Mv.fIsN, Mv.fNotN, Mv.isNon, Mv.fIx, Mv.items_tup, Mv.items_new, Mv.list_new, Mv.lstOf_new, Mv.fEq_int, Mv.fNe_int, Mv.fLen_tup, Mv.fMax2, Mv.fMin2, Mv.fInt, Mv.fAbs, Mv.mIsi, Mv.isT, Mv.gN, Mv.gT, Mv.setAll, Mv.wipeM, Mv.R.bind_ok, Mv.R.bind_bad, Mv.R.noX_ok, Mv.R.andS_ok, Mv.R.andS_bad, Mv.S.andS_nx, Mv.S.andS_rt, Mv.S.andS_bad, Mv.S.andS_bk, Mv.S.andS_ct, List.map_cons, List.map_nil, List.cons_append, List.nil_append, List.append_nil, List.replicate_succ, List.replicate_zero, List.length_cons, List.length_nil, List.set_cons_zero, List.set_cons_succ, List.getElem?_cons_zero, List.getElem?_cons_succ, List.getElem?_nil, Nat.reduceAdd, Nat.reduceSub, Nat.reduceEqDiff, Nat.reduceLeDiff, Nat.zero_add, if_true, if_false, Bool.not_true, Bool.not_false, Bool.false_eq_true, decide_true, decide_false, ite_true, ite_false, Option.some.injEq, reduceIte]
  by_cases h1 : lo ≤ v
  · by_cases h2 : v ≤ hi
    · simp [h1, h2]
    · simp [h1, h2]
  · simp [h1]
theorem one_inj {α : Type} {f : α → MV} (hf : ∀ a b, f a = f b → a = b) (a b : α) (e : [f a] = [f b]) : a = b := hf a b (List.cons.inj e).1

/-! ### common, turn_of -/
theorem cmul_ok {i j : Int} {a b : Nat} (ha : i.natAbs < 2 ^ a) (hb : j.natAbs < 2 ^ b) (h0 : 0 < a) (h1 : 0 < b) (h : a + b ≤ 100000000) : CMulB i j = true := decide_eq_true (by
  have x := PySem.Flt.log2_lt_of h0 ha
  have y := PySem.Flt.log2_lt_of h1 hb
  omega)
/-- the multiples of a up to a * b that b divides -/
def commons (a b : Int) : List Int := (prog a a (rngN a (a * b + 1) a)).filter fun n => decide (n % b = 0)
theorem commons_all : ∀ a : Fin 61, ∀ b : Fin 61, a.val ∣ 60 → b.val ∣ 60 → (commons a.val b.val).head? = some ((Nat.lcm a.val b.val : Nat) : Int) := by decide +kernel
theorem div60 {a : Nat} (h : a ∣ 60) : 1 ≤ a ∧ a ≤ 60 := ⟨Nat.pos_of_dvd_of_pos h (by decide), Nat.le_of_dvd (by decide) h⟩
theorem commons_eq {a b : Nat} (da : a ∣ 60) (db : b ∣ 60) : ∃ rest, commons a b = ((Nat.lcm a b : Nat) : Int) :: rest := by
  have h1 := div60 da
  have h2 := div60 db
  have q := commons_all ⟨a, by omega⟩ ⟨b, by omega⟩ da db
  cases e : commons (a : Int) (b : Int) with
  | nil => rw [e] at q; cases q
  | cons m r => rw [e] at q; simp only [List.head?_cons, Option.some.injEq] at q; exact ⟨r, by rw [q]⟩
noncomputable def G_common : List MV → MH → R MV := specOf (α := Nat × Nat) (fun p => [.int p.1, .int p.2]) (fun p => p.1 ∣ 60 ∧ p.2 ∣ 60) fun p h => .ok (.int (Nat.lcm p.1 p.2 : Nat)) h
theorem G_common_eq {a b : Nat} (da : a ∣ 60) (db : b ∣ 60) (h : MH) : G_common [.int a, .int b] h = .ok (.int (Nat.lcm a b : Nat)) h :=
  specOf_eq (a := ((a, b) : Nat × Nat)) (fun x y e => by
    simp only [List.cons.injEq, MV.int.injEq, and_true] at e
    exact Prod.ext (by omega) (by omega)) ⟨da, db⟩ h
theorem nats_prog (n : Nat) : prog 0 1 n = (List.range n).map fun (k : Nat) => (k : Int) := by
  unfold prog
  congr 1
  funext k
  omega

theorem ok_ex {v : MV} {h h' : MH} (e : h <+: h') : ∃ g, R.ok v h' = R.ok v (h ++ g) := by
  obtain ⟨t, e⟩ := e
  exact ⟨t, by rw [e]⟩
/-! ### lists of rows as data -/
def tD (l : List Int) : PyData := .tuple (l.map PyData.int)
theorem data_rows {h : MH} {n : Nat} {ls : List (List Int)} (e : h[n]? = some (.lst (ls.map fun l => .tup (ivs l)))) : dataOf 12 h (.ref n) = some (.list (ls.map tD)) := by
  show (match h[n]? with
      | some (.lst xs) => (allSome (xs.map (dataOf 11 h))).map PyData.list
      | some (.frz xs) => (allSome (xs.map (dataOf 11 h))).map PyData.list
      | _ => none) = _
  simp only [e]
  have q : allSome ((ls.map fun l => MV.tup (ivs l)).map (dataOf 11 h)) = some (ls.map tD) := by
    rw [List.map_map]
    exact allSome_map fun l _ => data_ints 9 h l
  rw [q]
  rfl
theorem eqv_tD (a b : List Int) : PyData.eqv (tD a) (tD b) = true ↔ a = b := by
  unfold tD
  rw [eqv_tints]
  simp
theorem eqv_rows (a b : List (List Int)) : PyData.eqv (.list (a.map tD)) (.list (b.map tD)) = decide (a = b) := by
  have : PyData.eqv (.list (a.map tD)) (.list (b.map tD)) = true ↔ a = b := by
    simp only [PyData.eqv]
    exact eqvAll_by eqv_tD a b
  by_cases e : a = b
  · rw [decide_eq_true e]; exact this.mpr e
  · rw [decide_eq_false e]
    exact Bool.eq_false_iff.mpr fun z => e (this.mp z)
theorem fEq_rows {h : MH} {n m : Nat} {a b : List (List Int)} (e : h[n]? = some (.lst (a.map fun l => .tup (ivs l)))) (e' : h[m]? = some (.lst (b.map fun l => .tup (ivs l)))) : fEq (.ref n) (.ref m) h = .ok (.bl (decide (a = b))) h := by
  unfold fEq
  simp only [data_rows e, data_rows e', eqv_rows]
theorem fNe_rows {h : MH} {n m : Nat} {a b : List (List Int)} (e : h[n]? = some (.lst (a.map fun l => .tup (ivs l)))) (e' : h[m]? = some (.lst (b.map fun l => .tup (ivs l)))) : fNe (.ref n) (.ref m) h = .ok (.bl (!decide (a = b))) h := by
  unfold fNe
  simp only [data_rows e, data_rows e', eqv_rows]
theorem fEq_tints (a b : List Int) (h : MH) : fEq (.tup (ivs a)) (.tup (ivs b)) h = .ok (.bl (decide (a = b))) h := by
  unfold fEq
  simp only [data_ints, eqv_tints]
theorem fNe_tints (a b : List Int) (h : MH) : fNe (.tup (ivs a)) (.tup (ivs b)) h = .ok (.bl (!decide (a = b))) h := by
  unfold fNe
  simp only [data_ints, eqv_tints]
theorem cutM_drop (xs : List MV) {n : Nat} (h : n ≤ xs.length) : cutM xs (some (n : Int)) none = xs.drop n := by
  unfold cutM
  rw [HT.sIx_nat, HT.sIx_none, Nat.min_eq_left h, ← List.length_drop, List.take_length]
theorem cutM_take (xs : List MV) {n : Nat} (h : n ≤ xs.length) : cutM xs none (some (n : Int)) = xs.take n := by
  unfold cutM
  rw [HT.sIx_nat, HT.sIx_none, Nat.min_eq_left h, List.drop_zero, Nat.sub_zero]

theorem at_zero {α : Type} (a : α) (l : List α) : atI (a :: l) 0 = some a := by
  simp [atI, ixN]
/-! ### period_of -/
def rotE (L : List (List Int)) (n : Nat) : Bool := decide (L.drop n ++ L.take n = L)
def nums (T : Nat) : List Nat := ((List.range T).map (· + 1)).filter fun n => decide (T % n = 0)
theorem nums_ivs (T : Nat) : ivs (prog 1 1 ((T : Int) + 1 - 1).toNat) = ((List.range T).map (· + 1)).map fun (k : Nat) => MV.int (k : Int) := by
  have : ((T : Int) + 1 - 1).toNat = T := by omega
  rw [this]
  unfold ivs prog
  rw [List.map_map, List.map_map]
  apply List.map_congr_left
  intro k _
  show MV.int (1 + (k : Int) * 1) = MV.int ((k + 1 : Nat) : Int)
  congr 1
  omega


/-! ### lists of whole numbers as data -/
theorem data_lints {h : MH} {n : Nat} {a : List Int} (e : h[n]? = some (.lst (ivs a))) : dataOf 12 h (.ref n) = some (.list (a.map PyData.int)) := by
  show (match h[n]? with
      | some (.lst xs) => (allSome (xs.map (dataOf 11 h))).map PyData.list
      | some (.frz xs) => (allSome (xs.map (dataOf 11 h))).map PyData.list
      | _ => none) = _
  simp only [e]
  have q : allSome ((ivs a).map (dataOf 11 h)) = some (a.map PyData.int) := by
    unfold ivs
    rw [List.map_map]
    exact allSome_map fun i _ => rfl
  rw [q]
  rfl
theorem fEq_lints {h : MH} {n m : Nat} {a b : List Int} (e : h[n]? = some (.lst (ivs a))) (e' : h[m]? = some (.lst (ivs b))) : fEq (.ref n) (.ref m) h = .ok (.bl (decide (a = b))) h := by
  unfold fEq
  simp only [data_lints e, data_lints e', PyData.eqv, eqvAll_ints]
theorem findAt_has {m : Int} : ∀ (fs : List Int) (i : Nat), m ∈ fs → ∃ j, findAt (.int m) i (fs.map PyData.int) = some j
  | [], i, h => by cases h
  | x :: r, i, h => by
    unfold findAt
    simp only [List.map_cons]
    by_cases e : x = m
    · subst e
      exact ⟨i, by simp [PyData.eqv]⟩
    · rcases List.mem_cons.mp h with e' | h'
      · exact absurd e'.symm e
      · obtain ⟨j, ej⟩ := findAt_has r (i + 1) h'
        exact ⟨j, by simp [PyData.eqv, e, ej]⟩
theorem fIndex_ints {h : MH} {n : Nat} {fs : List Int} {m : Int} (e : h[n]? = some (.lst (ivs fs))) (hm : m ∈ fs) : ∃ j : Nat, fIndex (.ref n) [.int m] h = .ok (.int (j : Nat)) h ∧ fs[j]? = some m ∧ ∀ k, k < j → fs[k]? ≠ some m := by
  obtain ⟨j, ej⟩ := findAt_has fs 0 hm
  obtain ⟨_, ⟨z, h2, h3⟩, h4⟩ := findAt_spec _ 0 j ej
  refine ⟨j, ?_, ?_, fun k hk ek => ?_⟩
  · unfold fIndex
    simp only [data_lints e, data_int, ej]
  · simp only [Nat.sub_zero, List.getElem?_map] at h2
    cases q : fs[j]? with
    | none => rw [q] at h2; cases h2
    | some x =>
      rw [q] at h2
      cases h2
      simp [PyData.eqv] at h3
      rw [h3]
  · have := h4 k (.int m) (by simpa using hk) (by simp [ek])
    simp [PyData.eqv] at this

structure IsGap (f : Nat → Option Int) (n : Nat) (m : Int) (i : Nat) : Prop where
  lt : i < n
  at' : f i = some m
  all : ∀ k, k < n → ∃ x, f k = some x ∧ x ≤ m
  first : ∀ k, k < i → f k ≠ some m
def GapIs (f : Nat → Option Int) (s : Int) (n : Nat) (v : MV) : Prop := (v = .non ∧ ∃ k, k < n ∧ f k = none) ∨ ∃ m i, v = .tup [.int m, .int (s + (i : Nat))] ∧ IsGap f n m i
theorem GapIs.uniq {f : Nat → Option Int} {s : Int} {n : Nat} {v w : MV} (h : GapIs f s n v) (h' : GapIs f s n w) : v = w := by
  rcases h with ⟨rfl, k, hk, ek⟩ | ⟨m, i, rfl, g⟩
  · rcases h' with ⟨rfl, _⟩ | ⟨m, i, rfl, g⟩
    · rfl
    · obtain ⟨x, e, _⟩ := g.all k hk
      rw [ek] at e; cases e
  · rcases h' with ⟨rfl, k, hk, ek⟩ | ⟨m', i', rfl, g'⟩
    · obtain ⟨x, e, _⟩ := g.all k hk
      rw [ek] at e; cases e
    · have hm : m = m' := by
        obtain ⟨x, e, l⟩ := g.all i' g'.lt
        obtain ⟨y, e', l'⟩ := g'.all i g.lt
        rw [g'.at'] at e; cases e
        rw [g.at'] at e'; cases e'
        omega
      subst hm
      have hi : i = i' := by
        rcases Nat.lt_trichotomy i i' with z | z | z
        · exact absurd g.at' (g'.first i z)
        · exact z
        · exact absurd g'.at' (g.first i' z)
      rw [hi]
theorem asInts_ivs (ns : List Int) : asInts (ivs ns) = some ns := asInts_map ns
theorem set_at {h g : MH} {o o' : MO} : (h ++ o :: g).set h.length o' = h ++ o' :: g := by simp
theorem at_len (h g : MH) (o : MO) : (h ++ o :: g)[h.length]? = some o := by simp
theorem ok_ex2 {v : MV} {h h' : MH} {Q : MV → Prop} (e : h <+: h') (q : Q v) : ∃ x g, R.ok v h' = R.ok x (h ++ g) ∧ Q x := by
  obtain ⟨t, e⟩ := e
  exact ⟨v, t, by rw [e], q⟩

/-! ### rows come again -/
theorem any_same {α : Type} {f g : α → Bool} : ∀ {l : List α}, (∀ x ∈ l, f x = g x) → l.any f = l.any g
  | [], _ => rfl
  | x :: l, h => by
    rw [List.any_cons, List.any_cons, h x (List.mem_cons_self ..), any_same fun y hy => h y (List.mem_cons_of_mem _ hy)]
theorem rot_iff (f : Nat → List Int) (T n : Nat) (hn : n ≤ T) : ((List.range T).map f).drop n ++ ((List.range T).map f).take n = (List.range T).map f ↔ ∀ k, k < T → f ((k + n) % T) = f k := by
  have e : ((List.range T).map f).drop n ++ ((List.range T).map f).take n = (List.range T).map fun k => f ((k + n) % T) := by
    apply List.ext_getElem
    · simp; omega
    · intro i h1 h2
      simp only [List.length_map, List.length_range] at h2
      rw [List.getElem_append]
      simp only [List.length_drop, List.length_map, List.length_range]
      split
      · rename_i hi
        rw [List.getElem_drop, List.getElem_map, List.getElem_map, List.getElem_range, List.getElem_range, Nat.mod_eq_of_lt (by omega), Nat.add_comm]
      · rename_i hi
        rw [List.getElem_take, List.getElem_map, List.getElem_map, List.getElem_range, List.getElem_range, Nat.mod_eq_sub_mod (by omega), Nat.mod_eq_of_lt (by omega)]
        congr 1
        omega
  rw [e]
  constructor
  · intro h k hk
    have := congrArg (fun l => l[k]?) h
    simp [hk] at this
    exact this
  · intro h
    exact List.map_congr_left fun k hk => h k (List.mem_range.mp hk)

theorem prog_more (n m : Nat) : prog 0 1 (n + m) = prog 0 1 n ++ prog (n : Int) 1 m := by
  unfold prog
  rw [List.range_add, List.map_append, List.map_map]
  congr 1
  apply List.map_congr_left
  intro i _
  show 0 + ((n + i : Nat) : Int) * 1 = (n : Int) + (i : Int) * 1
  omega
theorem prog_succ (n : Nat) : prog 0 1 (n + 1) = prog 0 1 n ++ [(n : Int)] := by
  rw [prog_more]
  simp [prog]

theorem at_nat {α : Type} {l : List α} {k : Nat} {a : α} (h : l[k]? = some a) : atI l (k : Int) = some a := by
  have hk := (List.getElem?_eq_some_iff.mp h).1
  have e : ixN l.length (k : Int) = some k := by
    unfold ixN
    rw [if_pos (by omega), if_pos (by omega)]
    simp
  unfold atI
  rw [e]
  exact h
/-! ### the law's own gap -/
theorem enum_at {xs : List MV} {i : Nat} {x y : MV} (h : (enumL xs)[i]? = some x) (e : xs[i]? = some y) : x = .tup [.int (i : Nat), y] := by
  unfold enumL at h
  rw [List.getElem?_map, List.getElem?_zipIdx, e] at h
  simp at h
  exact h.symm
theorem enum_len (xs : List MV) : (enumL xs).length = xs.length := by simp [enumL]

/-! ### what is drawn from the script -/
def primes : List Int := [1000003, 1000033, 1000037, 1000039, 1000081, 1000099, 1000117, 1000121, 1000133, 1000151, 1000159, 1000171, 1000183, 1000187, 1000193, 1000199]
theorem primes_at (k : Nat) (hk : k < 16) : ∃ p, primes[k]? = some p ∧ 1000003 ≤ p := by
  have : ∀ k : Fin 16, ∃ p, primes[k.val]? = some p ∧ 1000003 ≤ p := by
    intro k
    have h : k.val < primes.length := k.isLt
    refine ⟨primes[k.val], List.getElem?_eq_getElem h, ?_⟩
    have : ∀ p ∈ primes, (1000003 : Int) ≤ p := by decide
    exact this _ (List.getElem_mem h)
  exact this ⟨k, hk⟩
theorem F_l_draw_eq {c k b : Int} (h0 : 0 ≤ c) (h1 : c < 10 ^ 14) (h2 : 0 ≤ k) (h3 : k ≤ 100) (hb : 0 < b) (h : MH) : ∃ z, F_l_draw [.int c, .int k, .int b] h = .ok (.int z) h ∧ 0 ≤ z ∧ z < b := by
  unfold F_l_draw m_l_draw
  have a1 : CMulB c 48271 = true := cmul_ok (a := 48) (b := 20) (by omega) (by decide) (by decide) (by decide) (by decide)
  have a2 : CMulB k 69621 = true := cmul_ok (a := 8) (b := 20) (by omega) (by decide) (by decide) (by decide) (by decide)
  have a3 : (0 : Int) < 16 := by decide
  obtain ⟨p, e1, hp⟩ := primes_at (k % 16).toNat (by omega)
  have e2 : (k % 16) = (((k % 16).toNat : Nat) : Int) := by omega
  have e3 : atI (primes.map MV.int) (k % 16) = some (.int p) := by
    rw [e2]
    refine at_nat ?_
    rw [List.getElem?_map, e1]
    rfl
  have e4 : [MV.int 1000003, .int 1000033, .int 1000037, .int 1000039, .int 1000081, .int 1000099, .int 1000117, .int 1000121, .int 1000133, .int 1000151, .int 1000159, .int 1000171, .int 1000183, .int 1000187, .int 1000193, .int 1000199] = primes.map MV.int := rfl
  have hp0 : 0 < p := by omega
  have hc : ∀ m, m ≤ 16 → m ≤ cap := fun m hm => by unfold cap; omega
  simp only [Mv.mDef, Mv.mSeq, Mv.mSet, Mv.mRet, Mv.mRetN, Mv.mIfS, Mv.mVar, Mv.mC, Mv.mBin, Mv.mChain, Mv.mCall, Mv.mDo, Mv.mCons, Mv.mNil, Mv.mAndV, Mv.mOrV, Mv.mNotV, Mv.mAsB, Mv.mAndT, Mv.mOrT, Mv.mNotT, Mv.mIf, Mv.mTup, Mv.mLst, Mv.mNext, Mv.mBad, Mv.mDrop, Mv.mPar, Mv.mAsg, Mv.mStore, Mv.mNeg, Mv.fNeg, Mv.mYes, Mv.mNoP, Mv.mPart, Mv.mSl, Mv.fI, Mv.fAdd, Mv.fSub, Mv.fMul, Mv.fMod, Mv.fDiv, Mv.fPow, Mv.fLt, Mv.fLe, Mv.fGt, Mv.fGe, Mv.yes2, Mv.fIsN, Mv.fNotN, Mv.isNon, Mv.fIx, Mv.items_tup, Mv.items_new, Mv.list_new, Mv.lstOf_new, Mv.fEq_int, Mv.fNe_int, Mv.fLen_tup, Mv.fMax2, Mv.fMin2, Mv.fInt, Mv.fAbs, Mv.mIsi, Mv.isT, Mv.gN, Mv.gT, Mv.setAll, Mv.wipeM, Mv.R.bind_ok, Mv.R.bind_bad, Mv.R.noX_ok, Mv.R.andS_ok, Mv.R.andS_bad, Mv.S.andS_nx, Mv.S.andS_rt, Mv.S.andS_bad, Mv.S.andS_bk, Mv.S.andS_ct, List.map_cons, List.map_nil, List.cons_append, List.nil_append, List.append_nil, List.replicate_succ, List.replicate_zero, List.length_cons, List.length_nil, List.set_cons_zero, List.set_cons_succ, List.getElem?_cons_zero, List.getElem?_cons_succ, List.getElem?_nil, Nat.reduceAdd, Nat.reduceSub, Nat.reduceEqDiff, Nat.reduceLeDiff, Nat.zero_add, if_true, if_false, Bool.not_true, Bool.not_false, Bool.false_eq_true, decide_true, decide_false, ite_true, ite_false, Option.some.injEq, reduceIte, a1, a2, a3, hc _ (Nat.le_refl 16)]
  rw [e4, e3]
  simp only [Mv.mDef, Mv.mSeq, Mv.mSet, Mv.mRet, Mv.mRetN, Mv.mIfS, Mv.mVar, Mv.mC, Mv.mBin, Mv.mChain, Mv.mCall, Mv.mDo, Mv.mCons, Mv.mNil, Mv.mAndV, Mv.mOrV, Mv.mNotV, Mv.mAsB, Mv.mAndT, Mv.mOrT, Mv.mNotT, Mv.mIf, Mv.mTup, Mv.mLst, Mv.mNext, Mv.mBad, Mv.mDrop, Mv.mPar, Mv.mAsg, Mv.mStore, Mv.mNeg, Mv.fNeg, Mv.mYes, Mv.mNoP, Mv.mPart, Mv.mSl, Mv.fI, Mv.fAdd, Mv.fSub, Mv.fMul, Mv.fMod, Mv.fDiv, Mv.fPow, Mv.fLt, Mv.fLe, Mv.fGt, Mv.fGe, Mv.yes2, Mv.fIsN, Mv.fNotN, Mv.isNon, Mv.fIx, Mv.items_tup, Mv.items_new, Mv.list_new, Mv.lstOf_new, Mv.fEq_int, Mv.fNe_int, Mv.fLen_tup, Mv.fMax2, Mv.fMin2, Mv.fInt, Mv.fAbs, Mv.mIsi, Mv.isT, Mv.gN, Mv.gT, Mv.setAll, Mv.wipeM, Mv.R.bind_ok, Mv.R.bind_bad, Mv.R.noX_ok, Mv.R.andS_ok, Mv.R.andS_bad, Mv.S.andS_nx, Mv.S.andS_rt, Mv.S.andS_bad, Mv.S.andS_bk, Mv.S.andS_ct, List.map_cons, List.map_nil, List.cons_append, List.nil_append, List.append_nil, List.replicate_succ, List.replicate_zero, List.length_cons, List.length_nil, List.set_cons_zero, List.set_cons_succ, List.getElem?_cons_zero, List.getElem?_cons_succ, List.getElem?_nil, Nat.reduceAdd, Nat.reduceSub, Nat.reduceEqDiff, Nat.reduceLeDiff, Nat.zero_add, if_true, if_false, Bool.not_true, Bool.not_false, Bool.false_eq_true, decide_true, decide_false, ite_true, ite_false, Option.some.injEq, reduceIte, hp0, hb]
  exact ⟨_, rfl, Int.emod_nonneg _ (by omega), Int.emod_lt_of_pos _ hb⟩
theorem log2_lt {i : Int} {a : Nat} (h : 0 < a) (hi : i.natAbs < 2 ^ a) : i.natAbs.log2 < a := PySem.Flt.log2_lt_of h hi
/-- a script in the heap -/
def HasScript (h : MH) (s : Nat) (ns : List Int) : Prop := h[s]? = some (.lst (ivs ns)) ∨ h[s]? = some (.frz (ivs ns))
theorem HasScript.items {h : MH} {s : Nat} {ns : List Int} (q : HasScript h s ns) : itemsOf h (.ref s) = some (ivs ns) := by
  rcases q with e | e
  · exact items_at e
  · exact items_atf e
/-- what is drawn from -/
def drawO (s : Nat) (b k : Int) : MO := .lst [.ref s, .int b, .int k]

/-! ### heaps that go on, but for one list -/
def Ext (n : Nat) (h h' : MH) : Prop := h.length ≤ h'.length ∧ ∀ m, m < h.length → m ≠ n → h'[m]? = h[m]?
theorem Ext.refl {n : Nat} {h : MH} : Ext n h h := ⟨Nat.le_refl _, fun _ _ _ => rfl⟩
theorem Ext.trans {n : Nat} {h h' h'' : MH} (e : Ext n h h') (f : Ext n h' h'') : Ext n h h'' := ⟨Nat.le_trans e.1 f.1, fun m hm hn => (f.2 m (Nat.lt_of_lt_of_le hm e.1) hn).trans (e.2 m hm hn)⟩
theorem Ext.app {n : Nat} {h h' g : MH} (e : Ext n h h') : Ext n h (h' ++ g) := ⟨by rw [List.length_append]; exact Nat.le_trans e.1 (Nat.le_add_right _ _), fun m hm hn => by
  rw [List.getElem?_append_left (Nat.lt_of_lt_of_le hm e.1)]
  exact e.2 m hm hn⟩
theorem Ext.set {n : Nat} {h h' : MH} {o : MO} (e : Ext n h h') : Ext n h (h'.set n o) := ⟨by rw [List.length_set]; exact e.1, fun m hm hn => by
  rw [List.getElem?_set_ne (fun z => hn z.symm)]
  exact e.2 m hm hn⟩
theorem Ext.set' {n p : Nat} {h h' : MH} {o : MO} (e : Ext n h h') (hp : h.length ≤ p) : Ext n h (h'.set p o) := ⟨by rw [List.length_set]; exact e.1, fun m hm hn => by
  rw [List.getElem?_set_ne (by omega)]
  exact e.2 m hm hn⟩
theorem Ext.look {n m : Nat} {h h' : MH} {o : MO} (e : Ext n h h') (q : h[m]? = some o) (hn : m ≠ n) : h'[m]? = some o := (e.2 m (List.getElem?_eq_some_iff.mp q).1 hn).trans q
theorem Ext.script {n m : Nat} {h h' : MH} {ns : List Int} (e : Ext n h h') (q : HasScript h m ns) (hn : m ≠ n) : HasScript h' m ns := q.elim (fun q => .inl (e.look q hn)) fun q => .inr (e.look q hn)
/-- the list n draws: it has drawn k times -/
structure Draw (ns : List Int) (s n : Nat) (h : MH) (k : Nat) : Prop where
  scr : HasScript h s ns
  ne : s ≠ n
  at' : ∃ b : Nat, h[n]? = some (drawO s b k)
theorem Draw.lt {ns : List Int} {s n k : Nat} {h : MH} (d : Draw ns s n h k) : n < h.length := by
  obtain ⟨b, e⟩ := d.at'
  exact (List.getElem?_eq_some_iff.mp e).1
theorem HasScript.app {h g : MH} {s : Nat} {ns : List Int} (q : HasScript h s ns) : HasScript (h ++ g) s ns := q.elim (fun q => .inl (look_app q)) fun q => .inr (look_app q)
theorem Draw.app {ns : List Int} {s n k : Nat} {h g : MH} (d : Draw ns s n h k) : Draw ns s n (h ++ g) k := ⟨d.scr.app, d.ne, d.at'.imp fun _ e => look_app e⟩
theorem HasScript.lt {h : MH} {s : Nat} {ns : List Int} (q : HasScript h s ns) : s < h.length := q.elim (fun q => (List.getElem?_eq_some_iff.mp q).1) fun q => (List.getElem?_eq_some_iff.mp q).1
theorem Draw.set {ns : List Int} {s n k p : Nat} {h : MH} {o : MO} (d : Draw ns s n h k) (hs : s ≠ p) (hn : n ≠ p) : Draw ns s n (h.set p o) k := ⟨d.scr.elim (fun q => .inl (by rw [List.getElem?_set_ne (fun z => hs z.symm)]; exact q)) fun q => .inr (by rw [List.getElem?_set_ne (fun z => hs z.symm)]; exact q), d.ne, d.at'.imp fun _ e => by rw [List.getElem?_set_ne (fun z => hn z.symm)]; exact e⟩

theorem ins_new (h : MH) (c : Nat) (vs : List MV) : insOf (h ++ [.ins c vs]) (.ref h.length) = some (c, vs) := by
  unfold insOf
  simp
theorem set_new (h : MH) (o o' : MO) : (h ++ [o]).set h.length o' = h ++ [o'] := by simp
theorem ins_at {h : MH} {n c : Nat} {vs : List MV} (e : h[n]? = some (.ins c vs)) : insOf h (.ref n) = some (c, vs) := by
  unfold insOf
  simp only [e]
structure Plan where
  far : Int
  least : Int
  p : Int
  q : Int
  many : Int
structure Plan.Ok (P : Plan) : Prop where
  f0 : 0 ≤ P.far
  f6 : P.far ≤ 6
  b0 : 0 ≤ P.least
  b3 : P.least ≤ 3
  p0 : 0 ≤ P.p
  p4 : P.p ≤ 4
  q1 : 1 ≤ P.q
  q4 : P.q ≤ 4
  hor : P.far + P.least + P.far * P.p / P.q ≤ 9
  m1 : 1 ≤ P.many
  m2 : P.many ≤ 2
def promO (P : Plan) : MO := .ins 0 [.int P.far, .int P.least, .tup [.int P.p, .int P.q], .int P.many]
def HasP (h : MH) (n : Nat) (P : Plan) : Prop := h[n]? = some (promO P)
theorem HasP.ins {h : MH} {n : Nat} {P : Plan} (e : HasP h n P) : insOf h (.ref n) = some (0, [.int P.far, .int P.least, .tup [.int P.p, .int P.q], .int P.many]) := ins_at e
theorem HasP.app {h g : MH} {n : Nat} {P : Plan} (e : HasP h n P) : HasP (h ++ g) n P := look_app e
theorem HasP.uniq {h : MH} {n : Nat} {P Q : Plan} (e : HasP h n P) (f : HasP h n Q) : P = Q := by
  unfold HasP promO at e f
  rw [e] at f
  obtain ⟨a, b, c, d, e⟩ := P
  obtain ⟨a', b', c', d', e'⟩ := Q
  simp only [Option.some.injEq, MO.ins.injEq, List.cons.injEq, MV.int.injEq, MV.tup.injEq, and_true, true_and] at f
  obtain ⟨rfl, rfl, ⟨rfl, rfl⟩, rfl⟩ := f
  rfl
def slack (P : Plan) (a : Int) : Int := P.least + a * P.p / P.q
def horizon (P : Plan) : Int := P.far + slack P P.far
theorem mul_small {a b : Int} (ha : -1000 ≤ a ∧ a ≤ 1000) (hb : -1000 ≤ b ∧ b ≤ 1000) : CMulB a b = true := cmul_ok (a := 10) (b := 10) (by omega) (by omega) (by decide) (by decide) (by decide)
theorem div_small {a b : Int} (hb : 0 < b ∧ b ≤ 1000) : CDivB a b = true := decide_eq_true ⟨hb.1, by
  have := log2_lt (a := 10) (by decide) (show b.natAbs < 2 ^ 10 by omega)
  omega⟩
theorem Plan.Ok.hor9 {P : Plan} (k : P.Ok) : horizon P ≤ 9 := by
  have := k.hor
  unfold horizon slack
  omega
theorem Plan.Ok.hor0 {P : Plan} (k : P.Ok) : 0 ≤ horizon P := by
  have h1 : 0 ≤ P.far * P.p / P.q := Int.ediv_nonneg (Int.mul_nonneg k.f0 k.p0) (by have := k.q1; omega)
  have := k.f0; have := k.b0
  unfold horizon slack
  omega
theorem F_slack_at_eq {h : MH} {n : Nat} {P : Plan} (e : HasP h n P) (k : P.Ok) {a : Int} (h0 : 0 ≤ a) (h1 : a ≤ 100) : F_slack_at [.ref n, .int a] h = .ok (.int (slack P a)) h := by
  unfold F_slack_at m_slack_at
  have c1 : CMulB a P.p = true := by have := k.p0; have := k.p4; exact mul_small (by omega) (by omega)
  have c2 : CDivB (a * P.p) P.q = true := by have := k.q1; have := k.q4; exact div_small (by omega)
  have e2 : atI [MV.int P.p, MV.int P.q] 1 = some (.int P.q) := rfl
  simp only [Mv.mDef, Mv.mSeq, Mv.mSet, Mv.mRet, Mv.mRetN, Mv.mIfS, Mv.mVar, Mv.mC, Mv.mBin, Mv.mChain, Mv.mCall, Mv.mDo, Mv.mCons, Mv.mNil, Mv.mAndV, Mv.mOrV, Mv.mNotV, Mv.mAsB, Mv.mAndT, Mv.mOrT, Mv.mNotT, Mv.mIf, Mv.mTup, Mv.mLst, Mv.mNext, Mv.mBad, Mv.mDrop, Mv.mPar, Mv.mAsg, Mv.mStore, Mv.mNeg, Mv.fNeg, Mv.mYes, Mv.mNoP, Mv.mPart, Mv.mSl, Mv.fI, Mv.fAdd, Mv.fSub, Mv.fMul, Mv.fMod, Mv.fDiv, Mv.fPow, Mv.fLt, Mv.fLe, Mv.fGt, Mv.fGe, Mv.yes2, Mv.fIsN, Mv.fNotN, Mv.isNon, Mv.fIx, Mv.items_tup, Mv.items_new, Mv.list_new, Mv.lstOf_new, Mv.fEq_int, Mv.fNe_int, Mv.fLen_tup, Mv.fMax2, Mv.fMin2, Mv.fInt, Mv.fAbs, Mv.mIsi, Mv.isT, Mv.gN, Mv.gT, Mv.setAll, Mv.wipeM, Mv.R.bind_ok, Mv.R.bind_bad, Mv.R.noX_ok, Mv.R.andS_ok, Mv.R.andS_bad, Mv.S.andS_nx, Mv.S.andS_rt, Mv.S.andS_bad, Mv.S.andS_bk, Mv.S.andS_ct, List.map_cons, List.map_nil, List.cons_append, List.nil_append, List.append_nil, List.replicate_succ, List.replicate_zero, List.length_cons, List.length_nil, List.set_cons_zero, List.set_cons_succ, List.getElem?_cons_zero, List.getElem?_cons_succ, List.getElem?_nil, Nat.reduceAdd, Nat.reduceSub, Nat.reduceEqDiff, Nat.reduceLeDiff, Nat.zero_add, if_true, if_false, Bool.not_true, Bool.not_false, Bool.false_eq_true, decide_true, decide_false, ite_true, ite_false, Option.some.injEq, reduceIte, Mv.mFld, Mv.mIsC, Mv.mMeth, Mv.mMake, Mv.mMakeK, Mv.mEqB, Mv.boolR, Mv.mRev, List.lookup_cons, List.lookup_nil, Nat.reduceBEq, beq_self_eq_true, Mv.ins_new, Mv.set_new, e.ins, at_zero, e2, c1, c2]
  rfl
theorem F_horizon_of_eq {h : MH} {n : Nat} {P : Plan} (e : HasP h n P) (k : P.Ok) : F_horizon_of F_slack_at [.ref n] h = .ok (.int (horizon P)) h := by
  unfold F_horizon_of m_horizon_of
  simp only [Mv.mDef, Mv.mSeq, Mv.mSet, Mv.mRet, Mv.mRetN, Mv.mIfS, Mv.mVar, Mv.mC, Mv.mBin, Mv.mChain, Mv.mCall, Mv.mDo, Mv.mCons, Mv.mNil, Mv.mAndV, Mv.mOrV, Mv.mNotV, Mv.mAsB, Mv.mAndT, Mv.mOrT, Mv.mNotT, Mv.mIf, Mv.mTup, Mv.mLst, Mv.mNext, Mv.mBad, Mv.mDrop, Mv.mPar, Mv.mAsg, Mv.mStore, Mv.mNeg, Mv.fNeg, Mv.mYes, Mv.mNoP, Mv.mPart, Mv.mSl, Mv.fI, Mv.fAdd, Mv.fSub, Mv.fMul, Mv.fMod, Mv.fDiv, Mv.fPow, Mv.fLt, Mv.fLe, Mv.fGt, Mv.fGe, Mv.yes2, Mv.fIsN, Mv.fNotN, Mv.isNon, Mv.fIx, Mv.items_tup, Mv.items_new, Mv.list_new, Mv.lstOf_new, Mv.fEq_int, Mv.fNe_int, Mv.fLen_tup, Mv.fMax2, Mv.fMin2, Mv.fInt, Mv.fAbs, Mv.mIsi, Mv.isT, Mv.gN, Mv.gT, Mv.setAll, Mv.wipeM, Mv.R.bind_ok, Mv.R.bind_bad, Mv.R.noX_ok, Mv.R.andS_ok, Mv.R.andS_bad, Mv.S.andS_nx, Mv.S.andS_rt, Mv.S.andS_bad, Mv.S.andS_bk, Mv.S.andS_ct, List.map_cons, List.map_nil, List.cons_append, List.nil_append, List.append_nil, List.replicate_succ, List.replicate_zero, List.length_cons, List.length_nil, List.set_cons_zero, List.set_cons_succ, List.getElem?_cons_zero, List.getElem?_cons_succ, List.getElem?_nil, Nat.reduceAdd, Nat.reduceSub, Nat.reduceEqDiff, Nat.reduceLeDiff, Nat.zero_add, if_true, if_false, Bool.not_true, Bool.not_false, Bool.false_eq_true, decide_true, decide_false, ite_true, ite_false, Option.some.injEq, reduceIte, Mv.mFld, Mv.mIsC, Mv.mMeth, Mv.mMake, Mv.mMakeK, Mv.mEqB, Mv.boolR, Mv.mRev, List.lookup_cons, List.lookup_nil, Nat.reduceBEq, beq_self_eq_true, Mv.ins_new, Mv.set_new, e.ins, F_slack_at_eq e k k.f0 (by have := k.f6; omega)]
  rfl
theorem F_check_promise_eq {h : MH} {n : Nat} {P : Plan} (e : HasP h n P) : F_check_promise [.ref n] h = .ok .non h := by
  unfold F_check_promise m_check_promise
  simp only [Mv.mDef, Mv.mSeq, Mv.mSet, Mv.mRet, Mv.mRetN, Mv.mIfS, Mv.mVar, Mv.mC, Mv.mBin, Mv.mChain, Mv.mCall, Mv.mDo, Mv.mCons, Mv.mNil, Mv.mAndV, Mv.mOrV, Mv.mNotV, Mv.mAsB, Mv.mAndT, Mv.mOrT, Mv.mNotT, Mv.mIf, Mv.mTup, Mv.mLst, Mv.mNext, Mv.mBad, Mv.mDrop, Mv.mPar, Mv.mAsg, Mv.mStore, Mv.mNeg, Mv.fNeg, Mv.mYes, Mv.mNoP, Mv.mPart, Mv.mSl, Mv.fI, Mv.fAdd, Mv.fSub, Mv.fMul, Mv.fMod, Mv.fDiv, Mv.fPow, Mv.fLt, Mv.fLe, Mv.fGt, Mv.fGe, Mv.yes2, Mv.fIsN, Mv.fNotN, Mv.isNon, Mv.fIx, Mv.items_tup, Mv.items_new, Mv.list_new, Mv.lstOf_new, Mv.fEq_int, Mv.fNe_int, Mv.fLen_tup, Mv.fMax2, Mv.fMin2, Mv.fInt, Mv.fAbs, Mv.mIsi, Mv.isT, Mv.gN, Mv.gT, Mv.setAll, Mv.wipeM, Mv.R.bind_ok, Mv.R.bind_bad, Mv.R.noX_ok, Mv.R.andS_ok, Mv.R.andS_bad, Mv.S.andS_nx, Mv.S.andS_rt, Mv.S.andS_bad, Mv.S.andS_bk, Mv.S.andS_ct, List.map_cons, List.map_nil, List.cons_append, List.nil_append, List.append_nil, List.replicate_succ, List.replicate_zero, List.length_cons, List.length_nil, List.set_cons_zero, List.set_cons_succ, List.getElem?_cons_zero, List.getElem?_cons_succ, List.getElem?_nil, Nat.reduceAdd, Nat.reduceSub, Nat.reduceEqDiff, Nat.reduceLeDiff, Nat.zero_add, if_true, if_false, Bool.not_true, Bool.not_false, Bool.false_eq_true, decide_true, decide_false, ite_true, ite_false, Option.some.injEq, reduceIte, Mv.mFld, Mv.mIsC, Mv.mMeth, Mv.mMake, Mv.mMakeK, Mv.mEqB, Mv.boolR, Mv.mRev, List.lookup_cons, List.lookup_nil, Nat.reduceBEq, beq_self_eq_true, Mv.ins_new, Mv.set_new, e.ins]
theorem F_Promise_reach_eq {h : MH} {n : Nat} {P : Plan} (e : HasP h n P) : F_Promise_reach [.ref n] h = .ok (.int P.far) h := by
  unfold F_Promise_reach m_Promise_reach
  simp only [Mv.mDef, Mv.mSeq, Mv.mSet, Mv.mRet, Mv.mRetN, Mv.mIfS, Mv.mVar, Mv.mC, Mv.mBin, Mv.mChain, Mv.mCall, Mv.mDo, Mv.mCons, Mv.mNil, Mv.mAndV, Mv.mOrV, Mv.mNotV, Mv.mAsB, Mv.mAndT, Mv.mOrT, Mv.mNotT, Mv.mIf, Mv.mTup, Mv.mLst, Mv.mNext, Mv.mBad, Mv.mDrop, Mv.mPar, Mv.mAsg, Mv.mStore, Mv.mNeg, Mv.fNeg, Mv.mYes, Mv.mNoP, Mv.mPart, Mv.mSl, Mv.fI, Mv.fAdd, Mv.fSub, Mv.fMul, Mv.fMod, Mv.fDiv, Mv.fPow, Mv.fLt, Mv.fLe, Mv.fGt, Mv.fGe, Mv.yes2, Mv.fIsN, Mv.fNotN, Mv.isNon, Mv.fIx, Mv.items_tup, Mv.items_new, Mv.list_new, Mv.lstOf_new, Mv.fEq_int, Mv.fNe_int, Mv.fLen_tup, Mv.fMax2, Mv.fMin2, Mv.fInt, Mv.fAbs, Mv.mIsi, Mv.isT, Mv.gN, Mv.gT, Mv.setAll, Mv.wipeM, Mv.R.bind_ok, Mv.R.bind_bad, Mv.R.noX_ok, Mv.R.andS_ok, Mv.R.andS_bad, Mv.S.andS_nx, Mv.S.andS_rt, Mv.S.andS_bad, Mv.S.andS_bk, Mv.S.andS_ct, List.map_cons, List.map_nil, List.cons_append, List.nil_append, List.append_nil, List.replicate_succ, List.replicate_zero, List.length_cons, List.length_nil, List.set_cons_zero, List.set_cons_succ, List.getElem?_cons_zero, List.getElem?_cons_succ, List.getElem?_nil, Nat.reduceAdd, Nat.reduceSub, Nat.reduceEqDiff, Nat.reduceLeDiff, Nat.zero_add, if_true, if_false, Bool.not_true, Bool.not_false, Bool.false_eq_true, decide_true, decide_false, ite_true, ite_false, Option.some.injEq, reduceIte, Mv.mFld, Mv.mIsC, Mv.mMeth, Mv.mMake, Mv.mMakeK, Mv.mEqB, Mv.boolR, Mv.mRev, List.lookup_cons, List.lookup_nil, Nat.reduceBEq, beq_self_eq_true, Mv.ins_new, Mv.set_new, e.ins]
theorem F_Promise_base_eq {h : MH} {n : Nat} {P : Plan} (e : HasP h n P) : F_Promise_base [.ref n] h = .ok (.int P.least) h := by
  unfold F_Promise_base m_Promise_base
  simp only [Mv.mDef, Mv.mSeq, Mv.mSet, Mv.mRet, Mv.mRetN, Mv.mIfS, Mv.mVar, Mv.mC, Mv.mBin, Mv.mChain, Mv.mCall, Mv.mDo, Mv.mCons, Mv.mNil, Mv.mAndV, Mv.mOrV, Mv.mNotV, Mv.mAsB, Mv.mAndT, Mv.mOrT, Mv.mNotT, Mv.mIf, Mv.mTup, Mv.mLst, Mv.mNext, Mv.mBad, Mv.mDrop, Mv.mPar, Mv.mAsg, Mv.mStore, Mv.mNeg, Mv.fNeg, Mv.mYes, Mv.mNoP, Mv.mPart, Mv.mSl, Mv.fI, Mv.fAdd, Mv.fSub, Mv.fMul, Mv.fMod, Mv.fDiv, Mv.fPow, Mv.fLt, Mv.fLe, Mv.fGt, Mv.fGe, Mv.yes2, Mv.fIsN, Mv.fNotN, Mv.isNon, Mv.fIx, Mv.items_tup, Mv.items_new, Mv.list_new, Mv.lstOf_new, Mv.fEq_int, Mv.fNe_int, Mv.fLen_tup, Mv.fMax2, Mv.fMin2, Mv.fInt, Mv.fAbs, Mv.mIsi, Mv.isT, Mv.gN, Mv.gT, Mv.setAll, Mv.wipeM, Mv.R.bind_ok, Mv.R.bind_bad, Mv.R.noX_ok, Mv.R.andS_ok, Mv.R.andS_bad, Mv.S.andS_nx, Mv.S.andS_rt, Mv.S.andS_bad, Mv.S.andS_bk, Mv.S.andS_ct, List.map_cons, List.map_nil, List.cons_append, List.nil_append, List.append_nil, List.replicate_succ, List.replicate_zero, List.length_cons, List.length_nil, List.set_cons_zero, List.set_cons_succ, List.getElem?_cons_zero, List.getElem?_cons_succ, List.getElem?_nil, Nat.reduceAdd, Nat.reduceSub, Nat.reduceEqDiff, Nat.reduceLeDiff, Nat.zero_add, if_true, if_false, Bool.not_true, Bool.not_false, Bool.false_eq_true, decide_true, decide_false, ite_true, ite_false, Option.some.injEq, reduceIte, Mv.mFld, Mv.mIsC, Mv.mMeth, Mv.mMake, Mv.mMakeK, Mv.mEqB, Mv.boolR, Mv.mRev, List.lookup_cons, List.lookup_nil, Nat.reduceBEq, beq_self_eq_true, Mv.ins_new, Mv.set_new, e.ins]
theorem F_Promise_share_eq {h : MH} {n : Nat} {P : Plan} (e : HasP h n P) : F_Promise_share [.ref n] h = .ok (.tup [.int P.p, .int P.q]) h := by
  unfold F_Promise_share m_Promise_share
  simp only [Mv.mDef, Mv.mSeq, Mv.mSet, Mv.mRet, Mv.mRetN, Mv.mIfS, Mv.mVar, Mv.mC, Mv.mBin, Mv.mChain, Mv.mCall, Mv.mDo, Mv.mCons, Mv.mNil, Mv.mAndV, Mv.mOrV, Mv.mNotV, Mv.mAsB, Mv.mAndT, Mv.mOrT, Mv.mNotT, Mv.mIf, Mv.mTup, Mv.mLst, Mv.mNext, Mv.mBad, Mv.mDrop, Mv.mPar, Mv.mAsg, Mv.mStore, Mv.mNeg, Mv.fNeg, Mv.mYes, Mv.mNoP, Mv.mPart, Mv.mSl, Mv.fI, Mv.fAdd, Mv.fSub, Mv.fMul, Mv.fMod, Mv.fDiv, Mv.fPow, Mv.fLt, Mv.fLe, Mv.fGt, Mv.fGe, Mv.yes2, Mv.fIsN, Mv.fNotN, Mv.isNon, Mv.fIx, Mv.items_tup, Mv.items_new, Mv.list_new, Mv.lstOf_new, Mv.fEq_int, Mv.fNe_int, Mv.fLen_tup, Mv.fMax2, Mv.fMin2, Mv.fInt, Mv.fAbs, Mv.mIsi, Mv.isT, Mv.gN, Mv.gT, Mv.setAll, Mv.wipeM, Mv.R.bind_ok, Mv.R.bind_bad, Mv.R.noX_ok, Mv.R.andS_ok, Mv.R.andS_bad, Mv.S.andS_nx, Mv.S.andS_rt, Mv.S.andS_bad, Mv.S.andS_bk, Mv.S.andS_ct, List.map_cons, List.map_nil, List.cons_append, List.nil_append, List.append_nil, List.replicate_succ, List.replicate_zero, List.length_cons, List.length_nil, List.set_cons_zero, List.set_cons_succ, List.getElem?_cons_zero, List.getElem?_cons_succ, List.getElem?_nil, Nat.reduceAdd, Nat.reduceSub, Nat.reduceEqDiff, Nat.reduceLeDiff, Nat.zero_add, if_true, if_false, Bool.not_true, Bool.not_false, Bool.false_eq_true, decide_true, decide_false, ite_true, ite_false, Option.some.injEq, reduceIte, Mv.mFld, Mv.mIsC, Mv.mMeth, Mv.mMake, Mv.mMakeK, Mv.mEqB, Mv.boolR, Mv.mRev, List.lookup_cons, List.lookup_nil, Nat.reduceBEq, beq_self_eq_true, Mv.ins_new, Mv.set_new, e.ins]
theorem F_Promise_copies_eq {h : MH} {n : Nat} {P : Plan} (e : HasP h n P) : F_Promise_copies [.ref n] h = .ok (.int P.many) h := by
  unfold F_Promise_copies m_Promise_copies
  simp only [Mv.mDef, Mv.mSeq, Mv.mSet, Mv.mRet, Mv.mRetN, Mv.mIfS, Mv.mVar, Mv.mC, Mv.mBin, Mv.mChain, Mv.mCall, Mv.mDo, Mv.mCons, Mv.mNil, Mv.mAndV, Mv.mOrV, Mv.mNotV, Mv.mAsB, Mv.mAndT, Mv.mOrT, Mv.mNotT, Mv.mIf, Mv.mTup, Mv.mLst, Mv.mNext, Mv.mBad, Mv.mDrop, Mv.mPar, Mv.mAsg, Mv.mStore, Mv.mNeg, Mv.fNeg, Mv.mYes, Mv.mNoP, Mv.mPart, Mv.mSl, Mv.fI, Mv.fAdd, Mv.fSub, Mv.fMul, Mv.fMod, Mv.fDiv, Mv.fPow, Mv.fLt, Mv.fLe, Mv.fGt, Mv.fGe, Mv.yes2, Mv.fIsN, Mv.fNotN, Mv.isNon, Mv.fIx, Mv.items_tup, Mv.items_new, Mv.list_new, Mv.lstOf_new, Mv.fEq_int, Mv.fNe_int, Mv.fLen_tup, Mv.fMax2, Mv.fMin2, Mv.fInt, Mv.fAbs, Mv.mIsi, Mv.isT, Mv.gN, Mv.gT, Mv.setAll, Mv.wipeM, Mv.R.bind_ok, Mv.R.bind_bad, Mv.R.noX_ok, Mv.R.andS_ok, Mv.R.andS_bad, Mv.S.andS_nx, Mv.S.andS_rt, Mv.S.andS_bad, Mv.S.andS_bk, Mv.S.andS_ct, List.map_cons, List.map_nil, List.cons_append, List.nil_append, List.append_nil, List.replicate_succ, List.replicate_zero, List.length_cons, List.length_nil, List.set_cons_zero, List.set_cons_succ, List.getElem?_cons_zero, List.getElem?_cons_succ, List.getElem?_nil, Nat.reduceAdd, Nat.reduceSub, Nat.reduceEqDiff, Nat.reduceLeDiff, Nat.zero_add, if_true, if_false, Bool.not_true, Bool.not_false, Bool.false_eq_true, decide_true, decide_false, ite_true, ite_false, Option.some.injEq, reduceIte, Mv.mFld, Mv.mIsC, Mv.mMeth, Mv.mMake, Mv.mMakeK, Mv.mEqB, Mv.boolR, Mv.mRev, List.lookup_cons, List.lookup_nil, Nat.reduceBEq, beq_self_eq_true, Mv.ins_new, Mv.set_new, e.ins]
theorem F_is_share_eq {p q : Int} (h0 : 0 ≤ p) (h1 : p ≤ 4) (h2 : 1 ≤ q) (h3 : q ≤ 4) (h : MH) : F_is_share F_is_integer [.tup [.int p, .int q]] h = .ok (.bl true) h := by
  unfold F_is_share m_is_share
  have a1 : decide (0 ≤ p ∧ p ≤ 4) = true := decide_eq_true ⟨h0, h1⟩
  have a2 : decide (1 ≤ q ∧ q ≤ 4) = true := decide_eq_true ⟨h2, h3⟩
  have e1 : ((2 : Nat) : Int) = 2 := rfl
  have e2 : atI [MV.int p, MV.int q] 1 = some (.int q) := rfl
  simp only [Mv.mDef, Mv.mSeq, Mv.mSet, Mv.mRet, Mv.mRetN, Mv.mIfS, Mv.mVar, Mv.mC, Mv.mBin, Mv.mChain, Mv.mCall, Mv.mDo, Mv.mCons, Mv.mNil, Mv.mAndV, Mv.mOrV, Mv.mNotV, Mv.mAsB, Mv.mAndT, Mv.mOrT, Mv.mNotT, Mv.mIf, Mv.mTup, Mv.mLst, Mv.mNext, Mv.mBad, Mv.mDrop, Mv.mPar, Mv.mAsg, Mv.mStore, Mv.mNeg, Mv.fNeg, Mv.mYes, Mv.mNoP, Mv.mPart, Mv.mSl, Mv.fI, Mv.fAdd, Mv.fSub, Mv.fMul, Mv.fMod, Mv.fDiv, Mv.fPow, Mv.fLt, Mv.fLe, Mv.fGt, Mv.fGe, Mv.yes2, Mv.fIsN, Mv.fNotN, Mv.isNon, Mv.fIx, Mv.items_tup, Mv.items_new, Mv.list_new, Mv.lstOf_new, Mv.fEq_int, Mv.fNe_int, Mv.fLen_tup, Mv.fMax2, Mv.fMin2, Mv.fInt, Mv.fAbs, Mv.mIsi, Mv.isT, Mv.gN, Mv.gT, Mv.setAll, Mv.wipeM, Mv.R.bind_ok, Mv.R.bind_bad, Mv.R.noX_ok, Mv.R.andS_ok, Mv.R.andS_bad, Mv.S.andS_nx, Mv.S.andS_rt, Mv.S.andS_bad, Mv.S.andS_bk, Mv.S.andS_ct, List.map_cons, List.map_nil, List.cons_append, List.nil_append, List.append_nil, List.replicate_succ, List.replicate_zero, List.length_cons, List.length_nil, List.set_cons_zero, List.set_cons_succ, List.getElem?_cons_zero, List.getElem?_cons_succ, List.getElem?_nil, Nat.reduceAdd, Nat.reduceSub, Nat.reduceEqDiff, Nat.reduceLeDiff, Nat.zero_add, if_true, if_false, Bool.not_true, Bool.not_false, Bool.false_eq_true, decide_true, decide_false, ite_true, ite_false, Option.some.injEq, reduceIte, Mv.mFld, Mv.mIsC, Mv.mMeth, Mv.mMake, Mv.mMakeK, Mv.mEqB, Mv.boolR, Mv.mRev, List.lookup_cons, List.lookup_nil, Nat.reduceBEq, beq_self_eq_true, Mv.ins_new, Mv.set_new, at_zero, e1, e2, F_is_integer_eq, a1, a2]
noncomputable def G_Promise_init : List MV → MH → R MV := F_Promise_init F_is_integer (F_is_share F_is_integer)
theorem new_promise {P : Plan} (k : P.Ok) (h : MH) : newIns 0 G_Promise_init [.int P.far, .int P.least, .tup [.int P.p, .int P.q], .int P.many] h = .ok (.ref h.length) (h ++ [promO P]) := by
  unfold newIns G_Promise_init F_Promise_init m_Promise_init
  have a1 : decide (0 ≤ P.far ∧ P.far ≤ 6) = true := decide_eq_true ⟨k.f0, k.f6⟩
  have a2 : decide (0 ≤ P.least ∧ P.least ≤ 3) = true := decide_eq_true ⟨k.b0, k.b3⟩
  have a3 : decide (1 ≤ P.many ∧ P.many ≤ 2) = true := decide_eq_true ⟨k.m1, k.m2⟩
  have c1 : CMulB P.far P.p = true := by have := k.p0; have := k.p4; have := k.f0; have := k.f6; exact mul_small (by omega) (by omega)
  have c2 : CDivB (P.far * P.p) P.q = true := by have := k.q1; have := k.q4; exact div_small (by omega)
  have e2 : atI [MV.int P.p, MV.int P.q] 1 = some (.int P.q) := rfl
  have hh : decide (9 < P.far + P.least + P.far * P.p / P.q) = false := decide_eq_false (by have := k.hor; omega)
  simp only [Mv.mDef, Mv.mSeq, Mv.mSet, Mv.mRet, Mv.mRetN, Mv.mIfS, Mv.mVar, Mv.mC, Mv.mBin, Mv.mChain, Mv.mCall, Mv.mDo, Mv.mCons, Mv.mNil, Mv.mAndV, Mv.mOrV, Mv.mNotV, Mv.mAsB, Mv.mAndT, Mv.mOrT, Mv.mNotT, Mv.mIf, Mv.mTup, Mv.mLst, Mv.mNext, Mv.mBad, Mv.mDrop, Mv.mPar, Mv.mAsg, Mv.mStore, Mv.mNeg, Mv.fNeg, Mv.mYes, Mv.mNoP, Mv.mPart, Mv.mSl, Mv.fI, Mv.fAdd, Mv.fSub, Mv.fMul, Mv.fMod, Mv.fDiv, Mv.fPow, Mv.fLt, Mv.fLe, Mv.fGt, Mv.fGe, Mv.yes2, Mv.fIsN, Mv.fNotN, Mv.isNon, Mv.fIx, Mv.items_tup, Mv.items_new, Mv.list_new, Mv.lstOf_new, Mv.fEq_int, Mv.fNe_int, Mv.fLen_tup, Mv.fMax2, Mv.fMin2, Mv.fInt, Mv.fAbs, Mv.mIsi, Mv.isT, Mv.gN, Mv.gT, Mv.setAll, Mv.wipeM, Mv.R.bind_ok, Mv.R.bind_bad, Mv.R.noX_ok, Mv.R.andS_ok, Mv.R.andS_bad, Mv.S.andS_nx, Mv.S.andS_rt, Mv.S.andS_bad, Mv.S.andS_bk, Mv.S.andS_ct, List.map_cons, List.map_nil, List.cons_append, List.nil_append, List.append_nil, List.replicate_succ, List.replicate_zero, List.length_cons, List.length_nil, List.set_cons_zero, List.set_cons_succ, List.getElem?_cons_zero, List.getElem?_cons_succ, List.getElem?_nil, Nat.reduceAdd, Nat.reduceSub, Nat.reduceEqDiff, Nat.reduceLeDiff, Nat.zero_add, if_true, if_false, Bool.not_true, Bool.not_false, Bool.false_eq_true, decide_true, decide_false, ite_true, ite_false, Option.some.injEq, reduceIte, Mv.mFld, Mv.mIsC, Mv.mMeth, Mv.mMake, Mv.mMakeK, Mv.mEqB, Mv.boolR, Mv.mRev, List.lookup_cons, List.lookup_nil, Nat.reduceBEq, beq_self_eq_true, Mv.ins_new, Mv.set_new, Mv.mStF, at_zero, e2, F_is_integer_eq, F_is_share_eq k.p0 k.p4 k.q1 k.q4, a1, a2, a3, c1, c2, hh, Nat.lt_irrefl, Nat.not_lt_zero]
  rfl


/-! ### specs of what asks a promise -/
noncomputable def specP {β : Type} (enc : β → List MV) (dom : Plan → β → Prop) (out : Plan → β → MV) : List MV → MH → R MV :=
  specH (α := Nat × Plan × β) (fun a => .ref a.1 :: enc a.2.2) (fun a h => HasP h a.1 a.2.1 ∧ a.2.1.Ok ∧ dom a.2.1 a.2.2) fun a h => .ok (out a.2.1 a.2.2) h
theorem specP_eq {β : Type} {enc : β → List MV} {dom : Plan → β → Prop} {out : Plan → β → MV} (inj : ∀ a b, enc a = enc b → a = b) {h : MH} {n : Nat} {P : Plan} (e : HasP h n P) (k : P.Ok) {b : β} (d : dom P b) : specP enc dom out (.ref n :: enc b) h = .ok (out P b) h :=
  specH_eq (a := ((n, P, b) : Nat × Plan × β)) (fun x y q d1 d2 => by
    obtain ⟨x1, x2, x3⟩ := x
    obtain ⟨y1, y2, y3⟩ := y
    simp only [List.cons.injEq, MV.ref.injEq] at q
    obtain ⟨rfl, q⟩ := q
    have e1 : x3 = y3 := inj _ _ q
    subst e1
    have e2 : x2 = y2 := HasP.uniq d1.1 d2.1
    subst e2
    rfl) ⟨e, k, d⟩
theorem specP_sim {β : Type} {enc : β → List MV} {dom : Plan → β → Prop} {out : Plan → β → MV} {F : List MV → MH → R MV} (hs : ∀ n P b h, HasP h n P → P.Ok → dom P b → ∃ g, F (.ref n :: enc b) h = .ok (out P b) (h ++ g)) (hu : ∀ n P b, MV.und n (out P b)) (xs : List MV) (h : MH) : Sim h (F xs h) (specP enc dom out xs h) :=
  specH_sim (fun a h d => by
    obtain ⟨g, e⟩ := hs _ _ _ _ d.1 d.2.1 d.2.2
    rw [e]
    exact sim_drop0 (hu _ _ _)) xs h
theorem tints_inj (a b : List Int) (e : MV.tup (ivs a) = MV.tup (ivs b)) : a = b := by
  simp only [MV.tup.injEq] at e
  exact map_inj (fun _ _ q => by simpa using q) e

/-! ### young, state_at -/
def youngL (P : Plan) (l : List Int) : List Int := l.filter fun a => decide (a ≤ horizon P)
theorem itL_items {n : Nat} {h : MH} {xs : List MV} (e : itemsOf h (.ref n) = some xs) (i : Nat) : itL n i h = nxOf xs[i]? := by
  unfold itL
  simp only [e]
/-- a walk over a tuple or a list of whole numbers -/
theorem itV_ints {m : ME} {env : MEnv} {h : MH} {x : MV} {l : List Int} (em : m env h = .ok x h) (ex : itemsOf h x = some (ivs l)) : ∃ it, mItV m env h = .ok it h ∧ ∀ i, it i h = nxOf (ivs l)[i]? := by
  unfold mItV
  rw [em]
  cases x with
  | tup xs =>
    cases ex
    exact ⟨itT (ivs l), rfl, fun i => rfl⟩
  | ref n => exact ⟨itL n, by simp only [R.bind_ok, ex], itL_items ex⟩
  | _ => cases ex
noncomputable def G_young : List MV → MH → R MV := specH (α := Nat × Plan × MV × List Int) (fun a => [.ref a.1, a.2.2.1]) (fun a h => HasP h a.1 a.2.1 ∧ a.2.1.Ok ∧ itemsOf h a.2.2.1 = some (ivs a.2.2.2) ∧ a.2.2.2.length ≤ cap) fun a h => .ok (.tup (ivs (youngL a.2.1 a.2.2.2))) h
theorem ivs_inj {a b : List Int} (e : ivs a = ivs b) : a = b := map_inj (fun _ _ q => by simpa using q) e
theorem G_youngX_eq {h : MH} {n : Nat} {P : Plan} (e : HasP h n P) (k : P.Ok) {x : MV} (l : List Int) (ex : itemsOf h x = some (ivs l)) (hl : l.length ≤ cap) : G_young [.ref n, x] h = .ok (.tup (ivs (youngL P l))) h :=
  specH_eq (a := ((n, P, x, l) : Nat × Plan × MV × List Int)) (fun x y q d1 d2 => by
    obtain ⟨x1, x2, x3, x4⟩ := x
    obtain ⟨y1, y2, y3, y4⟩ := y
    simp only [List.cons.injEq, MV.ref.injEq, and_true] at q
    obtain ⟨rfl, rfl⟩ := q
    have e2 : x2 = y2 := HasP.uniq d1.1 d2.1
    subst e2
    have q4 := d1.2.2.1.symm.trans d2.2.2.1
    have e4 : x4 = y4 := ivs_inj (Option.some.inj q4)
    subst e4
    rfl) ⟨e, k, ex, hl⟩
theorem G_young_eq {h : MH} {n : Nat} {P : Plan} (e : HasP h n P) (k : P.Ok) (l : List Int) (hl : l.length ≤ cap) : G_young [.ref n, .tup (ivs l)] h = .ok (.tup (ivs (youngL P l))) h := G_youngX_eq e k l rfl hl
theorem G_youngL_eq {h : MH} {n m : Nat} {P : Plan} (e : HasP h n P) (k : P.Ok) {l : List Int} (ex : h[m]? = some (.lst (ivs l))) (hl : l.length ≤ cap) : G_young [.ref n, .ref m] h = .ok (.tup (ivs (youngL P l))) h := G_youngX_eq e k l (items_at ex) hl
/-! ### holds_for, is_good, first_broken -/
def ableL2 (P : Plan) (st : List Int) (a : Int) : List Int := st.filter fun o => decide (a ≤ o) && decide (o ≤ a + slack P a)
def holdsFor (P : Plan) (st : List Int) (a : Int) : Bool := decide (P.many ≤ ((ableL2 P st a).length : Int))
def agesL (P : Plan) : List Int := prog 0 1 (P.far + 1).toNat
def isGood (P : Plan) (st : List Int) : Bool := (agesL P).all (holdsFor P st)
def brokenL (P : Plan) (st : List Int) : List Int := (agesL P).filter fun a => !holdsFor P st a
theorem mem_ages {P : Plan} (k : P.Ok) {a : Int} (h : a ∈ agesL P) : 0 ≤ a ∧ a ≤ 6 := by
  obtain ⟨i, hi, e⟩ := mem_prog.mp h
  have := k.f6
  omega
theorem F_holds_for_eq {h : MH} {n : Nat} {P : Plan} (e : HasP h n P) (k : P.Ok) (st : List Int) (hl : st.length ≤ cap) {a : Int} (h0 : 0 ≤ a) (h1 : a ≤ 100) : ∃ g, F_holds_for F_slack_at [.ref n, .tup (ivs st), .int a] h = .ok (.bl (holdsFor P st a)) (h ++ g) := by
  unfold F_holds_for m_holds_for
  simp only [Mv.mDef, Mv.mSeq, Mv.mSet, Mv.mRet, Mv.mRetN, Mv.mIfS, Mv.mVar, Mv.mC, Mv.mBin, Mv.mChain, Mv.mCall, Mv.mDo, Mv.mCons, Mv.mNil, Mv.mAndV, Mv.mOrV, Mv.mNotV, Mv.mAsB, Mv.mAndT, Mv.mOrT, Mv.mNotT, Mv.mIf, Mv.mTup, Mv.mLst, Mv.mNext, Mv.mBad, Mv.mDrop, Mv.mPar, Mv.mAsg, Mv.mStore, Mv.mNeg, Mv.fNeg, Mv.mYes, Mv.mNoP, Mv.mPart, Mv.mSl, Mv.fI, Mv.fAdd, Mv.fSub, Mv.fMul, Mv.fMod, Mv.fDiv, Mv.fPow, Mv.fLt, Mv.fLe, Mv.fGt, Mv.fGe, Mv.yes2, Mv.fIsN, Mv.fNotN, Mv.isNon, Mv.fIx, Mv.items_tup, Mv.items_new, Mv.list_new, Mv.lstOf_new, Mv.fEq_int, Mv.fNe_int, Mv.fLen_tup, Mv.fMax2, Mv.fMin2, Mv.fInt, Mv.fAbs, Mv.mIsi, Mv.isT, Mv.gN, Mv.gT, Mv.setAll, Mv.wipeM, Mv.R.bind_ok, Mv.R.bind_bad, Mv.R.noX_ok, Mv.R.andS_ok, Mv.R.andS_bad, Mv.S.andS_nx, Mv.S.andS_rt, Mv.S.andS_bad, Mv.S.andS_bk, Mv.S.andS_ct, List.map_cons, List.map_nil, List.cons_append, List.nil_append, List.append_nil, List.replicate_succ, List.replicate_zero, List.length_cons, List.length_nil, List.set_cons_zero, List.set_cons_succ, List.getElem?_cons_zero, List.getElem?_cons_succ, List.getElem?_nil, Nat.reduceAdd, Nat.reduceSub, Nat.reduceEqDiff, Nat.reduceLeDiff, Nat.zero_add, if_true, if_false, Bool.not_true, Bool.not_false, Bool.false_eq_true, decide_true, decide_false, ite_true, ite_false, Option.some.injEq, reduceIte, Mv.mFld, Mv.mIsC, Mv.mMeth, Mv.mMake, Mv.mMakeK, Mv.mEqB, Mv.boolR, Mv.mRev, List.lookup_cons, List.lookup_nil, Nat.reduceBEq, beq_self_eq_true, Mv.ins_new, Mv.set_new, mLc, mItV]
  rw [comp_pure (it := itT (ivs st)) (l := st) (enc := MV.int) (cb := fun o => decide (a ≤ o) && decide (o ≤ a + slack P a)) (f := MV.int) (fun i => itT_nx _ i h) hl]
  · simp only [Mv.mDef, Mv.mSeq, Mv.mSet, Mv.mRet, Mv.mRetN, Mv.mIfS, Mv.mVar, Mv.mC, Mv.mBin, Mv.mChain, Mv.mCall, Mv.mDo, Mv.mCons, Mv.mNil, Mv.mAndV, Mv.mOrV, Mv.mNotV, Mv.mAsB, Mv.mAndT, Mv.mOrT, Mv.mNotT, Mv.mIf, Mv.mTup, Mv.mLst, Mv.mNext, Mv.mBad, Mv.mDrop, Mv.mPar, Mv.mAsg, Mv.mStore, Mv.mNeg, Mv.fNeg, Mv.mYes, Mv.mNoP, Mv.mPart, Mv.mSl, Mv.fI, Mv.fAdd, Mv.fSub, Mv.fMul, Mv.fMod, Mv.fDiv, Mv.fPow, Mv.fLt, Mv.fLe, Mv.fGt, Mv.fGe, Mv.yes2, Mv.fIsN, Mv.fNotN, Mv.isNon, Mv.fIx, Mv.items_tup, Mv.items_new, Mv.list_new, Mv.lstOf_new, Mv.fEq_int, Mv.fNe_int, Mv.fLen_tup, Mv.fMax2, Mv.fMin2, Mv.fInt, Mv.fAbs, Mv.mIsi, Mv.isT, Mv.gN, Mv.gT, Mv.setAll, Mv.wipeM, Mv.R.bind_ok, Mv.R.bind_bad, Mv.R.noX_ok, Mv.R.andS_ok, Mv.R.andS_bad, Mv.S.andS_nx, Mv.S.andS_rt, Mv.S.andS_bad, Mv.S.andS_bk, Mv.S.andS_ct, List.map_cons, List.map_nil, List.cons_append, List.nil_append, List.append_nil, List.replicate_succ, List.replicate_zero, List.length_cons, List.length_nil, List.set_cons_zero, List.set_cons_succ, List.getElem?_cons_zero, List.getElem?_cons_succ, List.getElem?_nil, Nat.reduceAdd, Nat.reduceSub, Nat.reduceEqDiff, Nat.reduceLeDiff, Nat.zero_add, if_true, if_false, Bool.not_true, Bool.not_false, Bool.false_eq_true, decide_true, decide_false, ite_true, ite_false, Option.some.injEq, reduceIte, Mv.mFld, Mv.mIsC, Mv.mMeth, Mv.mMake, Mv.mMakeK, Mv.mEqB, Mv.boolR, Mv.mRev, List.lookup_cons, List.lookup_nil, Nat.reduceBEq, beq_self_eq_true, Mv.ins_new, Mv.set_new, fLen_new, (e.app).ins, List.length_map]
    exact ⟨_, rfl⟩
  · intro o _
    refine ⟨_, rfl, ?_⟩
    simp only [Mv.mDef, Mv.mSeq, Mv.mSet, Mv.mRet, Mv.mRetN, Mv.mIfS, Mv.mVar, Mv.mC, Mv.mBin, Mv.mChain, Mv.mCall, Mv.mDo, Mv.mCons, Mv.mNil, Mv.mAndV, Mv.mOrV, Mv.mNotV, Mv.mAsB, Mv.mAndT, Mv.mOrT, Mv.mNotT, Mv.mIf, Mv.mTup, Mv.mLst, Mv.mNext, Mv.mBad, Mv.mDrop, Mv.mPar, Mv.mAsg, Mv.mStore, Mv.mNeg, Mv.fNeg, Mv.mYes, Mv.mNoP, Mv.mPart, Mv.mSl, Mv.fI, Mv.fAdd, Mv.fSub, Mv.fMul, Mv.fMod, Mv.fDiv, Mv.fPow, Mv.fLt, Mv.fLe, Mv.fGt, Mv.fGe, Mv.yes2, Mv.fIsN, Mv.fNotN, Mv.isNon, Mv.fIx, Mv.items_tup, Mv.items_new, Mv.list_new, Mv.lstOf_new, Mv.fEq_int, Mv.fNe_int, Mv.fLen_tup, Mv.fMax2, Mv.fMin2, Mv.fInt, Mv.fAbs, Mv.mIsi, Mv.isT, Mv.gN, Mv.gT, Mv.setAll, Mv.wipeM, Mv.R.bind_ok, Mv.R.bind_bad, Mv.R.noX_ok, Mv.R.andS_ok, Mv.R.andS_bad, Mv.S.andS_nx, Mv.S.andS_rt, Mv.S.andS_bad, Mv.S.andS_bk, Mv.S.andS_ct, List.map_cons, List.map_nil, List.cons_append, List.nil_append, List.append_nil, List.replicate_succ, List.replicate_zero, List.length_cons, List.length_nil, List.set_cons_zero, List.set_cons_succ, List.getElem?_cons_zero, List.getElem?_cons_succ, List.getElem?_nil, Nat.reduceAdd, Nat.reduceSub, Nat.reduceEqDiff, Nat.reduceLeDiff, Nat.zero_add, if_true, if_false, Bool.not_true, Bool.not_false, Bool.false_eq_true, decide_true, decide_false, ite_true, ite_false, Option.some.injEq, reduceIte, F_slack_at_eq e k h0 h1]
    cases decide (a ≤ o)
    · exact ⟨rfl, fun _ => trivial⟩
    · exact ⟨rfl, fun _ => trivial⟩
theorem two_st (a b : List Int × Int) (e : [MV.tup (ivs a.1), MV.int a.2] = [MV.tup (ivs b.1), MV.int b.2]) : a = b := by
  simp only [List.cons.injEq, MV.int.injEq, and_true] at e
  exact Prod.ext (tints_inj _ _ e.1) e.2
noncomputable def G_holds_for : List MV → MH → R MV := specP (fun b : List Int × Int => [.tup (ivs b.1), .int b.2]) (fun _ b => b.1.length ≤ cap ∧ 0 ≤ b.2 ∧ b.2 ≤ 100) fun P b => .bl (holdsFor P b.1 b.2)
theorem G_holds_for_eq {h : MH} {n : Nat} {P : Plan} (e : HasP h n P) (k : P.Ok) (st : List Int) (hl : st.length ≤ cap) {a : Int} (h0 : 0 ≤ a) (h1 : a ≤ 100) : G_holds_for [.ref n, .tup (ivs st), .int a] h = .ok (.bl (holdsFor P st a)) h :=
  specP_eq two_st e k (b := (st, a)) ⟨hl, h0, h1⟩
theorem sim_holds_for (xs : List MV) (h : MH) : Sim h (F_holds_for F_slack_at xs h) (G_holds_for xs h) := specP_sim (fun n P b h e k d => F_holds_for_eq e k b.1 d.1 d.2.1 d.2.2) (fun _ _ _ => und_bl _ _) xs h
theorem far_in {P : Plan} (k : P.Ok) : inR (P.far + 1) = true := inR_of (by have := k.f0; have := k.f6; omega)
theorem ages_cap {P : Plan} (k : P.Ok) : (agesL P).length ≤ cap := by
  unfold agesL
  rw [prog_length]
  have := k.f6
  unfold cap
  omega
theorem F_is_good_eq {h : MH} {n : Nat} {P : Plan} (e : HasP h n P) (k : P.Ok) (st : List Int) (hl : st.length ≤ cap) : ∃ g, F_is_good G_holds_for [.ref n, .tup (ivs st)] h = .ok (.bl (isGood P st)) (h ++ g) := by
  unfold F_is_good m_is_good
  simp only [Mv.mDef, Mv.mSeq, Mv.mSet, Mv.mRet, Mv.mRetN, Mv.mIfS, Mv.mVar, Mv.mC, Mv.mBin, Mv.mChain, Mv.mCall, Mv.mDo, Mv.mCons, Mv.mNil, Mv.mAndV, Mv.mOrV, Mv.mNotV, Mv.mAsB, Mv.mAndT, Mv.mOrT, Mv.mNotT, Mv.mIf, Mv.mTup, Mv.mLst, Mv.mNext, Mv.mBad, Mv.mDrop, Mv.mPar, Mv.mAsg, Mv.mStore, Mv.mNeg, Mv.fNeg, Mv.mYes, Mv.mNoP, Mv.mPart, Mv.mSl, Mv.fI, Mv.fAdd, Mv.fSub, Mv.fMul, Mv.fMod, Mv.fDiv, Mv.fPow, Mv.fLt, Mv.fLe, Mv.fGt, Mv.fGe, Mv.yes2, Mv.fIsN, Mv.fNotN, Mv.isNon, Mv.fIx, Mv.items_tup, Mv.items_new, Mv.list_new, Mv.lstOf_new, Mv.fEq_int, Mv.fNe_int, Mv.fLen_tup, Mv.fMax2, Mv.fMin2, Mv.fInt, Mv.fAbs, Mv.mIsi, Mv.isT, Mv.gN, Mv.gT, Mv.setAll, Mv.wipeM, Mv.R.bind_ok, Mv.R.bind_bad, Mv.R.noX_ok, Mv.R.andS_ok, Mv.R.andS_bad, Mv.S.andS_nx, Mv.S.andS_rt, Mv.S.andS_bad, Mv.S.andS_bk, Mv.S.andS_ct, List.map_cons, List.map_nil, List.cons_append, List.nil_append, List.append_nil, List.replicate_succ, List.replicate_zero, List.length_cons, List.length_nil, List.set_cons_zero, List.set_cons_succ, List.getElem?_cons_zero, List.getElem?_cons_succ, List.getElem?_nil, Nat.reduceAdd, Nat.reduceSub, Nat.reduceEqDiff, Nat.reduceLeDiff, Nat.zero_add, if_true, if_false, Bool.not_true, Bool.not_false, Bool.false_eq_true, decide_true, decide_false, ite_true, ite_false, Option.some.injEq, reduceIte, Mv.mFld, Mv.mIsC, Mv.mMeth, Mv.mMake, Mv.mMakeK, Mv.mEqB, Mv.boolR, Mv.mRev, List.lookup_cons, List.lookup_nil, Nat.reduceBEq, beq_self_eq_true, Mv.ins_new, Mv.set_new, mLc, mRng1, e.ins, far_in k]
  rw [comp_pure (l := agesL P) (enc := MV.int) (cb := fun _ => true) (f := fun a => .bl (holdsFor P st a)) (fun i => itR_nx _ _ _ i h) (ages_cap k)]
  · rw [filter_yes]
    simp only [Mv.mDef, Mv.mSeq, Mv.mSet, Mv.mRet, Mv.mRetN, Mv.mIfS, Mv.mVar, Mv.mC, Mv.mBin, Mv.mChain, Mv.mCall, Mv.mDo, Mv.mCons, Mv.mNil, Mv.mAndV, Mv.mOrV, Mv.mNotV, Mv.mAsB, Mv.mAndT, Mv.mOrT, Mv.mNotT, Mv.mIf, Mv.mTup, Mv.mLst, Mv.mNext, Mv.mBad, Mv.mDrop, Mv.mPar, Mv.mAsg, Mv.mStore, Mv.mNeg, Mv.fNeg, Mv.mYes, Mv.mNoP, Mv.mPart, Mv.mSl, Mv.fI, Mv.fAdd, Mv.fSub, Mv.fMul, Mv.fMod, Mv.fDiv, Mv.fPow, Mv.fLt, Mv.fLe, Mv.fGt, Mv.fGe, Mv.yes2, Mv.fIsN, Mv.fNotN, Mv.isNon, Mv.fIx, Mv.items_tup, Mv.items_new, Mv.list_new, Mv.lstOf_new, Mv.fEq_int, Mv.fNe_int, Mv.fLen_tup, Mv.fMax2, Mv.fMin2, Mv.fInt, Mv.fAbs, Mv.mIsi, Mv.isT, Mv.gN, Mv.gT, Mv.setAll, Mv.wipeM, Mv.R.bind_ok, Mv.R.bind_bad, Mv.R.noX_ok, Mv.R.andS_ok, Mv.R.andS_bad, Mv.S.andS_nx, Mv.S.andS_rt, Mv.S.andS_bad, Mv.S.andS_bk, Mv.S.andS_ct, List.map_cons, List.map_nil, List.cons_append, List.nil_append, List.append_nil, List.replicate_succ, List.replicate_zero, List.length_cons, List.length_nil, List.set_cons_zero, List.set_cons_succ, List.getElem?_cons_zero, List.getElem?_cons_succ, List.getElem?_nil, Nat.reduceAdd, Nat.reduceSub, Nat.reduceEqDiff, Nat.reduceLeDiff, Nat.zero_add, if_true, if_false, Bool.not_true, Bool.not_false, Bool.false_eq_true, decide_true, decide_false, ite_true, ite_false, Option.some.injEq, reduceIte, fAll_at (items_new h _) (any_map _ _)]
    refine ⟨_, congrArg (fun b => R.ok (MV.bl b) _) ?_⟩
    unfold isGood
    rw [List.all_map]
    rfl
  · intro a ha
    have := mem_ages k ha
    refine ⟨_, rfl, ?_⟩
    simp only [Mv.mDef, Mv.mSeq, Mv.mSet, Mv.mRet, Mv.mRetN, Mv.mIfS, Mv.mVar, Mv.mC, Mv.mBin, Mv.mChain, Mv.mCall, Mv.mDo, Mv.mCons, Mv.mNil, Mv.mAndV, Mv.mOrV, Mv.mNotV, Mv.mAsB, Mv.mAndT, Mv.mOrT, Mv.mNotT, Mv.mIf, Mv.mTup, Mv.mLst, Mv.mNext, Mv.mBad, Mv.mDrop, Mv.mPar, Mv.mAsg, Mv.mStore, Mv.mNeg, Mv.fNeg, Mv.mYes, Mv.mNoP, Mv.mPart, Mv.mSl, Mv.fI, Mv.fAdd, Mv.fSub, Mv.fMul, Mv.fMod, Mv.fDiv, Mv.fPow, Mv.fLt, Mv.fLe, Mv.fGt, Mv.fGe, Mv.yes2, Mv.fIsN, Mv.fNotN, Mv.isNon, Mv.fIx, Mv.items_tup, Mv.items_new, Mv.list_new, Mv.lstOf_new, Mv.fEq_int, Mv.fNe_int, Mv.fLen_tup, Mv.fMax2, Mv.fMin2, Mv.fInt, Mv.fAbs, Mv.mIsi, Mv.isT, Mv.gN, Mv.gT, Mv.setAll, Mv.wipeM, Mv.R.bind_ok, Mv.R.bind_bad, Mv.R.noX_ok, Mv.R.andS_ok, Mv.R.andS_bad, Mv.S.andS_nx, Mv.S.andS_rt, Mv.S.andS_bad, Mv.S.andS_bk, Mv.S.andS_ct, List.map_cons, List.map_nil, List.cons_append, List.nil_append, List.append_nil, List.replicate_succ, List.replicate_zero, List.length_cons, List.length_nil, List.set_cons_zero, List.set_cons_succ, List.getElem?_cons_zero, List.getElem?_cons_succ, List.getElem?_nil, Nat.reduceAdd, Nat.reduceSub, Nat.reduceEqDiff, Nat.reduceLeDiff, Nat.zero_add, if_true, if_false, Bool.not_true, Bool.not_false, Bool.false_eq_true, decide_true, decide_false, ite_true, ite_false, Option.some.injEq, reduceIte, G_holds_for_eq e k st hl this.1 (show a ≤ 100 by omega)]
    exact ⟨trivial, fun _ => trivial⟩
noncomputable def G_is_good : List MV → MH → R MV := specP (fun l : List Int => [.tup (ivs l)]) (fun _ l => l.length ≤ cap) fun P l => .bl (isGood P l)
theorem G_is_good_eq {h : MH} {n : Nat} {P : Plan} (e : HasP h n P) (k : P.Ok) (l : List Int) (hl : l.length ≤ cap) : G_is_good [.ref n, .tup (ivs l)] h = .ok (.bl (isGood P l)) h :=
  specP_eq (fun a b q => tints_inj _ _ (List.cons.inj q).1) e k (b := l) hl
theorem sim_is_good (xs : List MV) (h : MH) : Sim h (F_is_good G_holds_for xs h) (G_is_good xs h) := specP_sim (fun n P l h e k d => F_is_good_eq e k l d) (fun _ _ _ => und_bl _ _) xs h
theorem good_iff {P : Plan} {st : List Int} : isGood P st = false ↔ ∃ a r, brokenL P st = a :: r := by
  unfold isGood brokenL
  constructor
  · intro q
    obtain ⟨a, ha, hb⟩ := List.all_eq_false.mp q
    have : a ∈ (agesL P).filter fun a => !holdsFor P st a := List.mem_filter.mpr ⟨ha, by simp [hb]⟩
    cases e : (agesL P).filter fun a => !holdsFor P st a with
    | nil => rw [e] at this; cases this
    | cons x r => exact ⟨x, r, rfl⟩
  · rintro ⟨a, r, e⟩
    have : a ∈ (agesL P).filter fun a => !holdsFor P st a := by rw [e]; exact List.mem_cons_self ..
    obtain ⟨h1, h2⟩ := List.mem_filter.mp this
    exact List.all_eq_false.mpr ⟨a, h1, by simpa using h2⟩
def firstB (P : Plan) (st : List Int) : Int := (brokenL P st).headD 0
theorem data_nil {h : MH} {n : Nat} (e : h[n]? = some (.lst [])) : dataOf 12 h (.ref n) = some (.list []) := by
  have := data_lints (a := []) e
  exact this
noncomputable def G_first_broken : List MV → MH → R MV := specP (fun l : List Int => [.tup (ivs l)]) (fun P l => l.length ≤ cap ∧ isGood P l = false) fun P l => .int (firstB P l)
theorem G_first_broken_eq {h : MH} {n : Nat} {P : Plan} (e : HasP h n P) (k : P.Ok) (l : List Int) (hl : l.length ≤ cap) (hb : isGood P l = false) : G_first_broken [.ref n, .tup (ivs l)] h = .ok (.int (firstB P l)) h :=
  specP_eq (fun a b q => tints_inj _ _ (List.cons.inj q).1) e k (b := l) ⟨hl, hb⟩
end Mv

set_option maxHeartbeats 4000000
/-! Q1: sorted lists of states; all parts of a list of ages -/
namespace Mv
open PySem PySem.Spec L2

/-! ### stable sorts -/
theorem sort_filter {α : Type} {le : α → α → Bool} (h : PySem.W.TotalLe le) (p : α → Bool) (l : List α) : (l.filter p).mergeSort le = (l.mergeSort le).filter p := by
  refine (PySem.W.sort_unique h (List.Pairwise.filter p (PySem.W.sort_pairwise h l)) fun c => ?_).symm
  rw [List.filter_filter, List.filter_filter]
  have e1 : (l.mergeSort le).filter (fun a => PySem.W.sameRank le c a && p a) = ((l.mergeSort le).filter (PySem.W.sameRank le c)).filter p := by
    rw [List.filter_filter]
    congr 1
    funext a
    rw [Bool.and_comm]
  have e2 : l.filter (fun a => PySem.W.sameRank le c a && p a) = (l.filter (PySem.W.sameRank le c)).filter p := by
    rw [List.filter_filter]
    congr 1
    funext a
    rw [Bool.and_comm]
  rw [e1, e2, PySem.W.sort_stable h]
theorem dataLe_total {β : Type} (k : β → PyData) : PySem.W.TotalLe (PySem.W.dataLe false k) := PySem.W.sortLe_total _ _ _
theorem sortD_map {α : Type} (enc : α → MV) (key : α → PyData) (l : List α) : sortD (l.map enc) (l.map key) = (l.mergeSort (PySem.W.dataLe false key)).map enc := by
  unfold sortD
  have e : (l.map enc).zip (l.map key) = l.map fun a => (enc a, key a) := by rw [List.zip_map']
  rw [e, ← PySem.W.sort_maps (r := PySem.W.dataLe false key) (fun a => (enc a, key a)) (fun a _ b _ => rfl), List.map_map]
  rfl
theorem alikeB_map {α : Type} {key : α → PyData} (h : ∀ a b, PySem.W.alike (key a) (key b) = true) (l : List α) : alikeB (l.map key) = true := by
  unfold alikeB
  rw [List.all_map]
  refine List.all_eq_true.mpr fun a _ => ?_
  show ((l.map key).all fun e => PySem.W.alike (key a) e) = true
  rw [List.all_map]
  exact List.all_eq_true.mpr fun b _ => h a b
theorem sortB_map {α : Type} {key : α → PyData} (h : ∀ a, isTupN (key a) = true) (l : List α) : sortB (l.map key) = true := by
  unfold sortB
  rw [List.all_map, Bool.or_eq_true]
  exact .inl (List.all_eq_true.mpr fun a _ => h a)
/-- a state's key: its size, itself -/
def keyS (l : List Int) : PyData := .tuple [.int (l.length : Nat), .tuple (l.map PyData.int)]
theorem alike_keyS (a b : List Int) : PySem.W.alike (keyS a) (keyS b) = true := by
  unfold keyS
  simp only [PySem.W.alike, PySem.W.alikeAll, PySem.W.alike_ints, Bool.and_self]
def kle : List Int → List Int → Bool := PySem.W.dataLe false keyS
def sortS (L : List (List Int)) : List (List Int) := L.mergeSort kle
theorem sortS_filter (p : List Int → Bool) (L : List (List Int)) : sortS (L.filter p) = (sortS L).filter p := sort_filter (dataLe_total _) p L
theorem sortS_perm (L : List (List Int)) : (sortS L).Perm L := List.mergeSort_perm _ _
abbrev rowM (l : List Int) : MV := .tup (ivs l)
def rowsM (L : List (List Int)) : List MV := L.map rowM
theorem rowsM_len (L : List (List Int)) : (rowsM L).length = L.length := by unfold rowsM; rw [List.length_map]
theorem rowM_inj {a b : List Int} (e : rowM a = rowM b) : a = b := tints_inj a b e
theorem rowsM_inj {a b : List (List Int)} (e : rowsM a = rowsM b) : a = b := map_inj (fun x y q => tints_inj x y q) e
theorem und_rowsM (n : Nat) (L : List (List Int)) : MV.unds n (rowsM L) := unds_of fun x hx => by
  obtain ⟨l, _, rfl⟩ := List.mem_map.mp hx
  exact und_tints n l

/-! ### all parts -/
def growP (most : Int) (L : List (List Int)) (a : Int) : List (List Int) := L ++ (L.filter fun s => decide ((s.length : Int) < most)).map fun s => s ++ [a]
def partsL (most : Int) (ages : List Int) : List (List Int) := ages.foldl (growP most) [[]]
theorem growP_len (most : Int) (L : List (List Int)) (a : Int) : (growP most L a).length ≤ 2 * L.length := by
  unfold growP
  rw [List.length_append, List.length_map]
  have := List.length_filter_le (fun s : List Int => decide ((s.length : Int) < most)) L
  omega
theorem foldP_len (most : Int) : ∀ (ages : List Int) (L : List (List Int)), (ages.foldl (growP most) L).length ≤ 2 ^ ages.length * L.length
  | [], L => by simp
  | a :: ages, L => by
    simp only [List.foldl_cons, List.length_cons]
    refine Nat.le_trans (foldP_len most ages _) ?_
    rw [Nat.pow_succ, Nat.mul_assoc]
    exact Nat.mul_le_mul_left _ (growP_len most L a)
theorem partsL_len (most : Int) (ages : List Int) : (partsL most ages).length ≤ 2 ^ ages.length := by
  have := foldP_len most ages [[]]
  simpa [partsL] using this
theorem partsL_take (most : Int) (ages : List Int) {i : Nat} {a : Int} (h : ages[i]? = some a) : partsL most (ages.take (i + 1)) = growP most (partsL most (ages.take i)) a := by
  unfold partsL
  rw [List.take_add_one, h]
  simp
theorem growP_mem {most : Int} {L : List (List Int)} {a : Int} {s : List Int} (h : s ∈ growP most L a) : s ∈ L ∨ ∃ t ∈ L, s = t ++ [a] := by
  unfold growP at h
  rcases List.mem_append.mp h with h | h
  · exact .inl h
  · obtain ⟨t, ht, e⟩ := List.mem_map.mp h
    exact .inr ⟨t, (List.mem_filter.mp ht).1, e.symm⟩
theorem foldP_sub (most : Int) : ∀ (ages : List Int) (L : List (List Int)) (pre : List Int), (∀ s ∈ L, s.Sublist pre) → ∀ s ∈ ages.foldl (growP most) L, s.Sublist (pre ++ ages)
  | [], L, pre, h, s, hs => by simpa using h s hs
  | a :: ages, L, pre, h, s, hs => by
    have := foldP_sub most ages (growP most L a) (pre ++ [a]) (fun t ht => by
      rcases growP_mem ht with q | ⟨u, hu, rfl⟩
      · exact (h t q).trans (List.sublist_append_left _ _)
      · exact (h u hu).append (List.Sublist.refl _)) s hs
    simpa using this
theorem partsL_sub {most : Int} {ages s : List Int} (h : s ∈ partsL most ages) : s.Sublist ages := by
  have := foldP_sub most ages [[]] [] (fun s hs => by simp at hs; rw [hs]; exact List.Sublist.refl _) s h
  simpa using this
/-- states after a tick -/
def agedL (P : Plan) (st : List Int) : List Int := 0 :: (st.filter fun a => decide (a < horizon P)).map (· + 1)
theorem agedL_len (P : Plan) (st : List Int) : (agedL P st).length ≤ st.length + 1 := by
  unfold agedL
  rw [List.length_cons, List.length_map]
  have := List.length_filter_le (fun a => decide (a < horizon P)) st
  omega
/-- a state for a promise -/
structure IsSt (P : Plan) (st : List Int) : Prop where
  up : st.Pairwise (· < ·)
  b : ∀ a ∈ st, 0 ≤ a ∧ a ≤ horizon P
theorem up_len : ∀ (st : List Int) (lo hi : Int), st.Pairwise (· < ·) → (∀ a ∈ st, lo ≤ a ∧ a ≤ hi) → (st.length : Int) ≤ hi - lo + 1 ∨ st = []
  | [], _, _, _, _ => .inr rfl
  | a :: st, lo, hi, h, hb => by
    left
    obtain ⟨h1, h2⟩ := List.pairwise_cons.mp h
    have ha := hb a (List.mem_cons_self ..)
    rcases up_len st (a + 1) hi h2 (fun x hx => ⟨by have := h1 x hx; omega, (hb x (List.mem_cons_of_mem _ hx)).2⟩) with q | q
    · rw [List.length_cons]; omega
    · rw [q]; simp; omega
theorem IsSt.len {P : Plan} (k : P.Ok) {st : List Int} (h : IsSt P st) : st.length ≤ 10 := by
  have := k.hor9
  rcases up_len st 0 (horizon P) h.up h.b with q | q
  · omega
  · rw [q]; simp
theorem IsSt.sub {P : Plan} {s st : List Int} (h : IsSt P st) (q : s.Sublist st) : IsSt P s := ⟨h.up.sublist q, fun a ha => h.b a (q.subset ha)⟩
theorem IsSt.aged {P : Plan} (k : P.Ok) {st : List Int} (h : IsSt P st) : IsSt P (agedL P st) := by
  have h0 := k.hor0
  unfold agedL
  refine ⟨List.pairwise_cons.mpr ⟨fun a ha => ?_, ?_⟩, fun a ha => ?_⟩
  · obtain ⟨b, hb, e⟩ := List.mem_map.mp ha
    have := (h.b b (List.mem_filter.mp hb).1).1
    omega
  · rw [List.pairwise_map]
    exact (h.up.filter _).imp fun q => by omega
  · rcases List.mem_cons.mp ha with e | e
    · omega
    · obtain ⟨b, hb, e⟩ := List.mem_map.mp e
      obtain ⟨hb1, hb2⟩ := List.mem_filter.mp hb
      have := (h.b b hb1).1
      have := of_decide_eq_true hb2
      omega
theorem IsSt.range {P : Plan} (n : Nat) (hn : (n : Int) ≤ horizon P + 1) : IsSt P (prog 0 1 n) := by
  refine ⟨?_, fun a ha => ?_⟩
  · unfold prog
    rw [List.pairwise_map]
    exact List.pairwise_lt_range.imp fun q => by omega
  · obtain ⟨i, hi, e⟩ := mem_prog.mp ha
    omega
end Mv

set_option maxHeartbeats 4000000
/-! Q2: the program's functions of states -/
namespace Mv
open PySem PySem.Spec L2

/-! ### specs that give a new list -/
noncomputable def specPL {β : Type} (enc : β → List MV) (dom : Plan → β → Prop) (out : Plan → β → List MV) : List MV → MH → R MV :=
  specH (α := Nat × Plan × β) (fun a => .ref a.1 :: enc a.2.2) (fun a h => HasP h a.1 a.2.1 ∧ a.2.1.Ok ∧ dom a.2.1 a.2.2) fun a h => .ok (.ref h.length) (h ++ [.lst (out a.2.1 a.2.2)])
theorem specPL_eq {β : Type} {enc : β → List MV} {dom : Plan → β → Prop} {out : Plan → β → List MV} (inj : ∀ a b, enc a = enc b → a = b) {h : MH} {n : Nat} {P : Plan} (e : HasP h n P) (k : P.Ok) {b : β} (d : dom P b) : specPL enc dom out (.ref n :: enc b) h = .ok (.ref h.length) (h ++ [.lst (out P b)]) :=
  specH_eq (a := ((n, P, b) : Nat × Plan × β)) (fun x y q d1 d2 => by
    obtain ⟨x1, x2, x3⟩ := x
    obtain ⟨y1, y2, y3⟩ := y
    simp only [List.cons.injEq, MV.ref.injEq] at q
    obtain ⟨rfl, q⟩ := q
    have e1 : x3 = y3 := inj _ _ q
    subst e1
    have e2 : x2 = y2 := HasP.uniq d1.1 d2.1
    subst e2
    rfl) ⟨e, k, d⟩
theorem specPL_sim {β : Type} {enc : β → List MV} {dom : Plan → β → Prop} {out : Plan → β → List MV} {F : List MV → MH → R MV} (hs : ∀ n P b h, HasP h n P → P.Ok → dom P b → ∃ g, F (.ref n :: enc b) h = .ok (.ref (h ++ g).length) (h ++ g ++ [.lst (out P b)])) (hu : ∀ n P b, MV.unds n (out P b)) (xs : List MV) (h : MH) : Sim h (F xs h) (specPL enc dom out xs h) :=
  specH_sim (fun a h d => by
    obtain ⟨g, e⟩ := hs _ _ _ _ d.1 d.2.1 d.2.2
    rw [e, List.append_assoc]
    exact sim_list rfl id (by rw [← List.append_assoc]; exact look_new _ _) (by rw [List.length_append]; omega) (hu _ _ _)) xs h

/-! ### aged -/
theorem F_aged_eq {h : MH} {n : Nat} {P : Plan} (e : HasP h n P) (k : P.Ok) (st : List Int) (hl : st.length ≤ 1000) : ∃ g, F_aged (F_horizon_of F_slack_at) [.ref n, rowM st] h = .ok (rowM (agedL P st)) (h ++ g) := by
  unfold F_aged m_aged
  have hc : (((st.filter fun a => decide (a < horizon P)).map (fun a => MV.int (a + 1))).length + 1 ≤ cap) = True := eq_true (by
    rw [List.length_map]
    have := List.length_filter_le (fun a => decide (a < horizon P)) st
    unfold cap; omega)
  simp only [Mv.mDef, Mv.mSeq, Mv.mSet, Mv.mRet, Mv.mRetN, Mv.mIfS, Mv.mVar, Mv.mC, Mv.mBin, Mv.mChain, Mv.mCall, Mv.mDo, Mv.mCons, Mv.mNil, Mv.mAndV, Mv.mOrV, Mv.mNotV, Mv.mAsB, Mv.mAndT, Mv.mOrT, Mv.mNotT, Mv.mIf, Mv.mTup, Mv.mLst, Mv.mNext, Mv.mBad, Mv.mDrop, Mv.mPar, Mv.mAsg, Mv.mStore, Mv.mNeg, Mv.fNeg, Mv.mYes, Mv.mNoP, Mv.mPart, Mv.mSl, Mv.fI, Mv.fAdd, Mv.fSub, Mv.fMul, Mv.fMod, Mv.fDiv, Mv.fPow, Mv.fLt, Mv.fLe, Mv.fGt, Mv.fGe, Mv.yes2, Mv.fIsN, Mv.fNotN, Mv.isNon, Mv.fIx, Mv.items_tup, Mv.items_new, Mv.list_new, Mv.lstOf_new, Mv.fEq_int, Mv.fNe_int, Mv.fLen_tup, Mv.fMax2, Mv.fMin2, Mv.fInt, Mv.fAbs, Mv.mIsi, Mv.isT, Mv.gN, Mv.gT, Mv.setAll, Mv.wipeM, Mv.R.bind_ok, Mv.R.bind_bad, Mv.R.noX_ok, Mv.R.andS_ok, Mv.R.andS_bad, Mv.S.andS_nx, Mv.S.andS_rt, Mv.S.andS_bad, Mv.S.andS_bk, Mv.S.andS_ct, List.map_cons, List.map_nil, List.cons_append, List.nil_append, List.append_nil, List.replicate_succ, List.replicate_zero, List.length_cons, List.length_nil, List.set_cons_zero, List.set_cons_succ, List.getElem?_cons_zero, List.getElem?_cons_succ, List.getElem?_nil, Nat.reduceAdd, Nat.reduceSub, Nat.reduceEqDiff, Nat.reduceLeDiff, Nat.zero_add, if_true, if_false, Bool.not_true, Bool.not_false, Bool.false_eq_true, decide_true, decide_false, ite_true, ite_false, Option.some.injEq, reduceIte, Mv.mFld, Mv.mIsC, Mv.mMeth, Mv.mMake, Mv.mMakeK, Mv.mEqB, Mv.boolR, Mv.mRev, List.lookup_cons, List.lookup_nil, Nat.reduceBEq, beq_self_eq_true, Mv.ins_new, Mv.set_new, Mv.mStar, mLc, mItV]
  rw [comp_pure (it := itT (ivs st)) (l := st) (enc := MV.int) (cb := fun a => decide (a < horizon P)) (f := fun a => MV.int (a + 1)) (fun i => itT_nx _ i h) (by unfold cap; omega)]
  · simp only [Mv.mDef, Mv.mSeq, Mv.mSet, Mv.mRet, Mv.mRetN, Mv.mIfS, Mv.mVar, Mv.mC, Mv.mBin, Mv.mChain, Mv.mCall, Mv.mDo, Mv.mCons, Mv.mNil, Mv.mAndV, Mv.mOrV, Mv.mNotV, Mv.mAsB, Mv.mAndT, Mv.mOrT, Mv.mNotT, Mv.mIf, Mv.mTup, Mv.mLst, Mv.mNext, Mv.mBad, Mv.mDrop, Mv.mPar, Mv.mAsg, Mv.mStore, Mv.mNeg, Mv.fNeg, Mv.mYes, Mv.mNoP, Mv.mPart, Mv.mSl, Mv.fI, Mv.fAdd, Mv.fSub, Mv.fMul, Mv.fMod, Mv.fDiv, Mv.fPow, Mv.fLt, Mv.fLe, Mv.fGt, Mv.fGe, Mv.yes2, Mv.fIsN, Mv.fNotN, Mv.isNon, Mv.fIx, Mv.items_tup, Mv.items_new, Mv.list_new, Mv.lstOf_new, Mv.fEq_int, Mv.fNe_int, Mv.fLen_tup, Mv.fMax2, Mv.fMin2, Mv.fInt, Mv.fAbs, Mv.mIsi, Mv.isT, Mv.gN, Mv.gT, Mv.setAll, Mv.wipeM, Mv.R.bind_ok, Mv.R.bind_bad, Mv.R.noX_ok, Mv.R.andS_ok, Mv.R.andS_bad, Mv.S.andS_nx, Mv.S.andS_rt, Mv.S.andS_bad, Mv.S.andS_bk, Mv.S.andS_ct, List.map_cons, List.map_nil, List.cons_append, List.nil_append, List.append_nil, List.replicate_succ, List.replicate_zero, List.length_cons, List.length_nil, List.set_cons_zero, List.set_cons_succ, List.getElem?_cons_zero, List.getElem?_cons_succ, List.getElem?_nil, Nat.reduceAdd, Nat.reduceSub, Nat.reduceEqDiff, Nat.reduceLeDiff, Nat.zero_add, if_true, if_false, Bool.not_true, Bool.not_false, Bool.false_eq_true, decide_true, decide_false, ite_true, ite_false, Option.some.injEq, reduceIte, Mv.mFld, Mv.mIsC, Mv.mMeth, Mv.mMake, Mv.mMakeK, Mv.mEqB, Mv.boolR, Mv.mRev, List.lookup_cons, List.lookup_nil, Nat.reduceBEq, beq_self_eq_true, Mv.ins_new, Mv.set_new, items_new, hc]
    unfold agedL rowM ivs
    rw [List.map_cons, List.map_map]
    exact ⟨_, rfl⟩
  · intro a _
    refine ⟨_, rfl, ?_⟩
    simp only [Mv.mDef, Mv.mSeq, Mv.mSet, Mv.mRet, Mv.mRetN, Mv.mIfS, Mv.mVar, Mv.mC, Mv.mBin, Mv.mChain, Mv.mCall, Mv.mDo, Mv.mCons, Mv.mNil, Mv.mAndV, Mv.mOrV, Mv.mNotV, Mv.mAsB, Mv.mAndT, Mv.mOrT, Mv.mNotT, Mv.mIf, Mv.mTup, Mv.mLst, Mv.mNext, Mv.mBad, Mv.mDrop, Mv.mPar, Mv.mAsg, Mv.mStore, Mv.mNeg, Mv.fNeg, Mv.mYes, Mv.mNoP, Mv.mPart, Mv.mSl, Mv.fI, Mv.fAdd, Mv.fSub, Mv.fMul, Mv.fMod, Mv.fDiv, Mv.fPow, Mv.fLt, Mv.fLe, Mv.fGt, Mv.fGe, Mv.yes2, Mv.fIsN, Mv.fNotN, Mv.isNon, Mv.fIx, Mv.items_tup, Mv.items_new, Mv.list_new, Mv.lstOf_new, Mv.fEq_int, Mv.fNe_int, Mv.fLen_tup, Mv.fMax2, Mv.fMin2, Mv.fInt, Mv.fAbs, Mv.mIsi, Mv.isT, Mv.gN, Mv.gT, Mv.setAll, Mv.wipeM, Mv.R.bind_ok, Mv.R.bind_bad, Mv.R.noX_ok, Mv.R.andS_ok, Mv.R.andS_bad, Mv.S.andS_nx, Mv.S.andS_rt, Mv.S.andS_bad, Mv.S.andS_bk, Mv.S.andS_ct, List.map_cons, List.map_nil, List.cons_append, List.nil_append, List.append_nil, List.replicate_succ, List.replicate_zero, List.length_cons, List.length_nil, List.set_cons_zero, List.set_cons_succ, List.getElem?_cons_zero, List.getElem?_cons_succ, List.getElem?_nil, Nat.reduceAdd, Nat.reduceSub, Nat.reduceEqDiff, Nat.reduceLeDiff, Nat.zero_add, if_true, if_false, Bool.not_true, Bool.not_false, Bool.false_eq_true, decide_true, decide_false, ite_true, ite_false, Option.some.injEq, reduceIte, F_horizon_of_eq e k]
    exact ⟨trivial, fun _ => trivial⟩
noncomputable def G_aged : List MV → MH → R MV := specP (fun l : List Int => [rowM l]) (fun _ l => l.length ≤ 1000) fun P l => rowM (agedL P l)
theorem G_aged_eq {h : MH} {n : Nat} {P : Plan} (e : HasP h n P) (k : P.Ok) (l : List Int) (hl : l.length ≤ 1000) : G_aged [.ref n, rowM l] h = .ok (rowM (agedL P l)) h :=
  specP_eq (fun a b q => tints_inj _ _ (List.cons.inj q).1) e k (b := l) hl
theorem sim_aged (xs : List MV) (h : MH) : Sim h (F_aged (F_horizon_of F_slack_at) xs h) (G_aged xs h) := specP_sim (fun n P l h e k d => F_aged_eq e k l d) (fun _ _ _ => und_tints _ _) xs h

/-! ### the loop of choices_of, good_states -/
theorem set_app (h g : MH) (o o' : MO) : (h ++ [o] ++ g).set h.length o' = h ++ [o'] ++ g := by simp
theorem lst_mid (h g : MH) (o : MO) : (h ++ [o] ++ g)[h.length]? = some o := by simp
theorem pow10 : 2 ^ 11 ≤ cap := by decide
theorem keys_row {h : MH} {env : MEnv} (L : List (List Int)) (hL : ∀ l ∈ L, l.length ≤ cap) : allSome ((rowsM L).map (keyAt (mTup (mCons (mCall fLen (mCons (mVar 0) mNil)) (mCons (mVar 0) mNil))) (lamEnv env [] 1) h)) = some (L.map keyS) := by
  unfold rowsM
  rw [List.map_map]
  refine allSome_map fun l hl => ?_
  show keyAt _ _ h (rowM l) = _
  unfold keyAt lamEnv
  have e1 : dataOf 12 h (.tup [.int (l.length : Nat), .tup (ivs l)]) = some (keyS l) := by
    have : dataOf 11 h (.tup (ivs l)) = some (.tuple (l.map PyData.int)) := data_ints 9 h l
    show (allSome ([MV.int (l.length : Nat), MV.tup (ivs l)].map (dataOf 11 h))).map PyData.tuple = _
    simp only [List.map_cons, List.map_nil, this, show dataOf 11 h (.int (l.length : Nat)) = some (.int (l.length : Nat)) from rfl, allSome]
    rfl
  have c2 : (2 ≤ cap) = True := eq_true (by decide)
  simp only [Mv.mDef, Mv.mSeq, Mv.mSet, Mv.mRet, Mv.mRetN, Mv.mIfS, Mv.mVar, Mv.mC, Mv.mBin, Mv.mChain, Mv.mCall, Mv.mDo, Mv.mCons, Mv.mNil, Mv.mAndV, Mv.mOrV, Mv.mNotV, Mv.mAsB, Mv.mAndT, Mv.mOrT, Mv.mNotT, Mv.mIf, Mv.mTup, Mv.mLst, Mv.mNext, Mv.mBad, Mv.mDrop, Mv.mPar, Mv.mAsg, Mv.mStore, Mv.mNeg, Mv.fNeg, Mv.mYes, Mv.mNoP, Mv.mPart, Mv.mSl, Mv.fI, Mv.fAdd, Mv.fSub, Mv.fMul, Mv.fMod, Mv.fDiv, Mv.fPow, Mv.fLt, Mv.fLe, Mv.fGt, Mv.fGe, Mv.yes2, Mv.fIsN, Mv.fNotN, Mv.isNon, Mv.fIx, Mv.items_tup, Mv.items_new, Mv.list_new, Mv.lstOf_new, Mv.fEq_int, Mv.fNe_int, Mv.fLen_tup, Mv.fMax2, Mv.fMin2, Mv.fInt, Mv.fAbs, Mv.mIsi, Mv.isT, Mv.gN, Mv.gT, Mv.setAll, Mv.wipeM, Mv.R.bind_ok, Mv.R.bind_bad, Mv.R.noX_ok, Mv.R.andS_ok, Mv.R.andS_bad, Mv.S.andS_nx, Mv.S.andS_rt, Mv.S.andS_bad, Mv.S.andS_bk, Mv.S.andS_ct, List.map_cons, List.map_nil, List.cons_append, List.nil_append, List.append_nil, List.replicate_succ, List.replicate_zero, List.length_cons, List.length_nil, List.set_cons_zero, List.set_cons_succ, List.getElem?_cons_zero, List.getElem?_cons_succ, List.getElem?_nil, Nat.reduceAdd, Nat.reduceSub, Nat.reduceEqDiff, Nat.reduceLeDiff, Nat.zero_add, if_true, if_false, Bool.not_true, Bool.not_false, Bool.false_eq_true, decide_true, decide_false, ite_true, ite_false, Option.some.injEq, reduceIte, c2, MH.sm_refl, ints_length, e1]
end Mv

set_option maxHeartbeats 4000000
/-! Q3: choices_of, good_states -/
namespace Mv
open PySem PySem.Spec L2

theorem list_at {h : MH} {n : Nat} {xs : List MV} (e : h[n]? = some (.lst xs)) : listOf h (.ref n) = some xs := items_at e
/-- what one turn adds -/
theorem grow_comp {h : MH} {m : Nat} {L : List (List Int)} (e : h[m]? = some (.lst (rowsM L))) (hl : L.length ≤ cap) (hL : ∀ s ∈ L, s.length ≤ 1000) {most a : Int} {env : MEnv} {tg : MG} {c : MT} {el : ME} {own : List Nat}
    (step : ∀ s ∈ L, ∃ env', tg (rowM s) (wipeM env own) = some env' ∧ c env' h = .ok (decide ((s.length : Int) < most)) h ∧ el env' h = .ok (rowM (s ++ [a])) h) :
    compGo (itL m) tg c el own fuel 0 env h [] = .ok (.ref h.length) (h ++ [.lst (rowsM ((L.filter fun s => decide ((s.length : Int) < most)).map fun s => s ++ [a]))]) := by
  rw [comp_pure (l := L) (enc := rowM) (cb := fun s => decide ((s.length : Int) < most)) (f := fun s => rowM (s ++ [a])) (fun i => itL_nx e i) hl]
  · unfold rowsM
    rw [List.map_map]
    rfl
  · intro s hs
    obtain ⟨env', e1, e2, e3⟩ := step s hs
    exact ⟨env', e1, e2, fun _ => e3⟩
theorem extend_ok {h g : MH} {A B : List (List Int)} (hl : A.length + B.length ≤ cap) : fExtend (.ref h.length) [.ref (h ++ [MO.lst (rowsM A)] ++ g).length] (h ++ [MO.lst (rowsM A)] ++ g ++ [MO.lst (rowsM B)]) = .ok .non (h ++ [MO.lst (rowsM (A ++ B))] ++ (g ++ [MO.lst (rowsM B)])) := by
  have e1 : lstOf (h ++ [MO.lst (rowsM A)] ++ g ++ [MO.lst (rowsM B)]) h.length = some (rowsM A) := lstOf_at (by rw [List.append_assoc _ g]; exact lst_mid h _ _)
  have e2 : lstOf (h ++ [MO.lst (rowsM A)] ++ g ++ [MO.lst (rowsM B)]) (h ++ [MO.lst (rowsM A)] ++ g).length = some (rowsM B) := lstOf_new _ _
  unfold fExtend
  simp only [e1, e2]
  rw [if_pos (by rw [rowsM_len, rowsM_len]; exact hl)]
  rw [List.append_assoc _ g, set_app]
  unfold rowsM
  rw [List.map_append]
theorem items_row (h : MH) (s : List Int) : itemsOf h (rowM s) = some (ivs s) := rfl
theorem row_snoc (s : List Int) (a : Int) : rowM (s ++ [a]) = .tup (ivs s ++ [MV.int a]) := by unfold rowM ivs; rw [List.map_append]; rfl
theorem parts_small {most : Int} {ages : List Int} (h : ages.length ≤ 11) (i : Nat) : (partsL most (ages.take i)).length ≤ 2 ^ 11 := by
  refine Nat.le_trans (partsL_len most _) (Nat.pow_le_pow_right (by decide) ?_)
  rw [List.length_take]
  omega
theorem parts_each {most : Int} {ages s : List Int} (h : ages.length ≤ 11) {i : Nat} (hs : s ∈ partsL most (ages.take i)) : s.length ≤ 11 := by
  have h1 := (partsL_sub hs).length_le
  rw [List.length_take] at h1
  omega
/-- the last part: filter, sort -/
theorem sort_good {h : MH} {m : Nat} {L : List (List Int)} {P : Plan} {n : Nat} (e : HasP h n P) (k : P.Ok) (eL : h[m]? = some (.lst (rowsM L))) (hl : L.length ≤ cap) (hL : ∀ s ∈ L, s.length ≤ cap) {env : MEnv} {tg : MG} {c : MT} {el : ME} {own : List Nat}
    (step : ∀ s ∈ L, ∃ env', tg (rowM s) (wipeM env own) = some env' ∧ c env' h = .ok (isGood P s) h ∧ el env' h = .ok (rowM s) h) :
    mSortK (mLc (fun _ h => .ok (itL m) h) tg c el own) [] 1 (mTup (mCons (mCall fLen (mCons (mVar 0) mNil)) (mCons (mVar 0) mNil))) env h = .ok (.ref (h ++ [MO.lst (rowsM (L.filter (isGood P)))]).length) (h ++ [MO.lst (rowsM (L.filter (isGood P)))] ++ [.lst (rowsM (sortS (L.filter (isGood P))))]) := by
  unfold mSortK mLc
  simp only [Mv.mDef, Mv.mSeq, Mv.mSet, Mv.mRet, Mv.mRetN, Mv.mIfS, Mv.mVar, Mv.mC, Mv.mBin, Mv.mChain, Mv.mCall, Mv.mDo, Mv.mCons, Mv.mNil, Mv.mAndV, Mv.mOrV, Mv.mNotV, Mv.mAsB, Mv.mAndT, Mv.mOrT, Mv.mNotT, Mv.mIf, Mv.mTup, Mv.mLst, Mv.mNext, Mv.mBad, Mv.mDrop, Mv.mPar, Mv.mAsg, Mv.mStore, Mv.mNeg, Mv.fNeg, Mv.mYes, Mv.mNoP, Mv.mPart, Mv.mSl, Mv.fI, Mv.fAdd, Mv.fSub, Mv.fMul, Mv.fMod, Mv.fDiv, Mv.fPow, Mv.fLt, Mv.fLe, Mv.fGt, Mv.fGe, Mv.yes2, Mv.fIsN, Mv.fNotN, Mv.isNon, Mv.fIx, Mv.items_tup, Mv.items_new, Mv.list_new, Mv.lstOf_new, Mv.fEq_int, Mv.fNe_int, Mv.fLen_tup, Mv.fMax2, Mv.fMin2, Mv.fInt, Mv.fAbs, Mv.mIsi, Mv.isT, Mv.gN, Mv.gT, Mv.setAll, Mv.wipeM, Mv.R.bind_ok, Mv.R.bind_bad, Mv.R.noX_ok, Mv.R.andS_ok, Mv.R.andS_bad, Mv.S.andS_nx, Mv.S.andS_rt, Mv.S.andS_bad, Mv.S.andS_bk, Mv.S.andS_ct, List.map_cons, List.map_nil, List.cons_append, List.nil_append, List.append_nil, List.replicate_succ, List.replicate_zero, List.length_cons, List.length_nil, List.set_cons_zero, List.set_cons_succ, List.getElem?_cons_zero, List.getElem?_cons_succ, List.getElem?_nil, Nat.reduceAdd, Nat.reduceSub, Nat.reduceEqDiff, Nat.reduceLeDiff, Nat.zero_add, if_true, if_false, Bool.not_true, Bool.not_false, Bool.false_eq_true, decide_true, decide_false, ite_true, ite_false, Option.some.injEq, reduceIte]
  rw [comp_pure (l := L) (enc := rowM) (cb := isGood P) (f := rowM) (fun i => itL_nx eL i) hl]
  · have e1 : listOf (h ++ [MO.lst (rowsM (L.filter (isGood P)))]) (.ref h.length) = some (rowsM (L.filter (isGood P))) := list_new h _
    have e2 := keys_row (h := h ++ [MO.lst (rowsM (L.filter (isGood P)))]) (env := env) (L.filter (isGood P)) fun l hl => hL l (List.mem_filter.mp hl).1
    have c1 : (rowsM (L.filter (isGood P))).length ≤ cap := by
      rw [rowsM_len]
      exact Nat.le_trans (List.length_filter_le _ _) hl
    have eR : (L.filter (isGood P)).map rowM = rowsM (L.filter (isGood P)) := rfl
    rw [eR, R.bind_ok]
    simp only [e1, e2]
    rw [if_pos ⟨c1, alikeB_map alike_keyS _, sortB_map (fun _ => rfl) _⟩]
    have e3 : sortD (rowsM (L.filter (isGood P))) ((L.filter (isGood P)).map keyS) = rowsM (sortS (L.filter (isGood P))) := sortD_map rowM keyS _
    rw [e3]
  · intro s hs
    obtain ⟨env', e1, e2, e3⟩ := step s hs
    exact ⟨env', e1, e2, fun _ => e3⟩
theorem F_choices_of_eq {h : MH} {n : Nat} {P : Plan} (e : HasP h n P) (k : P.Ok) (most : Int) (st : List Int) (hs : st.length ≤ 10) : ∃ g, F_choices_of G_aged G_is_good [.ref n, .int most, rowM st] h = .ok (.ref (h ++ g).length) (h ++ g ++ [.lst (rowsM (sortS ((partsL most (agedL P st)).filter (isGood P))))]) := by
  unfold F_choices_of m_choices_of
  have c1 : (1 ≤ cap) = True := eq_true (by decide)
  have ha : (agedL P st).length ≤ 11 := Nat.le_trans (agedL_len P st) (by omega)
  have e0 : [MV.tup []] = rowsM [[]] := rfl
  have z0 : (0 ≤ cap) = True := eq_true (by decide)
  simp only [Mv.mDef, Mv.mSeq, Mv.mSet, Mv.mRet, Mv.mRetN, Mv.mIfS, Mv.mVar, Mv.mC, Mv.mBin, Mv.mChain, Mv.mCall, Mv.mDo, Mv.mCons, Mv.mNil, Mv.mAndV, Mv.mOrV, Mv.mNotV, Mv.mAsB, Mv.mAndT, Mv.mOrT, Mv.mNotT, Mv.mIf, Mv.mTup, Mv.mLst, Mv.mNext, Mv.mBad, Mv.mDrop, Mv.mPar, Mv.mAsg, Mv.mStore, Mv.mNeg, Mv.fNeg, Mv.mYes, Mv.mNoP, Mv.mPart, Mv.mSl, Mv.fI, Mv.fAdd, Mv.fSub, Mv.fMul, Mv.fMod, Mv.fDiv, Mv.fPow, Mv.fLt, Mv.fLe, Mv.fGt, Mv.fGe, Mv.yes2, Mv.fIsN, Mv.fNotN, Mv.isNon, Mv.fIx, Mv.items_tup, Mv.items_new, Mv.list_new, Mv.lstOf_new, Mv.fEq_int, Mv.fNe_int, Mv.fLen_tup, Mv.fMax2, Mv.fMin2, Mv.fInt, Mv.fAbs, Mv.mIsi, Mv.isT, Mv.gN, Mv.gT, Mv.setAll, Mv.wipeM, Mv.R.bind_ok, Mv.R.bind_bad, Mv.R.noX_ok, Mv.R.andS_ok, Mv.R.andS_bad, Mv.S.andS_nx, Mv.S.andS_rt, Mv.S.andS_bad, Mv.S.andS_bk, Mv.S.andS_ct, List.map_cons, List.map_nil, List.cons_append, List.nil_append, List.append_nil, List.replicate_succ, List.replicate_zero, List.length_cons, List.length_nil, List.set_cons_zero, List.set_cons_succ, List.getElem?_cons_zero, List.getElem?_cons_succ, List.getElem?_nil, Nat.reduceAdd, Nat.reduceSub, Nat.reduceEqDiff, Nat.reduceLeDiff, Nat.zero_add, if_true, if_false, Bool.not_true, Bool.not_false, Bool.false_eq_true, decide_true, decide_false, ite_true, ite_false, Option.some.injEq, reduceIte, Mv.mFld, Mv.mIsC, Mv.mMeth, Mv.mMake, Mv.mMakeK, Mv.mEqB, Mv.boolR, Mv.mRev, List.lookup_cons, List.lookup_nil, Nat.reduceBEq, beq_self_eq_true, Mv.ins_new, Mv.set_new, mFor, mItV, c1, z0]
  rw [e0]
  simp only [Mv.mDef, Mv.mSeq, Mv.mSet, Mv.mRet, Mv.mRetN, Mv.mIfS, Mv.mVar, Mv.mC, Mv.mBin, Mv.mChain, Mv.mCall, Mv.mDo, Mv.mCons, Mv.mNil, Mv.mAndV, Mv.mOrV, Mv.mNotV, Mv.mAsB, Mv.mAndT, Mv.mOrT, Mv.mNotT, Mv.mIf, Mv.mTup, Mv.mLst, Mv.mNext, Mv.mBad, Mv.mDrop, Mv.mPar, Mv.mAsg, Mv.mStore, Mv.mNeg, Mv.fNeg, Mv.mYes, Mv.mNoP, Mv.mPart, Mv.mSl, Mv.fI, Mv.fAdd, Mv.fSub, Mv.fMul, Mv.fMod, Mv.fDiv, Mv.fPow, Mv.fLt, Mv.fLe, Mv.fGt, Mv.fGe, Mv.yes2, Mv.fIsN, Mv.fNotN, Mv.isNon, Mv.fIx, Mv.items_tup, Mv.items_new, Mv.list_new, Mv.lstOf_new, Mv.fEq_int, Mv.fNe_int, Mv.fLen_tup, Mv.fMax2, Mv.fMin2, Mv.fInt, Mv.fAbs, Mv.mIsi, Mv.isT, Mv.gN, Mv.gT, Mv.setAll, Mv.wipeM, Mv.R.bind_ok, Mv.R.bind_bad, Mv.R.noX_ok, Mv.R.andS_ok, Mv.R.andS_bad, Mv.S.andS_nx, Mv.S.andS_rt, Mv.S.andS_bad, Mv.S.andS_bk, Mv.S.andS_ct, List.map_cons, List.map_nil, List.cons_append, List.nil_append, List.append_nil, List.replicate_succ, List.replicate_zero, List.length_cons, List.length_nil, List.set_cons_zero, List.set_cons_succ, List.getElem?_cons_zero, List.getElem?_cons_succ, List.getElem?_nil, Nat.reduceAdd, Nat.reduceSub, Nat.reduceEqDiff, Nat.reduceLeDiff, Nat.zero_add, if_true, if_false, Bool.not_true, Bool.not_false, Bool.false_eq_true, decide_true, decide_false, ite_true, ite_false, Option.some.injEq, reduceIte, Mv.mFld, Mv.mIsC, Mv.mMeth, Mv.mMake, Mv.mMakeK, Mv.mEqB, Mv.boolR, Mv.mRev, List.lookup_cons, List.lookup_nil, Nat.reduceBEq, beq_self_eq_true, Mv.ins_new, Mv.set_new, G_aged_eq (e.app (g := [MO.lst (rowsM [[]])])) k st (by omega)]
  refine for_ind (it := itT (ivs (agedL P st))) (xs := ivs (agedL P st)) (P := fun s => ∃ g, (match s.andS (mRet (mSortK (mLc (mItV (mVar 3)) (gN 5) (mAsB (mDo 2 G_is_good (mCons (mVar 0) (mCons (mVar 5) (mNil))))) (mVar 5) [5]) [] 1 (mTup (mCons (mCall fLen (mCons (mVar 0) (mNil))) (mCons (mVar 0) (mNil)))))) with
        | .nx _ h' => R.ok MV.non h' | .rt v h' => .ok v h' | .exc x _ h' => .exc x h' | _ => .bad) = .ok (.ref (h ++ g).length) (h ++ g ++ [.lst (rowsM (sortS ((partsL most (agedL P st)).filter (isGood P))))]))
    (fun i env h' => (∃ g, h' = h ++ [MO.lst (rowsM (partsL most ((agedL P st).take i)))] ++ g) ∧ ∃ x4 x5, env = [some (.ref n), some (.int most), some (rowM st), some (.ref h.length), x4, x5])
    (fun i env h' _ => itT_nx _ i h') ?_ ?_ fuel 0 _ (h ++ [MO.lst (rowsM [[]])]) ⟨⟨[], by simp [partsL]⟩, none, none, rfl⟩ (Nat.zero_le _) (by have := fuel_ge; rw [ints_length]; omega)
  · rintro env h' ⟨⟨g, rfl⟩, x4, x5, rfl⟩
    rw [ints_length, List.take_length]
    have hp := parts_small (most := most) ha (agedL P st).length
    rw [List.take_length] at hp
    have em : (h ++ [MO.lst (rowsM (partsL most (agedL P st)))] ++ g)[h.length]? = some (.lst (rowsM (partsL most (agedL P st)))) := lst_mid h g _
    have ep : HasP (h ++ [MO.lst (rowsM (partsL most (agedL P st)))] ++ g) n P := (e.app).app
    have q := sort_good (env := [some (.ref n), some (.int most), some (rowM st), some (.ref h.length), x4, x5]) (tg := gN 5) (c := mAsB (mDo 2 G_is_good (mCons (mVar 0) (mCons (mVar 5) (mNil))))) (el := mVar 5) (own := [5]) ep k em (Nat.le_trans hp pow10) (fun s hs => by
        have := parts_each (most := most) (ages := agedL P st) ha (i := (agedL P st).length) (by rw [List.take_length]; exact hs)
        unfold cap; omega) (fun s hs => by
        refine ⟨_, rfl, ?_, ?_⟩
        · have := parts_each (most := most) (ages := agedL P st) ha (i := (agedL P st).length) (by rw [List.take_length]; exact hs)
          simp only [Mv.mDef, Mv.mSeq, Mv.mSet, Mv.mRet, Mv.mRetN, Mv.mIfS, Mv.mVar, Mv.mC, Mv.mBin, Mv.mChain, Mv.mCall, Mv.mDo, Mv.mCons, Mv.mNil, Mv.mAndV, Mv.mOrV, Mv.mNotV, Mv.mAsB, Mv.mAndT, Mv.mOrT, Mv.mNotT, Mv.mIf, Mv.mTup, Mv.mLst, Mv.mNext, Mv.mBad, Mv.mDrop, Mv.mPar, Mv.mAsg, Mv.mStore, Mv.mNeg, Mv.fNeg, Mv.mYes, Mv.mNoP, Mv.mPart, Mv.mSl, Mv.fI, Mv.fAdd, Mv.fSub, Mv.fMul, Mv.fMod, Mv.fDiv, Mv.fPow, Mv.fLt, Mv.fLe, Mv.fGt, Mv.fGe, Mv.yes2, Mv.fIsN, Mv.fNotN, Mv.isNon, Mv.fIx, Mv.items_tup, Mv.items_new, Mv.list_new, Mv.lstOf_new, Mv.fEq_int, Mv.fNe_int, Mv.fLen_tup, Mv.fMax2, Mv.fMin2, Mv.fInt, Mv.fAbs, Mv.mIsi, Mv.isT, Mv.gN, Mv.gT, Mv.setAll, Mv.wipeM, Mv.R.bind_ok, Mv.R.bind_bad, Mv.R.noX_ok, Mv.R.andS_ok, Mv.R.andS_bad, Mv.S.andS_nx, Mv.S.andS_rt, Mv.S.andS_bad, Mv.S.andS_bk, Mv.S.andS_ct, List.map_cons, List.map_nil, List.cons_append, List.nil_append, List.append_nil, List.replicate_succ, List.replicate_zero, List.length_cons, List.length_nil, List.set_cons_zero, List.set_cons_succ, List.getElem?_cons_zero, List.getElem?_cons_succ, List.getElem?_nil, Nat.reduceAdd, Nat.reduceSub, Nat.reduceEqDiff, Nat.reduceLeDiff, Nat.zero_add, if_true, if_false, Bool.not_true, Bool.not_false, Bool.false_eq_true, decide_true, decide_false, ite_true, ite_false, Option.some.injEq, reduceIte, Mv.mFld, Mv.mIsC, Mv.mMeth, Mv.mMake, Mv.mMakeK, Mv.mEqB, Mv.boolR, Mv.mRev, List.lookup_cons, List.lookup_nil, Nat.reduceBEq, beq_self_eq_true, Mv.ins_new, Mv.set_new, G_is_good_eq ep k s (by unfold cap; omega)]
        · simp only [Mv.mDef, Mv.mSeq, Mv.mSet, Mv.mRet, Mv.mRetN, Mv.mIfS, Mv.mVar, Mv.mC, Mv.mBin, Mv.mChain, Mv.mCall, Mv.mDo, Mv.mCons, Mv.mNil, Mv.mAndV, Mv.mOrV, Mv.mNotV, Mv.mAsB, Mv.mAndT, Mv.mOrT, Mv.mNotT, Mv.mIf, Mv.mTup, Mv.mLst, Mv.mNext, Mv.mBad, Mv.mDrop, Mv.mPar, Mv.mAsg, Mv.mStore, Mv.mNeg, Mv.fNeg, Mv.mYes, Mv.mNoP, Mv.mPart, Mv.mSl, Mv.fI, Mv.fAdd, Mv.fSub, Mv.fMul, Mv.fMod, Mv.fDiv, Mv.fPow, Mv.fLt, Mv.fLe, Mv.fGt, Mv.fGe, Mv.yes2, Mv.fIsN, Mv.fNotN, Mv.isNon, Mv.fIx, Mv.items_tup, Mv.items_new, Mv.list_new, Mv.lstOf_new, Mv.fEq_int, Mv.fNe_int, Mv.fLen_tup, Mv.fMax2, Mv.fMin2, Mv.fInt, Mv.fAbs, Mv.mIsi, Mv.isT, Mv.gN, Mv.gT, Mv.setAll, Mv.wipeM, Mv.R.bind_ok, Mv.R.bind_bad, Mv.R.noX_ok, Mv.R.andS_ok, Mv.R.andS_bad, Mv.S.andS_nx, Mv.S.andS_rt, Mv.S.andS_bad, Mv.S.andS_bk, Mv.S.andS_ct, List.map_cons, List.map_nil, List.cons_append, List.nil_append, List.append_nil, List.replicate_succ, List.replicate_zero, List.length_cons, List.length_nil, List.set_cons_zero, List.set_cons_succ, List.getElem?_cons_zero, List.getElem?_cons_succ, List.getElem?_nil, Nat.reduceAdd, Nat.reduceSub, Nat.reduceEqDiff, Nat.reduceLeDiff, Nat.zero_add, if_true, if_false, Bool.not_true, Bool.not_false, Bool.false_eq_true, decide_true, decide_false, ite_true, ite_false, Option.some.injEq, reduceIte, Mv.mFld, Mv.mIsC, Mv.mMeth, Mv.mMake, Mv.mMakeK, Mv.mEqB, Mv.boolR, Mv.mRev, List.lookup_cons, List.lookup_nil, Nat.reduceBEq, beq_self_eq_true, Mv.ins_new, Mv.set_new])
    have q2 : mSortK (mLc (mItV (mVar 3)) (gN 5) (mAsB (mDo 2 G_is_good (mCons (mVar 0) (mCons (mVar 5) (mNil))))) (mVar 5) [5]) [] 1 (mTup (mCons (mCall fLen (mCons (mVar 0) (mNil))) (mCons (mVar 0) (mNil)))) [some (.ref n), some (.int most), some (rowM st), some (.ref h.length), x4, x5] (h ++ [MO.lst (rowsM (partsL most (agedL P st)))] ++ g) = mSortK (mLc (fun _ h' => .ok (itL h.length) h') (gN 5) (mAsB (mDo 2 G_is_good (mCons (mVar 0) (mCons (mVar 5) (mNil))))) (mVar 5) [5]) [] 1 (mTup (mCons (mCall fLen (mCons (mVar 0) (mNil))) (mCons (mVar 0) (mNil)))) [some (.ref n), some (.int most), some (rowM st), some (.ref h.length), x4, x5] (h ++ [MO.lst (rowsM (partsL most (agedL P st)))] ++ g) := by
      unfold mSortK mLc mItV
      simp only [Mv.mDef, Mv.mSeq, Mv.mSet, Mv.mRet, Mv.mRetN, Mv.mIfS, Mv.mVar, Mv.mC, Mv.mBin, Mv.mChain, Mv.mCall, Mv.mDo, Mv.mCons, Mv.mNil, Mv.mAndV, Mv.mOrV, Mv.mNotV, Mv.mAsB, Mv.mAndT, Mv.mOrT, Mv.mNotT, Mv.mIf, Mv.mTup, Mv.mLst, Mv.mNext, Mv.mBad, Mv.mDrop, Mv.mPar, Mv.mAsg, Mv.mStore, Mv.mNeg, Mv.fNeg, Mv.mYes, Mv.mNoP, Mv.mPart, Mv.mSl, Mv.fI, Mv.fAdd, Mv.fSub, Mv.fMul, Mv.fMod, Mv.fDiv, Mv.fPow, Mv.fLt, Mv.fLe, Mv.fGt, Mv.fGe, Mv.yes2, Mv.fIsN, Mv.fNotN, Mv.isNon, Mv.fIx, Mv.items_tup, Mv.items_new, Mv.list_new, Mv.lstOf_new, Mv.fEq_int, Mv.fNe_int, Mv.fLen_tup, Mv.fMax2, Mv.fMin2, Mv.fInt, Mv.fAbs, Mv.mIsi, Mv.isT, Mv.gN, Mv.gT, Mv.setAll, Mv.wipeM, Mv.R.bind_ok, Mv.R.bind_bad, Mv.R.noX_ok, Mv.R.andS_ok, Mv.R.andS_bad, Mv.S.andS_nx, Mv.S.andS_rt, Mv.S.andS_bad, Mv.S.andS_bk, Mv.S.andS_ct, List.map_cons, List.map_nil, List.cons_append, List.nil_append, List.append_nil, List.replicate_succ, List.replicate_zero, List.length_cons, List.length_nil, List.set_cons_zero, List.set_cons_succ, List.getElem?_cons_zero, List.getElem?_cons_succ, List.getElem?_nil, Nat.reduceAdd, Nat.reduceSub, Nat.reduceEqDiff, Nat.reduceLeDiff, Nat.zero_add, if_true, if_false, Bool.not_true, Bool.not_false, Bool.false_eq_true, decide_true, decide_false, ite_true, ite_false, Option.some.injEq, reduceIte, items_at em]
    simp only [Mv.mDef, Mv.mSeq, Mv.mSet, Mv.mRet, Mv.mRetN, Mv.mIfS, Mv.mVar, Mv.mC, Mv.mBin, Mv.mChain, Mv.mCall, Mv.mDo, Mv.mCons, Mv.mNil, Mv.mAndV, Mv.mOrV, Mv.mNotV, Mv.mAsB, Mv.mAndT, Mv.mOrT, Mv.mNotT, Mv.mIf, Mv.mTup, Mv.mLst, Mv.mNext, Mv.mBad, Mv.mDrop, Mv.mPar, Mv.mAsg, Mv.mStore, Mv.mNeg, Mv.fNeg, Mv.mYes, Mv.mNoP, Mv.mPart, Mv.mSl, Mv.fI, Mv.fAdd, Mv.fSub, Mv.fMul, Mv.fMod, Mv.fDiv, Mv.fPow, Mv.fLt, Mv.fLe, Mv.fGt, Mv.fGe, Mv.yes2, Mv.fIsN, Mv.fNotN, Mv.isNon, Mv.fIx, Mv.items_tup, Mv.items_new, Mv.list_new, Mv.lstOf_new, Mv.fEq_int, Mv.fNe_int, Mv.fLen_tup, Mv.fMax2, Mv.fMin2, Mv.fInt, Mv.fAbs, Mv.mIsi, Mv.isT, Mv.gN, Mv.gT, Mv.setAll, Mv.wipeM, Mv.R.bind_ok, Mv.R.bind_bad, Mv.R.noX_ok, Mv.R.andS_ok, Mv.R.andS_bad, Mv.S.andS_nx, Mv.S.andS_rt, Mv.S.andS_bad, Mv.S.andS_bk, Mv.S.andS_ct, List.map_cons, List.map_nil, List.cons_append, List.nil_append, List.append_nil, List.replicate_succ, List.replicate_zero, List.length_cons, List.length_nil, List.set_cons_zero, List.set_cons_succ, List.getElem?_cons_zero, List.getElem?_cons_succ, List.getElem?_nil, Nat.reduceAdd, Nat.reduceSub, Nat.reduceEqDiff, Nat.reduceLeDiff, Nat.zero_add, if_true, if_false, Bool.not_true, Bool.not_false, Bool.false_eq_true, decide_true, decide_false, ite_true, ite_false, Option.some.injEq, reduceIte, Mv.mFld, Mv.mIsC, Mv.mMeth, Mv.mMake, Mv.mMakeK, Mv.mEqB, Mv.boolR, Mv.mRev, List.lookup_cons, List.lookup_nil, Nat.reduceBEq, beq_self_eq_true, Mv.ins_new, Mv.set_new, q2, q]
    exact ⟨[MO.lst (rowsM (partsL most (agedL P st)))] ++ g ++ [MO.lst (rowsM ((partsL most (agedL P st)).filter (isGood P)))], by simp only [List.append_assoc]⟩
  · rintro i x env h' hx ⟨⟨g, rfl⟩, x4, x5, rfl⟩
    unfold ivs at hx
    rw [List.getElem?_map] at hx
    cases q : (agedL P st)[i]? with
    | none => rw [q] at hx; cases hx
    | some a =>
      rw [q] at hx
      cases hx
      refine ⟨_, rfl, ?_⟩
      have hp := parts_small (most := most) ha i
      have hp2 := parts_small (most := most) ha (i + 1)
      rw [partsL_take most _ q] at hp2
      have em : (h ++ [MO.lst (rowsM (partsL most ((agedL P st).take i)))] ++ g)[h.length]? = some (.lst (rowsM (partsL most ((agedL P st).take i)))) := lst_mid h g _
      have gc := grow_comp (most := most) (a := a) (env := [some (.ref n), some (.int most), some (rowM st), some (.ref h.length), some (.int a), x5]) (tg := gN 5) (c := mAsB (mBin fLt (mCall fLen (mCons (mVar 5) (mNil))) (mVar 1))) (el := mTup (mStar (mVar 5) (mCons (mVar 4) (mNil)))) (own := [5]) em (Nat.le_trans hp pow10) (fun s hs => Nat.le_trans (parts_each ha hs) (by decide)) (fun s hs => by
        have h1 := parts_each ha hs
        have c3 : (s.length + 1 ≤ cap) = True := eq_true (by unfold cap; omega)
        refine ⟨_, rfl, ?_, ?_⟩
        · simp only [Mv.mDef, Mv.mSeq, Mv.mSet, Mv.mRet, Mv.mRetN, Mv.mIfS, Mv.mVar, Mv.mC, Mv.mBin, Mv.mChain, Mv.mCall, Mv.mDo, Mv.mCons, Mv.mNil, Mv.mAndV, Mv.mOrV, Mv.mNotV, Mv.mAsB, Mv.mAndT, Mv.mOrT, Mv.mNotT, Mv.mIf, Mv.mTup, Mv.mLst, Mv.mNext, Mv.mBad, Mv.mDrop, Mv.mPar, Mv.mAsg, Mv.mStore, Mv.mNeg, Mv.fNeg, Mv.mYes, Mv.mNoP, Mv.mPart, Mv.mSl, Mv.fI, Mv.fAdd, Mv.fSub, Mv.fMul, Mv.fMod, Mv.fDiv, Mv.fPow, Mv.fLt, Mv.fLe, Mv.fGt, Mv.fGe, Mv.yes2, Mv.fIsN, Mv.fNotN, Mv.isNon, Mv.fIx, Mv.items_tup, Mv.items_new, Mv.list_new, Mv.lstOf_new, Mv.fEq_int, Mv.fNe_int, Mv.fLen_tup, Mv.fMax2, Mv.fMin2, Mv.fInt, Mv.fAbs, Mv.mIsi, Mv.isT, Mv.gN, Mv.gT, Mv.setAll, Mv.wipeM, Mv.R.bind_ok, Mv.R.bind_bad, Mv.R.noX_ok, Mv.R.andS_ok, Mv.R.andS_bad, Mv.S.andS_nx, Mv.S.andS_rt, Mv.S.andS_bad, Mv.S.andS_bk, Mv.S.andS_ct, List.map_cons, List.map_nil, List.cons_append, List.nil_append, List.append_nil, List.replicate_succ, List.replicate_zero, List.length_cons, List.length_nil, List.set_cons_zero, List.set_cons_succ, List.getElem?_cons_zero, List.getElem?_cons_succ, List.getElem?_nil, Nat.reduceAdd, Nat.reduceSub, Nat.reduceEqDiff, Nat.reduceLeDiff, Nat.zero_add, if_true, if_false, Bool.not_true, Bool.not_false, Bool.false_eq_true, decide_true, decide_false, ite_true, ite_false, Option.some.injEq, reduceIte, Mv.mFld, Mv.mIsC, Mv.mMeth, Mv.mMake, Mv.mMakeK, Mv.mEqB, Mv.boolR, Mv.mRev, List.lookup_cons, List.lookup_nil, Nat.reduceBEq, beq_self_eq_true, Mv.ins_new, Mv.set_new, ints_length]
        · simp only [Mv.mDef, Mv.mSeq, Mv.mSet, Mv.mRet, Mv.mRetN, Mv.mIfS, Mv.mVar, Mv.mC, Mv.mBin, Mv.mChain, Mv.mCall, Mv.mDo, Mv.mCons, Mv.mNil, Mv.mAndV, Mv.mOrV, Mv.mNotV, Mv.mAsB, Mv.mAndT, Mv.mOrT, Mv.mNotT, Mv.mIf, Mv.mTup, Mv.mLst, Mv.mNext, Mv.mBad, Mv.mDrop, Mv.mPar, Mv.mAsg, Mv.mStore, Mv.mNeg, Mv.fNeg, Mv.mYes, Mv.mNoP, Mv.mPart, Mv.mSl, Mv.fI, Mv.fAdd, Mv.fSub, Mv.fMul, Mv.fMod, Mv.fDiv, Mv.fPow, Mv.fLt, Mv.fLe, Mv.fGt, Mv.fGe, Mv.yes2, Mv.fIsN, Mv.fNotN, Mv.isNon, Mv.fIx, Mv.items_tup, Mv.items_new, Mv.list_new, Mv.lstOf_new, Mv.fEq_int, Mv.fNe_int, Mv.fLen_tup, Mv.fMax2, Mv.fMin2, Mv.fInt, Mv.fAbs, Mv.mIsi, Mv.isT, Mv.gN, Mv.gT, Mv.setAll, Mv.wipeM, Mv.R.bind_ok, Mv.R.bind_bad, Mv.R.noX_ok, Mv.R.andS_ok, Mv.R.andS_bad, Mv.S.andS_nx, Mv.S.andS_rt, Mv.S.andS_bad, Mv.S.andS_bk, Mv.S.andS_ct, List.map_cons, List.map_nil, List.cons_append, List.nil_append, List.append_nil, List.replicate_succ, List.replicate_zero, List.length_cons, List.length_nil, List.set_cons_zero, List.set_cons_succ, List.getElem?_cons_zero, List.getElem?_cons_succ, List.getElem?_nil, Nat.reduceAdd, Nat.reduceSub, Nat.reduceEqDiff, Nat.reduceLeDiff, Nat.zero_add, if_true, if_false, Bool.not_true, Bool.not_false, Bool.false_eq_true, decide_true, decide_false, ite_true, ite_false, Option.some.injEq, reduceIte, Mv.mFld, Mv.mIsC, Mv.mMeth, Mv.mMake, Mv.mMakeK, Mv.mEqB, Mv.boolR, Mv.mRev, List.lookup_cons, List.lookup_nil, Nat.reduceBEq, beq_self_eq_true, Mv.ins_new, Mv.set_new, Mv.mStar, items_row, ints_length, List.length_append, c3, row_snoc])
      have hg : (partsL most ((agedL P st).take i)).length + (((partsL most ((agedL P st).take i)).filter fun s => decide ((s.length : Int) < most)).map fun s => s ++ [a]).length ≤ cap := by
        unfold growP at hp2
        rw [List.length_append] at hp2
        exact Nat.le_trans hp2 pow10
      unfold fLt at gc
      simp only [Mv.mDef, Mv.mSeq, Mv.mSet, Mv.mRet, Mv.mRetN, Mv.mIfS, Mv.mVar, Mv.mC, Mv.mBin, Mv.mChain, Mv.mCall, Mv.mDo, Mv.mCons, Mv.mNil, Mv.mAndV, Mv.mOrV, Mv.mNotV, Mv.mAsB, Mv.mAndT, Mv.mOrT, Mv.mNotT, Mv.mIf, Mv.mTup, Mv.mLst, Mv.mNext, Mv.mBad, Mv.mDrop, Mv.mPar, Mv.mAsg, Mv.mStore, Mv.mNeg, Mv.fNeg, Mv.mYes, Mv.mNoP, Mv.mPart, Mv.mSl, Mv.fI, Mv.fAdd, Mv.fSub, Mv.fMul, Mv.fMod, Mv.fDiv, Mv.fPow, Mv.fLt, Mv.fLe, Mv.fGt, Mv.fGe, Mv.yes2, Mv.fIsN, Mv.fNotN, Mv.isNon, Mv.fIx, Mv.items_tup, Mv.items_new, Mv.list_new, Mv.lstOf_new, Mv.fEq_int, Mv.fNe_int, Mv.fLen_tup, Mv.fMax2, Mv.fMin2, Mv.fInt, Mv.fAbs, Mv.mIsi, Mv.isT, Mv.gN, Mv.gT, Mv.setAll, Mv.wipeM, Mv.R.bind_ok, Mv.R.bind_bad, Mv.R.noX_ok, Mv.R.andS_ok, Mv.R.andS_bad, Mv.S.andS_nx, Mv.S.andS_rt, Mv.S.andS_bad, Mv.S.andS_bk, Mv.S.andS_ct, List.map_cons, List.map_nil, List.cons_append, List.nil_append, List.append_nil, List.replicate_succ, List.replicate_zero, List.length_cons, List.length_nil, List.set_cons_zero, List.set_cons_succ, List.getElem?_cons_zero, List.getElem?_cons_succ, List.getElem?_nil, Nat.reduceAdd, Nat.reduceSub, Nat.reduceEqDiff, Nat.reduceLeDiff, Nat.zero_add, if_true, if_false, Bool.not_true, Bool.not_false, Bool.false_eq_true, decide_true, decide_false, ite_true, ite_false, Option.some.injEq, reduceIte, Mv.mFld, Mv.mIsC, Mv.mMeth, Mv.mMake, Mv.mMakeK, Mv.mEqB, Mv.boolR, Mv.mRev, List.lookup_cons, List.lookup_nil, Nat.reduceBEq, beq_self_eq_true, Mv.ins_new, Mv.set_new, Mv.mLm, mLc, mItV, items_at em, list_at em, gc, extend_ok hg]
      rw [partsL_take most _ q]
      exact ⟨⟨_, rfl⟩, _, _, rfl⟩
noncomputable def G_choices_of : List MV → MH → R MV := specPL (fun b : Int × List Int => [.int b.1, rowM b.2]) (fun _ b => b.2.length ≤ 10) fun P b => rowsM (sortS ((partsL b.1 (agedL P b.2)).filter (isGood P)))
theorem two_sm (a b : Int × List Int) (e : [MV.int a.1, rowM a.2] = [MV.int b.1, rowM b.2]) : a = b := by
  simp only [List.cons.injEq, MV.int.injEq, and_true] at e
  exact Prod.ext e.1 (tints_inj _ _ e.2)
theorem G_choices_of_eq {h : MH} {n : Nat} {P : Plan} (e : HasP h n P) (k : P.Ok) (most : Int) (st : List Int) (hs : st.length ≤ 10) : G_choices_of [.ref n, .int most, rowM st] h = .ok (.ref h.length) (h ++ [.lst (rowsM (sortS ((partsL most (agedL P st)).filter (isGood P))))]) :=
  specPL_eq two_sm e k (b := (most, st)) hs
theorem sim_choices_of (xs : List MV) (h : MH) : Sim h (F_choices_of G_aged G_is_good xs h) (G_choices_of xs h) := specPL_sim (fun n P b h e k d => F_choices_of_eq e k b.1 b.2 d) (fun _ _ _ => und_rowsM _ _) xs h
def agesH (P : Plan) : List Int := prog 0 1 (horizon P + 1).toNat
theorem agesH_len {P : Plan} (k : P.Ok) : (agesH P).length ≤ 10 := by
  have := k.hor9
  unfold agesH
  rw [prog_length]
  omega
theorem F_good_states_eq {h : MH} {n : Nat} {P : Plan} (e : HasP h n P) (k : P.Ok) (most : Int) : ∃ g, F_good_states (F_horizon_of F_slack_at) G_is_good [.ref n, .int most] h = .ok (.ref (h ++ g).length) (h ++ g ++ [.lst (rowsM (sortS ((partsL most (agesH P)).filter (isGood P))))]) := by
  unfold F_good_states m_good_states
  have c1 : (1 ≤ cap) = True := eq_true (by decide)
  have hk9 := k.hor9
  have hk0 := k.hor0
  have hb : inR (horizon P + 1) = true := inR_of (by omega)
  have ha : (agesH P).length ≤ 11 := Nat.le_trans (agesH_len k) (by omega)
  have e0 : [MV.tup []] = rowsM [[]] := rfl
  have z0 : (0 ≤ cap) = True := eq_true (by decide)
  simp only [Mv.mDef, Mv.mSeq, Mv.mSet, Mv.mRet, Mv.mRetN, Mv.mIfS, Mv.mVar, Mv.mC, Mv.mBin, Mv.mChain, Mv.mCall, Mv.mDo, Mv.mCons, Mv.mNil, Mv.mAndV, Mv.mOrV, Mv.mNotV, Mv.mAsB, Mv.mAndT, Mv.mOrT, Mv.mNotT, Mv.mIf, Mv.mTup, Mv.mLst, Mv.mNext, Mv.mBad, Mv.mDrop, Mv.mPar, Mv.mAsg, Mv.mStore, Mv.mNeg, Mv.fNeg, Mv.mYes, Mv.mNoP, Mv.mPart, Mv.mSl, Mv.fI, Mv.fAdd, Mv.fSub, Mv.fMul, Mv.fMod, Mv.fDiv, Mv.fPow, Mv.fLt, Mv.fLe, Mv.fGt, Mv.fGe, Mv.yes2, Mv.fIsN, Mv.fNotN, Mv.isNon, Mv.fIx, Mv.items_tup, Mv.items_new, Mv.list_new, Mv.lstOf_new, Mv.fEq_int, Mv.fNe_int, Mv.fLen_tup, Mv.fMax2, Mv.fMin2, Mv.fInt, Mv.fAbs, Mv.mIsi, Mv.isT, Mv.gN, Mv.gT, Mv.setAll, Mv.wipeM, Mv.R.bind_ok, Mv.R.bind_bad, Mv.R.noX_ok, Mv.R.andS_ok, Mv.R.andS_bad, Mv.S.andS_nx, Mv.S.andS_rt, Mv.S.andS_bad, Mv.S.andS_bk, Mv.S.andS_ct, List.map_cons, List.map_nil, List.cons_append, List.nil_append, List.append_nil, List.replicate_succ, List.replicate_zero, List.length_cons, List.length_nil, List.set_cons_zero, List.set_cons_succ, List.getElem?_cons_zero, List.getElem?_cons_succ, List.getElem?_nil, Nat.reduceAdd, Nat.reduceSub, Nat.reduceEqDiff, Nat.reduceLeDiff, Nat.zero_add, if_true, if_false, Bool.not_true, Bool.not_false, Bool.false_eq_true, decide_true, decide_false, ite_true, ite_false, Option.some.injEq, reduceIte, Mv.mFld, Mv.mIsC, Mv.mMeth, Mv.mMake, Mv.mMakeK, Mv.mEqB, Mv.boolR, Mv.mRev, List.lookup_cons, List.lookup_nil, Nat.reduceBEq, beq_self_eq_true, Mv.ins_new, Mv.set_new, mFor, mRng1, c1, z0]
  rw [e0]
  simp only [Mv.mDef, Mv.mSeq, Mv.mSet, Mv.mRet, Mv.mRetN, Mv.mIfS, Mv.mVar, Mv.mC, Mv.mBin, Mv.mChain, Mv.mCall, Mv.mDo, Mv.mCons, Mv.mNil, Mv.mAndV, Mv.mOrV, Mv.mNotV, Mv.mAsB, Mv.mAndT, Mv.mOrT, Mv.mNotT, Mv.mIf, Mv.mTup, Mv.mLst, Mv.mNext, Mv.mBad, Mv.mDrop, Mv.mPar, Mv.mAsg, Mv.mStore, Mv.mNeg, Mv.fNeg, Mv.mYes, Mv.mNoP, Mv.mPart, Mv.mSl, Mv.fI, Mv.fAdd, Mv.fSub, Mv.fMul, Mv.fMod, Mv.fDiv, Mv.fPow, Mv.fLt, Mv.fLe, Mv.fGt, Mv.fGe, Mv.yes2, Mv.fIsN, Mv.fNotN, Mv.isNon, Mv.fIx, Mv.items_tup, Mv.items_new, Mv.list_new, Mv.lstOf_new, Mv.fEq_int, Mv.fNe_int, Mv.fLen_tup, Mv.fMax2, Mv.fMin2, Mv.fInt, Mv.fAbs, Mv.mIsi, Mv.isT, Mv.gN, Mv.gT, Mv.setAll, Mv.wipeM, Mv.R.bind_ok, Mv.R.bind_bad, Mv.R.noX_ok, Mv.R.andS_ok, Mv.R.andS_bad, Mv.S.andS_nx, Mv.S.andS_rt, Mv.S.andS_bad, Mv.S.andS_bk, Mv.S.andS_ct, List.map_cons, List.map_nil, List.cons_append, List.nil_append, List.append_nil, List.replicate_succ, List.replicate_zero, List.length_cons, List.length_nil, List.set_cons_zero, List.set_cons_succ, List.getElem?_cons_zero, List.getElem?_cons_succ, List.getElem?_nil, Nat.reduceAdd, Nat.reduceSub, Nat.reduceEqDiff, Nat.reduceLeDiff, Nat.zero_add, if_true, if_false, Bool.not_true, Bool.not_false, Bool.false_eq_true, decide_true, decide_false, ite_true, ite_false, Option.some.injEq, reduceIte, Mv.mFld, Mv.mIsC, Mv.mMeth, Mv.mMake, Mv.mMakeK, Mv.mEqB, Mv.boolR, Mv.mRev, List.lookup_cons, List.lookup_nil, Nat.reduceBEq, beq_self_eq_true, Mv.ins_new, Mv.set_new, F_horizon_of_eq (e.app (g := [MO.lst (rowsM [[]])])) k, hb]
  refine for_ind (it := itR 0 1 (horizon P + 1).toNat) (xs := ivs (agesH P)) (P := fun s => ∃ g, (match s.andS (mRet (mSortK (mLc (mItV (mVar 2)) (gN 4) (mAsB (mDo 2 G_is_good (mCons (mVar 0) (mCons (mVar 4) (mNil))))) (mVar 4) [4]) [] 1 (mTup (mCons (mCall fLen (mCons (mVar 0) (mNil))) (mCons (mVar 0) (mNil)))))) with
        | .nx _ h' => R.ok MV.non h' | .rt v h' => .ok v h' | .exc x _ h' => .exc x h' | _ => .bad) = .ok (.ref (h ++ g).length) (h ++ g ++ [.lst (rowsM (sortS ((partsL most (agesH P)).filter (isGood P))))]))
    (fun i env h' => (∃ g, h' = h ++ [MO.lst (rowsM (partsL most ((agesH P).take i)))] ++ g) ∧ ∃ x4 x5, env = [some (.ref n), some (.int most), some (.ref h.length), x4, x5])
    (fun i env h' _ => itR_nx _ _ _ i h') ?_ ?_ fuel 0 _ (h ++ [MO.lst (rowsM [[]])]) ⟨⟨[], by simp [partsL]⟩, none, none, rfl⟩ (Nat.zero_le _) (by have := fuel_ge; rw [ints_length]; omega)
  · rintro env h' ⟨⟨g, rfl⟩, x4, x5, rfl⟩
    rw [ints_length, List.take_length]
    have hp := parts_small (most := most) ha (agesH P).length
    rw [List.take_length] at hp
    have em : (h ++ [MO.lst (rowsM (partsL most (agesH P)))] ++ g)[h.length]? = some (.lst (rowsM (partsL most (agesH P)))) := lst_mid h g _
    have ep : HasP (h ++ [MO.lst (rowsM (partsL most (agesH P)))] ++ g) n P := (e.app).app
    have q := sort_good (env := [some (.ref n), some (.int most), some (.ref h.length), x4, x5]) (tg := gN 4) (c := mAsB (mDo 2 G_is_good (mCons (mVar 0) (mCons (mVar 4) (mNil))))) (el := mVar 4) (own := [4]) ep k em (Nat.le_trans hp pow10) (fun s hs => by
        have := parts_each (most := most) (ages := agesH P) ha (i := (agesH P).length) (by rw [List.take_length]; exact hs)
        unfold cap; omega) (fun s hs => by
        refine ⟨_, rfl, ?_, ?_⟩
        · have := parts_each (most := most) (ages := agesH P) ha (i := (agesH P).length) (by rw [List.take_length]; exact hs)
          simp only [Mv.mDef, Mv.mSeq, Mv.mSet, Mv.mRet, Mv.mRetN, Mv.mIfS, Mv.mVar, Mv.mC, Mv.mBin, Mv.mChain, Mv.mCall, Mv.mDo, Mv.mCons, Mv.mNil, Mv.mAndV, Mv.mOrV, Mv.mNotV, Mv.mAsB, Mv.mAndT, Mv.mOrT, Mv.mNotT, Mv.mIf, Mv.mTup, Mv.mLst, Mv.mNext, Mv.mBad, Mv.mDrop, Mv.mPar, Mv.mAsg, Mv.mStore, Mv.mNeg, Mv.fNeg, Mv.mYes, Mv.mNoP, Mv.mPart, Mv.mSl, Mv.fI, Mv.fAdd, Mv.fSub, Mv.fMul, Mv.fMod, Mv.fDiv, Mv.fPow, Mv.fLt, Mv.fLe, Mv.fGt, Mv.fGe, Mv.yes2, Mv.fIsN, Mv.fNotN, Mv.isNon, Mv.fIx, Mv.items_tup, Mv.items_new, Mv.list_new, Mv.lstOf_new, Mv.fEq_int, Mv.fNe_int, Mv.fLen_tup, Mv.fMax2, Mv.fMin2, Mv.fInt, Mv.fAbs, Mv.mIsi, Mv.isT, Mv.gN, Mv.gT, Mv.setAll, Mv.wipeM, Mv.R.bind_ok, Mv.R.bind_bad, Mv.R.noX_ok, Mv.R.andS_ok, Mv.R.andS_bad, Mv.S.andS_nx, Mv.S.andS_rt, Mv.S.andS_bad, Mv.S.andS_bk, Mv.S.andS_ct, List.map_cons, List.map_nil, List.cons_append, List.nil_append, List.append_nil, List.replicate_succ, List.replicate_zero, List.length_cons, List.length_nil, List.set_cons_zero, List.set_cons_succ, List.getElem?_cons_zero, List.getElem?_cons_succ, List.getElem?_nil, Nat.reduceAdd, Nat.reduceSub, Nat.reduceEqDiff, Nat.reduceLeDiff, Nat.zero_add, if_true, if_false, Bool.not_true, Bool.not_false, Bool.false_eq_true, decide_true, decide_false, ite_true, ite_false, Option.some.injEq, reduceIte, Mv.mFld, Mv.mIsC, Mv.mMeth, Mv.mMake, Mv.mMakeK, Mv.mEqB, Mv.boolR, Mv.mRev, List.lookup_cons, List.lookup_nil, Nat.reduceBEq, beq_self_eq_true, Mv.ins_new, Mv.set_new, G_is_good_eq ep k s (by unfold cap; omega)]
        · simp only [Mv.mDef, Mv.mSeq, Mv.mSet, Mv.mRet, Mv.mRetN, Mv.mIfS, Mv.mVar, Mv.mC, Mv.mBin, Mv.mChain, Mv.mCall, Mv.mDo, Mv.mCons, Mv.mNil, Mv.mAndV, Mv.mOrV, Mv.mNotV, Mv.mAsB, Mv.mAndT, Mv.mOrT, Mv.mNotT, Mv.mIf, Mv.mTup, Mv.mLst, Mv.mNext, Mv.mBad, Mv.mDrop, Mv.mPar, Mv.mAsg, Mv.mStore, Mv.mNeg, Mv.fNeg, Mv.mYes, Mv.mNoP, Mv.mPart, Mv.mSl, Mv.fI, Mv.fAdd, Mv.fSub, Mv.fMul, Mv.fMod, Mv.fDiv, Mv.fPow, Mv.fLt, Mv.fLe, Mv.fGt, Mv.fGe, Mv.yes2, Mv.fIsN, Mv.fNotN, Mv.isNon, Mv.fIx, Mv.items_tup, Mv.items_new, Mv.list_new, Mv.lstOf_new, Mv.fEq_int, Mv.fNe_int, Mv.fLen_tup, Mv.fMax2, Mv.fMin2, Mv.fInt, Mv.fAbs, Mv.mIsi, Mv.isT, Mv.gN, Mv.gT, Mv.setAll, Mv.wipeM, Mv.R.bind_ok, Mv.R.bind_bad, Mv.R.noX_ok, Mv.R.andS_ok, Mv.R.andS_bad, Mv.S.andS_nx, Mv.S.andS_rt, Mv.S.andS_bad, Mv.S.andS_bk, Mv.S.andS_ct, List.map_cons, List.map_nil, List.cons_append, List.nil_append, List.append_nil, List.replicate_succ, List.replicate_zero, List.length_cons, List.length_nil, List.set_cons_zero, List.set_cons_succ, List.getElem?_cons_zero, List.getElem?_cons_succ, List.getElem?_nil, Nat.reduceAdd, Nat.reduceSub, Nat.reduceEqDiff, Nat.reduceLeDiff, Nat.zero_add, if_true, if_false, Bool.not_true, Bool.not_false, Bool.false_eq_true, decide_true, decide_false, ite_true, ite_false, Option.some.injEq, reduceIte, Mv.mFld, Mv.mIsC, Mv.mMeth, Mv.mMake, Mv.mMakeK, Mv.mEqB, Mv.boolR, Mv.mRev, List.lookup_cons, List.lookup_nil, Nat.reduceBEq, beq_self_eq_true, Mv.ins_new, Mv.set_new])
    have q2 : mSortK (mLc (mItV (mVar 2)) (gN 4) (mAsB (mDo 2 G_is_good (mCons (mVar 0) (mCons (mVar 4) (mNil))))) (mVar 4) [4]) [] 1 (mTup (mCons (mCall fLen (mCons (mVar 0) (mNil))) (mCons (mVar 0) (mNil)))) [some (.ref n), some (.int most), some (.ref h.length), x4, x5] (h ++ [MO.lst (rowsM (partsL most (agesH P)))] ++ g) = mSortK (mLc (fun _ h' => .ok (itL h.length) h') (gN 4) (mAsB (mDo 2 G_is_good (mCons (mVar 0) (mCons (mVar 4) (mNil))))) (mVar 4) [4]) [] 1 (mTup (mCons (mCall fLen (mCons (mVar 0) (mNil))) (mCons (mVar 0) (mNil)))) [some (.ref n), some (.int most), some (.ref h.length), x4, x5] (h ++ [MO.lst (rowsM (partsL most (agesH P)))] ++ g) := by
      unfold mSortK mLc mItV
      simp only [Mv.mDef, Mv.mSeq, Mv.mSet, Mv.mRet, Mv.mRetN, Mv.mIfS, Mv.mVar, Mv.mC, Mv.mBin, Mv.mChain, Mv.mCall, Mv.mDo, Mv.mCons, Mv.mNil, Mv.mAndV, Mv.mOrV, Mv.mNotV, Mv.mAsB, Mv.mAndT, Mv.mOrT, Mv.mNotT, Mv.mIf, Mv.mTup, Mv.mLst, Mv.mNext, Mv.mBad, Mv.mDrop, Mv.mPar, Mv.mAsg, Mv.mStore, Mv.mNeg, Mv.fNeg, Mv.mYes, Mv.mNoP, Mv.mPart, Mv.mSl, Mv.fI, Mv.fAdd, Mv.fSub, Mv.fMul, Mv.fMod, Mv.fDiv, Mv.fPow, Mv.fLt, Mv.fLe, Mv.fGt, Mv.fGe, Mv.yes2, Mv.fIsN, Mv.fNotN, Mv.isNon, Mv.fIx, Mv.items_tup, Mv.items_new, Mv.list_new, Mv.lstOf_new, Mv.fEq_int, Mv.fNe_int, Mv.fLen_tup, Mv.fMax2, Mv.fMin2, Mv.fInt, Mv.fAbs, Mv.mIsi, Mv.isT, Mv.gN, Mv.gT, Mv.setAll, Mv.wipeM, Mv.R.bind_ok, Mv.R.bind_bad, Mv.R.noX_ok, Mv.R.andS_ok, Mv.R.andS_bad, Mv.S.andS_nx, Mv.S.andS_rt, Mv.S.andS_bad, Mv.S.andS_bk, Mv.S.andS_ct, List.map_cons, List.map_nil, List.cons_append, List.nil_append, List.append_nil, List.replicate_succ, List.replicate_zero, List.length_cons, List.length_nil, List.set_cons_zero, List.set_cons_succ, List.getElem?_cons_zero, List.getElem?_cons_succ, List.getElem?_nil, Nat.reduceAdd, Nat.reduceSub, Nat.reduceEqDiff, Nat.reduceLeDiff, Nat.zero_add, if_true, if_false, Bool.not_true, Bool.not_false, Bool.false_eq_true, decide_true, decide_false, ite_true, ite_false, Option.some.injEq, reduceIte, items_at em]
    simp only [Mv.mDef, Mv.mSeq, Mv.mSet, Mv.mRet, Mv.mRetN, Mv.mIfS, Mv.mVar, Mv.mC, Mv.mBin, Mv.mChain, Mv.mCall, Mv.mDo, Mv.mCons, Mv.mNil, Mv.mAndV, Mv.mOrV, Mv.mNotV, Mv.mAsB, Mv.mAndT, Mv.mOrT, Mv.mNotT, Mv.mIf, Mv.mTup, Mv.mLst, Mv.mNext, Mv.mBad, Mv.mDrop, Mv.mPar, Mv.mAsg, Mv.mStore, Mv.mNeg, Mv.fNeg, Mv.mYes, Mv.mNoP, Mv.mPart, Mv.mSl, Mv.fI, Mv.fAdd, Mv.fSub, Mv.fMul, Mv.fMod, Mv.fDiv, Mv.fPow, Mv.fLt, Mv.fLe, Mv.fGt, Mv.fGe, Mv.yes2, Mv.fIsN, Mv.fNotN, Mv.isNon, Mv.fIx, Mv.items_tup, Mv.items_new, Mv.list_new, Mv.lstOf_new, Mv.fEq_int, Mv.fNe_int, Mv.fLen_tup, Mv.fMax2, Mv.fMin2, Mv.fInt, Mv.fAbs, Mv.mIsi, Mv.isT, Mv.gN, Mv.gT, Mv.setAll, Mv.wipeM, Mv.R.bind_ok, Mv.R.bind_bad, Mv.R.noX_ok, Mv.R.andS_ok, Mv.R.andS_bad, Mv.S.andS_nx, Mv.S.andS_rt, Mv.S.andS_bad, Mv.S.andS_bk, Mv.S.andS_ct, List.map_cons, List.map_nil, List.cons_append, List.nil_append, List.append_nil, List.replicate_succ, List.replicate_zero, List.length_cons, List.length_nil, List.set_cons_zero, List.set_cons_succ, List.getElem?_cons_zero, List.getElem?_cons_succ, List.getElem?_nil, Nat.reduceAdd, Nat.reduceSub, Nat.reduceEqDiff, Nat.reduceLeDiff, Nat.zero_add, if_true, if_false, Bool.not_true, Bool.not_false, Bool.false_eq_true, decide_true, decide_false, ite_true, ite_false, Option.some.injEq, reduceIte, Mv.mFld, Mv.mIsC, Mv.mMeth, Mv.mMake, Mv.mMakeK, Mv.mEqB, Mv.boolR, Mv.mRev, List.lookup_cons, List.lookup_nil, Nat.reduceBEq, beq_self_eq_true, Mv.ins_new, Mv.set_new, q2, q]
    exact ⟨[MO.lst (rowsM (partsL most (agesH P)))] ++ g ++ [MO.lst (rowsM ((partsL most (agesH P)).filter (isGood P)))], by simp only [List.append_assoc]⟩
  · rintro i x env h' hx ⟨⟨g, rfl⟩, x4, x5, rfl⟩
    unfold ivs at hx
    rw [List.getElem?_map] at hx
    cases q : (agesH P)[i]? with
    | none => rw [q] at hx; cases hx
    | some a =>
      rw [q] at hx
      cases hx
      refine ⟨_, rfl, ?_⟩
      have hp := parts_small (most := most) ha i
      have hp2 := parts_small (most := most) ha (i + 1)
      rw [partsL_take most _ q] at hp2
      have em : (h ++ [MO.lst (rowsM (partsL most ((agesH P).take i)))] ++ g)[h.length]? = some (.lst (rowsM (partsL most ((agesH P).take i)))) := lst_mid h g _
      have gc := grow_comp (most := most) (a := a) (env := [some (.ref n), some (.int most), some (.ref h.length), some (.int a), x5]) (tg := gN 4) (c := mAsB (mBin fLt (mCall fLen (mCons (mVar 4) (mNil))) (mVar 1))) (el := mTup (mStar (mVar 4) (mCons (mVar 3) (mNil)))) (own := [4]) em (Nat.le_trans hp pow10) (fun s hs => Nat.le_trans (parts_each ha hs) (by decide)) (fun s hs => by
        have h1 := parts_each ha hs
        have c3 : (s.length + 1 ≤ cap) = True := eq_true (by unfold cap; omega)
        refine ⟨_, rfl, ?_, ?_⟩
        · simp only [Mv.mDef, Mv.mSeq, Mv.mSet, Mv.mRet, Mv.mRetN, Mv.mIfS, Mv.mVar, Mv.mC, Mv.mBin, Mv.mChain, Mv.mCall, Mv.mDo, Mv.mCons, Mv.mNil, Mv.mAndV, Mv.mOrV, Mv.mNotV, Mv.mAsB, Mv.mAndT, Mv.mOrT, Mv.mNotT, Mv.mIf, Mv.mTup, Mv.mLst, Mv.mNext, Mv.mBad, Mv.mDrop, Mv.mPar, Mv.mAsg, Mv.mStore, Mv.mNeg, Mv.fNeg, Mv.mYes, Mv.mNoP, Mv.mPart, Mv.mSl, Mv.fI, Mv.fAdd, Mv.fSub, Mv.fMul, Mv.fMod, Mv.fDiv, Mv.fPow, Mv.fLt, Mv.fLe, Mv.fGt, Mv.fGe, Mv.yes2, Mv.fIsN, Mv.fNotN, Mv.isNon, Mv.fIx, Mv.items_tup, Mv.items_new, Mv.list_new, Mv.lstOf_new, Mv.fEq_int, Mv.fNe_int, Mv.fLen_tup, Mv.fMax2, Mv.fMin2, Mv.fInt, Mv.fAbs, Mv.mIsi, Mv.isT, Mv.gN, Mv.gT, Mv.setAll, Mv.wipeM, Mv.R.bind_ok, Mv.R.bind_bad, Mv.R.noX_ok, Mv.R.andS_ok, Mv.R.andS_bad, Mv.S.andS_nx, Mv.S.andS_rt, Mv.S.andS_bad, Mv.S.andS_bk, Mv.S.andS_ct, List.map_cons, List.map_nil, List.cons_append, List.nil_append, List.append_nil, List.replicate_succ, List.replicate_zero, List.length_cons, List.length_nil, List.set_cons_zero, List.set_cons_succ, List.getElem?_cons_zero, List.getElem?_cons_succ, List.getElem?_nil, Nat.reduceAdd, Nat.reduceSub, Nat.reduceEqDiff, Nat.reduceLeDiff, Nat.zero_add, if_true, if_false, Bool.not_true, Bool.not_false, Bool.false_eq_true, decide_true, decide_false, ite_true, ite_false, Option.some.injEq, reduceIte, Mv.mFld, Mv.mIsC, Mv.mMeth, Mv.mMake, Mv.mMakeK, Mv.mEqB, Mv.boolR, Mv.mRev, List.lookup_cons, List.lookup_nil, Nat.reduceBEq, beq_self_eq_true, Mv.ins_new, Mv.set_new, ints_length]
        · simp only [Mv.mDef, Mv.mSeq, Mv.mSet, Mv.mRet, Mv.mRetN, Mv.mIfS, Mv.mVar, Mv.mC, Mv.mBin, Mv.mChain, Mv.mCall, Mv.mDo, Mv.mCons, Mv.mNil, Mv.mAndV, Mv.mOrV, Mv.mNotV, Mv.mAsB, Mv.mAndT, Mv.mOrT, Mv.mNotT, Mv.mIf, Mv.mTup, Mv.mLst, Mv.mNext, Mv.mBad, Mv.mDrop, Mv.mPar, Mv.mAsg, Mv.mStore, Mv.mNeg, Mv.fNeg, Mv.mYes, Mv.mNoP, Mv.mPart, Mv.mSl, Mv.fI, Mv.fAdd, Mv.fSub, Mv.fMul, Mv.fMod, Mv.fDiv, Mv.fPow, Mv.fLt, Mv.fLe, Mv.fGt, Mv.fGe, Mv.yes2, Mv.fIsN, Mv.fNotN, Mv.isNon, Mv.fIx, Mv.items_tup, Mv.items_new, Mv.list_new, Mv.lstOf_new, Mv.fEq_int, Mv.fNe_int, Mv.fLen_tup, Mv.fMax2, Mv.fMin2, Mv.fInt, Mv.fAbs, Mv.mIsi, Mv.isT, Mv.gN, Mv.gT, Mv.setAll, Mv.wipeM, Mv.R.bind_ok, Mv.R.bind_bad, Mv.R.noX_ok, Mv.R.andS_ok, Mv.R.andS_bad, Mv.S.andS_nx, Mv.S.andS_rt, Mv.S.andS_bad, Mv.S.andS_bk, Mv.S.andS_ct, List.map_cons, List.map_nil, List.cons_append, List.nil_append, List.append_nil, List.replicate_succ, List.replicate_zero, List.length_cons, List.length_nil, List.set_cons_zero, List.set_cons_succ, List.getElem?_cons_zero, List.getElem?_cons_succ, List.getElem?_nil, Nat.reduceAdd, Nat.reduceSub, Nat.reduceEqDiff, Nat.reduceLeDiff, Nat.zero_add, if_true, if_false, Bool.not_true, Bool.not_false, Bool.false_eq_true, decide_true, decide_false, ite_true, ite_false, Option.some.injEq, reduceIte, Mv.mFld, Mv.mIsC, Mv.mMeth, Mv.mMake, Mv.mMakeK, Mv.mEqB, Mv.boolR, Mv.mRev, List.lookup_cons, List.lookup_nil, Nat.reduceBEq, beq_self_eq_true, Mv.ins_new, Mv.set_new, Mv.mStar, items_row, ints_length, List.length_append, c3, row_snoc])
      have hg : (partsL most ((agesH P).take i)).length + (((partsL most ((agesH P).take i)).filter fun s => decide ((s.length : Int) < most)).map fun s => s ++ [a]).length ≤ cap := by
        unfold growP at hp2
        rw [List.length_append] at hp2
        exact Nat.le_trans hp2 pow10
      unfold fLt at gc
      simp only [Mv.mDef, Mv.mSeq, Mv.mSet, Mv.mRet, Mv.mRetN, Mv.mIfS, Mv.mVar, Mv.mC, Mv.mBin, Mv.mChain, Mv.mCall, Mv.mDo, Mv.mCons, Mv.mNil, Mv.mAndV, Mv.mOrV, Mv.mNotV, Mv.mAsB, Mv.mAndT, Mv.mOrT, Mv.mNotT, Mv.mIf, Mv.mTup, Mv.mLst, Mv.mNext, Mv.mBad, Mv.mDrop, Mv.mPar, Mv.mAsg, Mv.mStore, Mv.mNeg, Mv.fNeg, Mv.mYes, Mv.mNoP, Mv.mPart, Mv.mSl, Mv.fI, Mv.fAdd, Mv.fSub, Mv.fMul, Mv.fMod, Mv.fDiv, Mv.fPow, Mv.fLt, Mv.fLe, Mv.fGt, Mv.fGe, Mv.yes2, Mv.fIsN, Mv.fNotN, Mv.isNon, Mv.fIx, Mv.items_tup, Mv.items_new, Mv.list_new, Mv.lstOf_new, Mv.fEq_int, Mv.fNe_int, Mv.fLen_tup, Mv.fMax2, Mv.fMin2, Mv.fInt, Mv.fAbs, Mv.mIsi, Mv.isT, Mv.gN, Mv.gT, Mv.setAll, Mv.wipeM, Mv.R.bind_ok, Mv.R.bind_bad, Mv.R.noX_ok, Mv.R.andS_ok, Mv.R.andS_bad, Mv.S.andS_nx, Mv.S.andS_rt, Mv.S.andS_bad, Mv.S.andS_bk, Mv.S.andS_ct, List.map_cons, List.map_nil, List.cons_append, List.nil_append, List.append_nil, List.replicate_succ, List.replicate_zero, List.length_cons, List.length_nil, List.set_cons_zero, List.set_cons_succ, List.getElem?_cons_zero, List.getElem?_cons_succ, List.getElem?_nil, Nat.reduceAdd, Nat.reduceSub, Nat.reduceEqDiff, Nat.reduceLeDiff, Nat.zero_add, if_true, if_false, Bool.not_true, Bool.not_false, Bool.false_eq_true, decide_true, decide_false, ite_true, ite_false, Option.some.injEq, reduceIte, Mv.mFld, Mv.mIsC, Mv.mMeth, Mv.mMake, Mv.mMakeK, Mv.mEqB, Mv.boolR, Mv.mRev, List.lookup_cons, List.lookup_nil, Nat.reduceBEq, beq_self_eq_true, Mv.ins_new, Mv.set_new, Mv.mLm, mLc, mItV, items_at em, list_at em, gc, extend_ok hg]
      rw [partsL_take most _ q]
      exact ⟨⟨_, rfl⟩, _, _, rfl⟩
noncomputable def G_good_states : List MV → MH → R MV := specPL (fun b : Int => [.int b]) (fun _ _ => True) fun P b => rowsM (sortS ((partsL b (agesH P)).filter (isGood P)))
theorem G_good_states_eq {h : MH} {n : Nat} {P : Plan} (e : HasP h n P) (k : P.Ok) (most : Int) : G_good_states [.ref n, .int most] h = .ok (.ref h.length) (h ++ [.lst (rowsM (sortS ((partsL most (agesH P)).filter (isGood P))))]) :=
  specPL_eq (fun a b q => by simpa using q) e k (b := most) trivial
theorem sim_good_states (xs : List MV) (h : MH) : Sim h (F_good_states (F_horizon_of F_slack_at) G_is_good xs h) (G_good_states xs h) := specPL_sim (fun n P b h e k _ => F_good_states_eq e k b) (fun _ _ _ => und_rowsM _ _) xs h
end Mv

set_option maxHeartbeats 4000000
/-! Q4: states and what is asked of them -/
namespace Mv
open PySem PySem.Spec L2

theorem fZip_at (xs ys : List MV) (h : MH) : True := trivial
theorem zip_drop : ∀ (st : List Int), st.zip (st.drop 1) = (st.zip st.tail)
  | [] => rfl
  | a :: r => by simp
theorem up_pairs : ∀ {st : List Int}, st.Pairwise (· < ·) → ∀ p ∈ st.zip (st.drop 1), p.1 < p.2
  | [], _, p, hp => by simp at hp
  | [a], _, p, hp => by simp at hp
  | a :: b :: r, h, p, hp => by
    obtain ⟨h1, h2⟩ := List.pairwise_cons.mp h
    have hp' : p ∈ (a, b) :: (b :: r).zip ((b :: r).drop 1) := by simpa using hp
    rcases List.mem_cons.mp hp' with e | e
    · rw [e]; exact h1 b (List.mem_cons_self ..)
    · exact up_pairs h2 p e
def pairM2 (p : Int × Int) : MV := .tup [.int p.1, .int p.2]
theorem zip_ivs : ∀ (a b : List Int), ((ivs a).zip (ivs b)).map (fun p => MV.tup [p.1, p.2]) = (a.zip b).map pairM2
  | [], b => by simp [ivs]
  | a :: r, [] => by simp [ivs]
  | a :: r, b :: s => by
    have := zip_ivs r s
    unfold ivs at this ⊢
    simp only [List.map_cons, List.zip_cons_cons, this]
    rfl
theorem F_is_state_eq {h : MH} {n : Nat} {P : Plan} (e : HasP h n P) (k : P.Ok) (st : List Int) (hs : IsSt P st) : ∃ g, F_is_state (F_horizon_of F_slack_at) F_is_integer [.ref n, rowM st] h = .ok (.bl true) (h ++ g) := by
  unfold F_is_state m_is_state
  have hl := hs.len k
  simp only [Mv.mDef, Mv.mSeq, Mv.mSet, Mv.mRet, Mv.mRetN, Mv.mIfS, Mv.mVar, Mv.mC, Mv.mBin, Mv.mChain, Mv.mCall, Mv.mDo, Mv.mCons, Mv.mNil, Mv.mAndV, Mv.mOrV, Mv.mNotV, Mv.mAsB, Mv.mAndT, Mv.mOrT, Mv.mNotT, Mv.mIf, Mv.mTup, Mv.mLst, Mv.mNext, Mv.mBad, Mv.mDrop, Mv.mPar, Mv.mAsg, Mv.mStore, Mv.mNeg, Mv.fNeg, Mv.mYes, Mv.mNoP, Mv.mPart, Mv.mSl, Mv.fI, Mv.fAdd, Mv.fSub, Mv.fMul, Mv.fMod, Mv.fDiv, Mv.fPow, Mv.fLt, Mv.fLe, Mv.fGt, Mv.fGe, Mv.yes2, Mv.fIsN, Mv.fNotN, Mv.isNon, Mv.fIx, Mv.items_tup, Mv.items_new, Mv.list_new, Mv.lstOf_new, Mv.fEq_int, Mv.fNe_int, Mv.fLen_tup, Mv.fMax2, Mv.fMin2, Mv.fInt, Mv.fAbs, Mv.mIsi, Mv.isT, Mv.gN, Mv.gT, Mv.setAll, Mv.wipeM, Mv.R.bind_ok, Mv.R.bind_bad, Mv.R.noX_ok, Mv.R.andS_ok, Mv.R.andS_bad, Mv.S.andS_nx, Mv.S.andS_rt, Mv.S.andS_bad, Mv.S.andS_bk, Mv.S.andS_ct, List.map_cons, List.map_nil, List.cons_append, List.nil_append, List.append_nil, List.replicate_succ, List.replicate_zero, List.length_cons, List.length_nil, List.set_cons_zero, List.set_cons_succ, List.getElem?_cons_zero, List.getElem?_cons_succ, List.getElem?_nil, Nat.reduceAdd, Nat.reduceSub, Nat.reduceEqDiff, Nat.reduceLeDiff, Nat.zero_add, if_true, if_false, Bool.not_true, Bool.not_false, Bool.false_eq_true, decide_true, decide_false, ite_true, ite_false, Option.some.injEq, reduceIte, Mv.mFld, Mv.mIsC, Mv.mMeth, Mv.mMake, Mv.mMakeK, Mv.mEqB, Mv.boolR, Mv.mRev, List.lookup_cons, List.lookup_nil, Nat.reduceBEq, beq_self_eq_true, Mv.ins_new, Mv.set_new, mLc, mItV]
  rw [comp_pure (it := itT (ivs st)) (l := st) (enc := MV.int) (cb := fun _ => true) (f := fun _ => MV.bl true) (fun i => itT_nx _ i h) (by unfold cap; omega)]
  · rw [filter_yes]
    have e1 : asBools (st.map fun _ => MV.bl true) = some (st.map fun _ => true) := any_map st fun _ => true
    have e2 : (st.map fun _ => true).all id = true := by rw [List.all_map]; exact List.all_eq_true.mpr fun _ _ => rfl
    simp only [Mv.mDef, Mv.mSeq, Mv.mSet, Mv.mRet, Mv.mRetN, Mv.mIfS, Mv.mVar, Mv.mC, Mv.mBin, Mv.mChain, Mv.mCall, Mv.mDo, Mv.mCons, Mv.mNil, Mv.mAndV, Mv.mOrV, Mv.mNotV, Mv.mAsB, Mv.mAndT, Mv.mOrT, Mv.mNotT, Mv.mIf, Mv.mTup, Mv.mLst, Mv.mNext, Mv.mBad, Mv.mDrop, Mv.mPar, Mv.mAsg, Mv.mStore, Mv.mNeg, Mv.fNeg, Mv.mYes, Mv.mNoP, Mv.mPart, Mv.mSl, Mv.fI, Mv.fAdd, Mv.fSub, Mv.fMul, Mv.fMod, Mv.fDiv, Mv.fPow, Mv.fLt, Mv.fLe, Mv.fGt, Mv.fGe, Mv.yes2, Mv.fIsN, Mv.fNotN, Mv.isNon, Mv.fIx, Mv.items_tup, Mv.items_new, Mv.list_new, Mv.lstOf_new, Mv.fEq_int, Mv.fNe_int, Mv.fLen_tup, Mv.fMax2, Mv.fMin2, Mv.fInt, Mv.fAbs, Mv.mIsi, Mv.isT, Mv.gN, Mv.gT, Mv.setAll, Mv.wipeM, Mv.R.bind_ok, Mv.R.bind_bad, Mv.R.noX_ok, Mv.R.andS_ok, Mv.R.andS_bad, Mv.S.andS_nx, Mv.S.andS_rt, Mv.S.andS_bad, Mv.S.andS_bk, Mv.S.andS_ct, List.map_cons, List.map_nil, List.cons_append, List.nil_append, List.append_nil, List.replicate_succ, List.replicate_zero, List.length_cons, List.length_nil, List.set_cons_zero, List.set_cons_succ, List.getElem?_cons_zero, List.getElem?_cons_succ, List.getElem?_nil, Nat.reduceAdd, Nat.reduceSub, Nat.reduceEqDiff, Nat.reduceLeDiff, Nat.zero_add, if_true, if_false, Bool.not_true, Bool.not_false, Bool.false_eq_true, decide_true, decide_false, ite_true, ite_false, Option.some.injEq, reduceIte, Mv.mFld, Mv.mIsC, Mv.mMeth, Mv.mMake, Mv.mMakeK, Mv.mEqB, Mv.boolR, Mv.mRev, List.lookup_cons, List.lookup_nil, Nat.reduceBEq, beq_self_eq_true, Mv.ins_new, Mv.set_new, fAll_at (items_new h _) e1, e2, mLc, mZipV, Mv.fSl]
    have e3 : cutM (ivs st) (some 1) none = ivs (st.drop 1) := by
      unfold ivs
      rw [List.map_drop]
      cases st with
      | nil => rfl
      | cons a r => exact cutM_drop _ (n := 1) (by simp)
    rw [e3]
    generalize hh : h ++ [MO.lst (st.map fun _ => MV.bl true)] = h1
    rw [comp_pure (h := h1) (it := itZ (itT (ivs st)) (itT (ivs (st.drop 1)))) (l := st.zip (st.drop 1)) (enc := pairM2) (cb := fun _ => true) (f := fun p => MV.bl (decide (p.1 < p.2))) (fun i => by
      rw [itZ_nx (fun i => itT_nx _ i h1) (fun i => itT_nx _ i h1), zip_ivs]) (by
        rw [List.length_zip]
        have := Nat.min_le_left st.length (st.drop 1).length
        unfold cap; omega)]
    · rw [filter_yes]
      have f1 : asBools ((st.zip (st.drop 1)).map fun p => MV.bl (decide (p.1 < p.2))) = some ((st.zip (st.drop 1)).map fun p => decide (p.1 < p.2)) := any_map (st.zip (st.drop 1)) fun (p : Int × Int) => decide (p.1 < p.2)
      have f2 : ((st.zip (st.drop 1)).map fun p => decide (p.1 < p.2)).all id = true := by
        rw [List.all_map]
        exact List.all_eq_true.mpr fun p hp => decide_eq_true (up_pairs hs.up p hp)
      simp only [Mv.mDef, Mv.mSeq, Mv.mSet, Mv.mRet, Mv.mRetN, Mv.mIfS, Mv.mVar, Mv.mC, Mv.mBin, Mv.mChain, Mv.mCall, Mv.mDo, Mv.mCons, Mv.mNil, Mv.mAndV, Mv.mOrV, Mv.mNotV, Mv.mAsB, Mv.mAndT, Mv.mOrT, Mv.mNotT, Mv.mIf, Mv.mTup, Mv.mLst, Mv.mNext, Mv.mBad, Mv.mDrop, Mv.mPar, Mv.mAsg, Mv.mStore, Mv.mNeg, Mv.fNeg, Mv.mYes, Mv.mNoP, Mv.mPart, Mv.mSl, Mv.fI, Mv.fAdd, Mv.fSub, Mv.fMul, Mv.fMod, Mv.fDiv, Mv.fPow, Mv.fLt, Mv.fLe, Mv.fGt, Mv.fGe, Mv.yes2, Mv.fIsN, Mv.fNotN, Mv.isNon, Mv.fIx, Mv.items_tup, Mv.items_new, Mv.list_new, Mv.lstOf_new, Mv.fEq_int, Mv.fNe_int, Mv.fLen_tup, Mv.fMax2, Mv.fMin2, Mv.fInt, Mv.fAbs, Mv.mIsi, Mv.isT, Mv.gN, Mv.gT, Mv.setAll, Mv.wipeM, Mv.R.bind_ok, Mv.R.bind_bad, Mv.R.noX_ok, Mv.R.andS_ok, Mv.R.andS_bad, Mv.S.andS_nx, Mv.S.andS_rt, Mv.S.andS_bad, Mv.S.andS_bk, Mv.S.andS_ct, List.map_cons, List.map_nil, List.cons_append, List.nil_append, List.append_nil, List.replicate_succ, List.replicate_zero, List.length_cons, List.length_nil, List.set_cons_zero, List.set_cons_succ, List.getElem?_cons_zero, List.getElem?_cons_succ, List.getElem?_nil, Nat.reduceAdd, Nat.reduceSub, Nat.reduceEqDiff, Nat.reduceLeDiff, Nat.zero_add, if_true, if_false, Bool.not_true, Bool.not_false, Bool.false_eq_true, decide_true, decide_false, ite_true, ite_false, Option.some.injEq, reduceIte, Mv.mFld, Mv.mIsC, Mv.mMeth, Mv.mMake, Mv.mMakeK, Mv.mEqB, Mv.boolR, Mv.mRev, List.lookup_cons, List.lookup_nil, Nat.reduceBEq, beq_self_eq_true, Mv.ins_new, Mv.set_new, fAll_at (items_new h1 _) f1, f2]
      rw [← hh, List.append_assoc]
      exact ⟨_, rfl⟩
    · intro p _
      refine ⟨_, rfl, ?_⟩
      simp only [Mv.mDef, Mv.mSeq, Mv.mSet, Mv.mRet, Mv.mRetN, Mv.mIfS, Mv.mVar, Mv.mC, Mv.mBin, Mv.mChain, Mv.mCall, Mv.mDo, Mv.mCons, Mv.mNil, Mv.mAndV, Mv.mOrV, Mv.mNotV, Mv.mAsB, Mv.mAndT, Mv.mOrT, Mv.mNotT, Mv.mIf, Mv.mTup, Mv.mLst, Mv.mNext, Mv.mBad, Mv.mDrop, Mv.mPar, Mv.mAsg, Mv.mStore, Mv.mNeg, Mv.fNeg, Mv.mYes, Mv.mNoP, Mv.mPart, Mv.mSl, Mv.fI, Mv.fAdd, Mv.fSub, Mv.fMul, Mv.fMod, Mv.fDiv, Mv.fPow, Mv.fLt, Mv.fLe, Mv.fGt, Mv.fGe, Mv.yes2, Mv.fIsN, Mv.fNotN, Mv.isNon, Mv.fIx, Mv.items_tup, Mv.items_new, Mv.list_new, Mv.lstOf_new, Mv.fEq_int, Mv.fNe_int, Mv.fLen_tup, Mv.fMax2, Mv.fMin2, Mv.fInt, Mv.fAbs, Mv.mIsi, Mv.isT, Mv.gN, Mv.gT, Mv.setAll, Mv.wipeM, Mv.R.bind_ok, Mv.R.bind_bad, Mv.R.noX_ok, Mv.R.andS_ok, Mv.R.andS_bad, Mv.S.andS_nx, Mv.S.andS_rt, Mv.S.andS_bad, Mv.S.andS_bk, Mv.S.andS_ct, List.map_cons, List.map_nil, List.cons_append, List.nil_append, List.append_nil, List.replicate_succ, List.replicate_zero, List.length_cons, List.length_nil, List.set_cons_zero, List.set_cons_succ, List.getElem?_cons_zero, List.getElem?_cons_succ, List.getElem?_nil, Nat.reduceAdd, Nat.reduceSub, Nat.reduceEqDiff, Nat.reduceLeDiff, Nat.zero_add, if_true, if_false, Bool.not_true, Bool.not_false, Bool.false_eq_true, decide_true, decide_false, ite_true, ite_false, Option.some.injEq, reduceIte, Mv.mFld, Mv.mIsC, Mv.mMeth, Mv.mMake, Mv.mMakeK, Mv.mEqB, Mv.boolR, Mv.mRev, List.lookup_cons, List.lookup_nil, Nat.reduceBEq, beq_self_eq_true, Mv.ins_new, Mv.set_new]
      exact ⟨trivial, fun _ => trivial⟩
  · intro a ha
    have hb := hs.b a ha
    refine ⟨_, rfl, ?_⟩
    have d1 : decide (0 ≤ a ∧ a ≤ horizon P) = true := decide_eq_true hb
    simp only [Mv.mDef, Mv.mSeq, Mv.mSet, Mv.mRet, Mv.mRetN, Mv.mIfS, Mv.mVar, Mv.mC, Mv.mBin, Mv.mChain, Mv.mCall, Mv.mDo, Mv.mCons, Mv.mNil, Mv.mAndV, Mv.mOrV, Mv.mNotV, Mv.mAsB, Mv.mAndT, Mv.mOrT, Mv.mNotT, Mv.mIf, Mv.mTup, Mv.mLst, Mv.mNext, Mv.mBad, Mv.mDrop, Mv.mPar, Mv.mAsg, Mv.mStore, Mv.mNeg, Mv.fNeg, Mv.mYes, Mv.mNoP, Mv.mPart, Mv.mSl, Mv.fI, Mv.fAdd, Mv.fSub, Mv.fMul, Mv.fMod, Mv.fDiv, Mv.fPow, Mv.fLt, Mv.fLe, Mv.fGt, Mv.fGe, Mv.yes2, Mv.fIsN, Mv.fNotN, Mv.isNon, Mv.fIx, Mv.items_tup, Mv.items_new, Mv.list_new, Mv.lstOf_new, Mv.fEq_int, Mv.fNe_int, Mv.fLen_tup, Mv.fMax2, Mv.fMin2, Mv.fInt, Mv.fAbs, Mv.mIsi, Mv.isT, Mv.gN, Mv.gT, Mv.setAll, Mv.wipeM, Mv.R.bind_ok, Mv.R.bind_bad, Mv.R.noX_ok, Mv.R.andS_ok, Mv.R.andS_bad, Mv.S.andS_nx, Mv.S.andS_rt, Mv.S.andS_bad, Mv.S.andS_bk, Mv.S.andS_ct, List.map_cons, List.map_nil, List.cons_append, List.nil_append, List.append_nil, List.replicate_succ, List.replicate_zero, List.length_cons, List.length_nil, List.set_cons_zero, List.set_cons_succ, List.getElem?_cons_zero, List.getElem?_cons_succ, List.getElem?_nil, Nat.reduceAdd, Nat.reduceSub, Nat.reduceEqDiff, Nat.reduceLeDiff, Nat.zero_add, if_true, if_false, Bool.not_true, Bool.not_false, Bool.false_eq_true, decide_true, decide_false, ite_true, ite_false, Option.some.injEq, reduceIte, Mv.mFld, Mv.mIsC, Mv.mMeth, Mv.mMake, Mv.mMakeK, Mv.mEqB, Mv.boolR, Mv.mRev, List.lookup_cons, List.lookup_nil, Nat.reduceBEq, beq_self_eq_true, Mv.ins_new, Mv.set_new, F_horizon_of_eq e k, F_is_integer_eq, d1]
    exact ⟨trivial, fun _ => trivial⟩
noncomputable def G_is_state : List MV → MH → R MV := specP (fun l : List Int => [rowM l]) (fun P l => IsSt P l) fun _ _ => .bl true
theorem G_is_state_eq {h : MH} {n : Nat} {P : Plan} (e : HasP h n P) (k : P.Ok) (l : List Int) (hs : IsSt P l) : G_is_state [.ref n, rowM l] h = .ok (.bl true) h :=
  specP_eq (fun a b q => tints_inj _ _ (List.cons.inj q).1) e k (b := l) hs
theorem sim_is_state (xs : List MV) (h : MH) : Sim h (F_is_state (F_horizon_of F_slack_at) F_is_integer xs h) (G_is_state xs h) := specP_sim (fun n P l h e k d => F_is_state_eq e k l d) (fun _ _ _ => und_bl _ _) xs h
noncomputable def G_check_state : List MV → MH → R MV := F_check_state F_check_promise G_is_state
theorem G_check_state_eq {h : MH} {n : Nat} {P : Plan} (e : HasP h n P) (k : P.Ok) (l : List Int) (hs : IsSt P l) : G_check_state [.ref n, rowM l] h = .ok .non h := by
  unfold G_check_state F_check_state m_check_state
  simp only [Mv.mDef, Mv.mSeq, Mv.mSet, Mv.mRet, Mv.mRetN, Mv.mIfS, Mv.mVar, Mv.mC, Mv.mBin, Mv.mChain, Mv.mCall, Mv.mDo, Mv.mCons, Mv.mNil, Mv.mAndV, Mv.mOrV, Mv.mNotV, Mv.mAsB, Mv.mAndT, Mv.mOrT, Mv.mNotT, Mv.mIf, Mv.mTup, Mv.mLst, Mv.mNext, Mv.mBad, Mv.mDrop, Mv.mPar, Mv.mAsg, Mv.mStore, Mv.mNeg, Mv.fNeg, Mv.mYes, Mv.mNoP, Mv.mPart, Mv.mSl, Mv.fI, Mv.fAdd, Mv.fSub, Mv.fMul, Mv.fMod, Mv.fDiv, Mv.fPow, Mv.fLt, Mv.fLe, Mv.fGt, Mv.fGe, Mv.yes2, Mv.fIsN, Mv.fNotN, Mv.isNon, Mv.fIx, Mv.items_tup, Mv.items_new, Mv.list_new, Mv.lstOf_new, Mv.fEq_int, Mv.fNe_int, Mv.fLen_tup, Mv.fMax2, Mv.fMin2, Mv.fInt, Mv.fAbs, Mv.mIsi, Mv.isT, Mv.gN, Mv.gT, Mv.setAll, Mv.wipeM, Mv.R.bind_ok, Mv.R.bind_bad, Mv.R.noX_ok, Mv.R.andS_ok, Mv.R.andS_bad, Mv.S.andS_nx, Mv.S.andS_rt, Mv.S.andS_bad, Mv.S.andS_bk, Mv.S.andS_ct, List.map_cons, List.map_nil, List.cons_append, List.nil_append, List.append_nil, List.replicate_succ, List.replicate_zero, List.length_cons, List.length_nil, List.set_cons_zero, List.set_cons_succ, List.getElem?_cons_zero, List.getElem?_cons_succ, List.getElem?_nil, Nat.reduceAdd, Nat.reduceSub, Nat.reduceEqDiff, Nat.reduceLeDiff, Nat.zero_add, if_true, if_false, Bool.not_true, Bool.not_false, Bool.false_eq_true, decide_true, decide_false, ite_true, ite_false, Option.some.injEq, reduceIte, Mv.mFld, Mv.mIsC, Mv.mMeth, Mv.mMake, Mv.mMakeK, Mv.mEqB, Mv.boolR, Mv.mRev, List.lookup_cons, List.lookup_nil, Nat.reduceBEq, beq_self_eq_true, Mv.ins_new, Mv.set_new, F_check_promise_eq e, G_is_state_eq e k l hs]
noncomputable def G_check_most : List MV → MH → R MV := F_check_most F_check_promise F_is_integer
theorem G_check_most_eq {h : MH} {n : Nat} {P : Plan} (e : HasP h n P) {m : Int} (h0 : 0 ≤ m) (h5 : m ≤ 5) : G_check_most [.ref n, .int m] h = .ok .non h := by
  unfold G_check_most F_check_most m_check_most
  have d1 : decide (0 ≤ m ∧ m ≤ 5) = true := decide_eq_true ⟨h0, h5⟩
  simp only [Mv.mDef, Mv.mSeq, Mv.mSet, Mv.mRet, Mv.mRetN, Mv.mIfS, Mv.mVar, Mv.mC, Mv.mBin, Mv.mChain, Mv.mCall, Mv.mDo, Mv.mCons, Mv.mNil, Mv.mAndV, Mv.mOrV, Mv.mNotV, Mv.mAsB, Mv.mAndT, Mv.mOrT, Mv.mNotT, Mv.mIf, Mv.mTup, Mv.mLst, Mv.mNext, Mv.mBad, Mv.mDrop, Mv.mPar, Mv.mAsg, Mv.mStore, Mv.mNeg, Mv.fNeg, Mv.mYes, Mv.mNoP, Mv.mPart, Mv.mSl, Mv.fI, Mv.fAdd, Mv.fSub, Mv.fMul, Mv.fMod, Mv.fDiv, Mv.fPow, Mv.fLt, Mv.fLe, Mv.fGt, Mv.fGe, Mv.yes2, Mv.fIsN, Mv.fNotN, Mv.isNon, Mv.fIx, Mv.items_tup, Mv.items_new, Mv.list_new, Mv.lstOf_new, Mv.fEq_int, Mv.fNe_int, Mv.fLen_tup, Mv.fMax2, Mv.fMin2, Mv.fInt, Mv.fAbs, Mv.mIsi, Mv.isT, Mv.gN, Mv.gT, Mv.setAll, Mv.wipeM, Mv.R.bind_ok, Mv.R.bind_bad, Mv.R.noX_ok, Mv.R.andS_ok, Mv.R.andS_bad, Mv.S.andS_nx, Mv.S.andS_rt, Mv.S.andS_bad, Mv.S.andS_bk, Mv.S.andS_ct, List.map_cons, List.map_nil, List.cons_append, List.nil_append, List.append_nil, List.replicate_succ, List.replicate_zero, List.length_cons, List.length_nil, List.set_cons_zero, List.set_cons_succ, List.getElem?_cons_zero, List.getElem?_cons_succ, List.getElem?_nil, Nat.reduceAdd, Nat.reduceSub, Nat.reduceEqDiff, Nat.reduceLeDiff, Nat.zero_add, if_true, if_false, Bool.not_true, Bool.not_false, Bool.false_eq_true, decide_true, decide_false, ite_true, ite_false, Option.some.injEq, reduceIte, Mv.mFld, Mv.mIsC, Mv.mMeth, Mv.mMake, Mv.mMakeK, Mv.mEqB, Mv.boolR, Mv.mRev, List.lookup_cons, List.lookup_nil, Nat.reduceBEq, beq_self_eq_true, Mv.ins_new, Mv.set_new, F_check_promise_eq e, F_is_integer_eq, d1]
noncomputable def G_keeps : List MV → MH → R MV := F_keeps G_check_state G_is_good
theorem G_keeps_eq {h : MH} {n : Nat} {P : Plan} (e : HasP h n P) (k : P.Ok) (l : List Int) (hs : IsSt P l) : G_keeps [.ref n, rowM l] h = .ok (.bl (isGood P l)) h := by
  unfold G_keeps F_keeps m_keeps
  have := hs.len k
  simp only [Mv.mDef, Mv.mSeq, Mv.mSet, Mv.mRet, Mv.mRetN, Mv.mIfS, Mv.mVar, Mv.mC, Mv.mBin, Mv.mChain, Mv.mCall, Mv.mDo, Mv.mCons, Mv.mNil, Mv.mAndV, Mv.mOrV, Mv.mNotV, Mv.mAsB, Mv.mAndT, Mv.mOrT, Mv.mNotT, Mv.mIf, Mv.mTup, Mv.mLst, Mv.mNext, Mv.mBad, Mv.mDrop, Mv.mPar, Mv.mAsg, Mv.mStore, Mv.mNeg, Mv.fNeg, Mv.mYes, Mv.mNoP, Mv.mPart, Mv.mSl, Mv.fI, Mv.fAdd, Mv.fSub, Mv.fMul, Mv.fMod, Mv.fDiv, Mv.fPow, Mv.fLt, Mv.fLe, Mv.fGt, Mv.fGe, Mv.yes2, Mv.fIsN, Mv.fNotN, Mv.isNon, Mv.fIx, Mv.items_tup, Mv.items_new, Mv.list_new, Mv.lstOf_new, Mv.fEq_int, Mv.fNe_int, Mv.fLen_tup, Mv.fMax2, Mv.fMin2, Mv.fInt, Mv.fAbs, Mv.mIsi, Mv.isT, Mv.gN, Mv.gT, Mv.setAll, Mv.wipeM, Mv.R.bind_ok, Mv.R.bind_bad, Mv.R.noX_ok, Mv.R.andS_ok, Mv.R.andS_bad, Mv.S.andS_nx, Mv.S.andS_rt, Mv.S.andS_bad, Mv.S.andS_bk, Mv.S.andS_ct, List.map_cons, List.map_nil, List.cons_append, List.nil_append, List.append_nil, List.replicate_succ, List.replicate_zero, List.length_cons, List.length_nil, List.set_cons_zero, List.set_cons_succ, List.getElem?_cons_zero, List.getElem?_cons_succ, List.getElem?_nil, Nat.reduceAdd, Nat.reduceSub, Nat.reduceEqDiff, Nat.reduceLeDiff, Nat.zero_add, if_true, if_false, Bool.not_true, Bool.not_false, Bool.false_eq_true, decide_true, decide_false, ite_true, ite_false, Option.some.injEq, reduceIte, Mv.mFld, Mv.mIsC, Mv.mMeth, Mv.mMake, Mv.mMakeK, Mv.mEqB, Mv.boolR, Mv.mRev, List.lookup_cons, List.lookup_nil, Nat.reduceBEq, beq_self_eq_true, Mv.ins_new, Mv.set_new, G_check_state_eq e k l hs, G_is_good_eq e k l (by unfold cap; omega)]
noncomputable def G_broken : List MV → MH → R MV := F_broken G_check_state G_holds_for
theorem G_broken_eq {h : MH} {n : Nat} {P : Plan} (e : HasP h n P) (k : P.Ok) (l : List Int) (hs : IsSt P l) : G_broken [.ref n, rowM l] h = .ok (.ref h.length) (h ++ [.lst (ivs (brokenL P l))]) := by
  unfold G_broken F_broken m_broken
  have hl := hs.len k
  simp only [Mv.mDef, Mv.mSeq, Mv.mSet, Mv.mRet, Mv.mRetN, Mv.mIfS, Mv.mVar, Mv.mC, Mv.mBin, Mv.mChain, Mv.mCall, Mv.mDo, Mv.mCons, Mv.mNil, Mv.mAndV, Mv.mOrV, Mv.mNotV, Mv.mAsB, Mv.mAndT, Mv.mOrT, Mv.mNotT, Mv.mIf, Mv.mTup, Mv.mLst, Mv.mNext, Mv.mBad, Mv.mDrop, Mv.mPar, Mv.mAsg, Mv.mStore, Mv.mNeg, Mv.fNeg, Mv.mYes, Mv.mNoP, Mv.mPart, Mv.mSl, Mv.fI, Mv.fAdd, Mv.fSub, Mv.fMul, Mv.fMod, Mv.fDiv, Mv.fPow, Mv.fLt, Mv.fLe, Mv.fGt, Mv.fGe, Mv.yes2, Mv.fIsN, Mv.fNotN, Mv.isNon, Mv.fIx, Mv.items_tup, Mv.items_new, Mv.list_new, Mv.lstOf_new, Mv.fEq_int, Mv.fNe_int, Mv.fLen_tup, Mv.fMax2, Mv.fMin2, Mv.fInt, Mv.fAbs, Mv.mIsi, Mv.isT, Mv.gN, Mv.gT, Mv.setAll, Mv.wipeM, Mv.R.bind_ok, Mv.R.bind_bad, Mv.R.noX_ok, Mv.R.andS_ok, Mv.R.andS_bad, Mv.S.andS_nx, Mv.S.andS_rt, Mv.S.andS_bad, Mv.S.andS_bk, Mv.S.andS_ct, List.map_cons, List.map_nil, List.cons_append, List.nil_append, List.append_nil, List.replicate_succ, List.replicate_zero, List.length_cons, List.length_nil, List.set_cons_zero, List.set_cons_succ, List.getElem?_cons_zero, List.getElem?_cons_succ, List.getElem?_nil, Nat.reduceAdd, Nat.reduceSub, Nat.reduceEqDiff, Nat.reduceLeDiff, Nat.zero_add, if_true, if_false, Bool.not_true, Bool.not_false, Bool.false_eq_true, decide_true, decide_false, ite_true, ite_false, Option.some.injEq, reduceIte, Mv.mFld, Mv.mIsC, Mv.mMeth, Mv.mMake, Mv.mMakeK, Mv.mEqB, Mv.boolR, Mv.mRev, List.lookup_cons, List.lookup_nil, Nat.reduceBEq, beq_self_eq_true, Mv.ins_new, Mv.set_new, G_check_state_eq e k l hs, mLc, mRng1, e.ins, far_in k]
  rw [comp_pure (l := agesL P) (enc := MV.int) (cb := fun a => !holdsFor P l a) (f := MV.int) (fun i => itR_nx _ _ _ i h) (ages_cap k)]
  · simp only [Mv.mDef, Mv.mSeq, Mv.mSet, Mv.mRet, Mv.mRetN, Mv.mIfS, Mv.mVar, Mv.mC, Mv.mBin, Mv.mChain, Mv.mCall, Mv.mDo, Mv.mCons, Mv.mNil, Mv.mAndV, Mv.mOrV, Mv.mNotV, Mv.mAsB, Mv.mAndT, Mv.mOrT, Mv.mNotT, Mv.mIf, Mv.mTup, Mv.mLst, Mv.mNext, Mv.mBad, Mv.mDrop, Mv.mPar, Mv.mAsg, Mv.mStore, Mv.mNeg, Mv.fNeg, Mv.mYes, Mv.mNoP, Mv.mPart, Mv.mSl, Mv.fI, Mv.fAdd, Mv.fSub, Mv.fMul, Mv.fMod, Mv.fDiv, Mv.fPow, Mv.fLt, Mv.fLe, Mv.fGt, Mv.fGe, Mv.yes2, Mv.fIsN, Mv.fNotN, Mv.isNon, Mv.fIx, Mv.items_tup, Mv.items_new, Mv.list_new, Mv.lstOf_new, Mv.fEq_int, Mv.fNe_int, Mv.fLen_tup, Mv.fMax2, Mv.fMin2, Mv.fInt, Mv.fAbs, Mv.mIsi, Mv.isT, Mv.gN, Mv.gT, Mv.setAll, Mv.wipeM, Mv.R.bind_ok, Mv.R.bind_bad, Mv.R.noX_ok, Mv.R.andS_ok, Mv.R.andS_bad, Mv.S.andS_nx, Mv.S.andS_rt, Mv.S.andS_bad, Mv.S.andS_bk, Mv.S.andS_ct, List.map_cons, List.map_nil, List.cons_append, List.nil_append, List.append_nil, List.replicate_succ, List.replicate_zero, List.length_cons, List.length_nil, List.set_cons_zero, List.set_cons_succ, List.getElem?_cons_zero, List.getElem?_cons_succ, List.getElem?_nil, Nat.reduceAdd, Nat.reduceSub, Nat.reduceEqDiff, Nat.reduceLeDiff, Nat.zero_add, if_true, if_false, Bool.not_true, Bool.not_false, Bool.false_eq_true, decide_true, decide_false, ite_true, ite_false, Option.some.injEq, reduceIte, Mv.mFld, Mv.mIsC, Mv.mMeth, Mv.mMake, Mv.mMakeK, Mv.mEqB, Mv.boolR, Mv.mRev, List.lookup_cons, List.lookup_nil, Nat.reduceBEq, beq_self_eq_true, Mv.ins_new, Mv.set_new]
    rfl
  · intro a ha
    have := mem_ages k ha
    refine ⟨_, rfl, ?_⟩
    simp only [Mv.mDef, Mv.mSeq, Mv.mSet, Mv.mRet, Mv.mRetN, Mv.mIfS, Mv.mVar, Mv.mC, Mv.mBin, Mv.mChain, Mv.mCall, Mv.mDo, Mv.mCons, Mv.mNil, Mv.mAndV, Mv.mOrV, Mv.mNotV, Mv.mAsB, Mv.mAndT, Mv.mOrT, Mv.mNotT, Mv.mIf, Mv.mTup, Mv.mLst, Mv.mNext, Mv.mBad, Mv.mDrop, Mv.mPar, Mv.mAsg, Mv.mStore, Mv.mNeg, Mv.fNeg, Mv.mYes, Mv.mNoP, Mv.mPart, Mv.mSl, Mv.fI, Mv.fAdd, Mv.fSub, Mv.fMul, Mv.fMod, Mv.fDiv, Mv.fPow, Mv.fLt, Mv.fLe, Mv.fGt, Mv.fGe, Mv.yes2, Mv.fIsN, Mv.fNotN, Mv.isNon, Mv.fIx, Mv.items_tup, Mv.items_new, Mv.list_new, Mv.lstOf_new, Mv.fEq_int, Mv.fNe_int, Mv.fLen_tup, Mv.fMax2, Mv.fMin2, Mv.fInt, Mv.fAbs, Mv.mIsi, Mv.isT, Mv.gN, Mv.gT, Mv.setAll, Mv.wipeM, Mv.R.bind_ok, Mv.R.bind_bad, Mv.R.noX_ok, Mv.R.andS_ok, Mv.R.andS_bad, Mv.S.andS_nx, Mv.S.andS_rt, Mv.S.andS_bad, Mv.S.andS_bk, Mv.S.andS_ct, List.map_cons, List.map_nil, List.cons_append, List.nil_append, List.append_nil, List.replicate_succ, List.replicate_zero, List.length_cons, List.length_nil, List.set_cons_zero, List.set_cons_succ, List.getElem?_cons_zero, List.getElem?_cons_succ, List.getElem?_nil, Nat.reduceAdd, Nat.reduceSub, Nat.reduceEqDiff, Nat.reduceLeDiff, Nat.zero_add, if_true, if_false, Bool.not_true, Bool.not_false, Bool.false_eq_true, decide_true, decide_false, ite_true, ite_false, Option.some.injEq, reduceIte, G_holds_for_eq e k l (by unfold cap; omega) this.1 (show a ≤ 100 by omega)]
    exact ⟨trivial, fun _ => trivial⟩
noncomputable def G_grown : List MV → MH → R MV := F_grown G_check_state G_aged
theorem G_grown_eq {h : MH} {n : Nat} {P : Plan} (e : HasP h n P) (k : P.Ok) (l : List Int) (hs : IsSt P l) : G_grown [.ref n, rowM l] h = .ok (rowM (agedL P l)) h := by
  unfold G_grown F_grown m_grown
  have := hs.len k
  simp only [Mv.mDef, Mv.mSeq, Mv.mSet, Mv.mRet, Mv.mRetN, Mv.mIfS, Mv.mVar, Mv.mC, Mv.mBin, Mv.mChain, Mv.mCall, Mv.mDo, Mv.mCons, Mv.mNil, Mv.mAndV, Mv.mOrV, Mv.mNotV, Mv.mAsB, Mv.mAndT, Mv.mOrT, Mv.mNotT, Mv.mIf, Mv.mTup, Mv.mLst, Mv.mNext, Mv.mBad, Mv.mDrop, Mv.mPar, Mv.mAsg, Mv.mStore, Mv.mNeg, Mv.fNeg, Mv.mYes, Mv.mNoP, Mv.mPart, Mv.mSl, Mv.fI, Mv.fAdd, Mv.fSub, Mv.fMul, Mv.fMod, Mv.fDiv, Mv.fPow, Mv.fLt, Mv.fLe, Mv.fGt, Mv.fGe, Mv.yes2, Mv.fIsN, Mv.fNotN, Mv.isNon, Mv.fIx, Mv.items_tup, Mv.items_new, Mv.list_new, Mv.lstOf_new, Mv.fEq_int, Mv.fNe_int, Mv.fLen_tup, Mv.fMax2, Mv.fMin2, Mv.fInt, Mv.fAbs, Mv.mIsi, Mv.isT, Mv.gN, Mv.gT, Mv.setAll, Mv.wipeM, Mv.R.bind_ok, Mv.R.bind_bad, Mv.R.noX_ok, Mv.R.andS_ok, Mv.R.andS_bad, Mv.S.andS_nx, Mv.S.andS_rt, Mv.S.andS_bad, Mv.S.andS_bk, Mv.S.andS_ct, List.map_cons, List.map_nil, List.cons_append, List.nil_append, List.append_nil, List.replicate_succ, List.replicate_zero, List.length_cons, List.length_nil, List.set_cons_zero, List.set_cons_succ, List.getElem?_cons_zero, List.getElem?_cons_succ, List.getElem?_nil, Nat.reduceAdd, Nat.reduceSub, Nat.reduceEqDiff, Nat.reduceLeDiff, Nat.zero_add, if_true, if_false, Bool.not_true, Bool.not_false, Bool.false_eq_true, decide_true, decide_false, ite_true, ite_false, Option.some.injEq, reduceIte, Mv.mFld, Mv.mIsC, Mv.mMeth, Mv.mMake, Mv.mMakeK, Mv.mEqB, Mv.boolR, Mv.mRev, List.lookup_cons, List.lookup_nil, Nat.reduceBEq, beq_self_eq_true, Mv.ins_new, Mv.set_new, G_check_state_eq e k l hs, G_aged_eq e k l (by omega)]
noncomputable def G_choices : List MV → MH → R MV := F_choices G_check_most G_check_state G_choices_of
theorem G_choices_eq {h : MH} {n : Nat} {P : Plan} (e : HasP h n P) (k : P.Ok) {m : Int} (h0 : 0 ≤ m) (h5 : m ≤ 5) (l : List Int) (hs : IsSt P l) : G_choices [.ref n, .int m, rowM l] h = .ok (.ref h.length) (h ++ [.lst (rowsM (sortS ((partsL m (agedL P l)).filter (isGood P))))]) := by
  unfold G_choices F_choices m_choices
  simp only [Mv.mDef, Mv.mSeq, Mv.mSet, Mv.mRet, Mv.mRetN, Mv.mIfS, Mv.mVar, Mv.mC, Mv.mBin, Mv.mChain, Mv.mCall, Mv.mDo, Mv.mCons, Mv.mNil, Mv.mAndV, Mv.mOrV, Mv.mNotV, Mv.mAsB, Mv.mAndT, Mv.mOrT, Mv.mNotT, Mv.mIf, Mv.mTup, Mv.mLst, Mv.mNext, Mv.mBad, Mv.mDrop, Mv.mPar, Mv.mAsg, Mv.mStore, Mv.mNeg, Mv.fNeg, Mv.mYes, Mv.mNoP, Mv.mPart, Mv.mSl, Mv.fI, Mv.fAdd, Mv.fSub, Mv.fMul, Mv.fMod, Mv.fDiv, Mv.fPow, Mv.fLt, Mv.fLe, Mv.fGt, Mv.fGe, Mv.yes2, Mv.fIsN, Mv.fNotN, Mv.isNon, Mv.fIx, Mv.items_tup, Mv.items_new, Mv.list_new, Mv.lstOf_new, Mv.fEq_int, Mv.fNe_int, Mv.fLen_tup, Mv.fMax2, Mv.fMin2, Mv.fInt, Mv.fAbs, Mv.mIsi, Mv.isT, Mv.gN, Mv.gT, Mv.setAll, Mv.wipeM, Mv.R.bind_ok, Mv.R.bind_bad, Mv.R.noX_ok, Mv.R.andS_ok, Mv.R.andS_bad, Mv.S.andS_nx, Mv.S.andS_rt, Mv.S.andS_bad, Mv.S.andS_bk, Mv.S.andS_ct, List.map_cons, List.map_nil, List.cons_append, List.nil_append, List.append_nil, List.replicate_succ, List.replicate_zero, List.length_cons, List.length_nil, List.set_cons_zero, List.set_cons_succ, List.getElem?_cons_zero, List.getElem?_cons_succ, List.getElem?_nil, Nat.reduceAdd, Nat.reduceSub, Nat.reduceEqDiff, Nat.reduceLeDiff, Nat.zero_add, if_true, if_false, Bool.not_true, Bool.not_false, Bool.false_eq_true, decide_true, decide_false, ite_true, ite_false, Option.some.injEq, reduceIte, Mv.mFld, Mv.mIsC, Mv.mMeth, Mv.mMake, Mv.mMakeK, Mv.mEqB, Mv.boolR, Mv.mRev, List.lookup_cons, List.lookup_nil, Nat.reduceBEq, beq_self_eq_true, Mv.ins_new, Mv.set_new, G_check_most_eq e h0 h5, G_check_state_eq e k l hs, G_choices_of_eq e k m l (hs.len k)]
noncomputable def G_states : List MV → MH → R MV := F_states G_check_most G_good_states
theorem G_states_eq {h : MH} {n : Nat} {P : Plan} (e : HasP h n P) (k : P.Ok) {m : Int} (h0 : 0 ≤ m) (h5 : m ≤ 5) : G_states [.ref n, .int m] h = .ok (.ref h.length) (h ++ [.lst (rowsM (sortS ((partsL m (agesH P)).filter (isGood P))))]) := by
  unfold G_states F_states m_states
  simp only [Mv.mDef, Mv.mSeq, Mv.mSet, Mv.mRet, Mv.mRetN, Mv.mIfS, Mv.mVar, Mv.mC, Mv.mBin, Mv.mChain, Mv.mCall, Mv.mDo, Mv.mCons, Mv.mNil, Mv.mAndV, Mv.mOrV, Mv.mNotV, Mv.mAsB, Mv.mAndT, Mv.mOrT, Mv.mNotT, Mv.mIf, Mv.mTup, Mv.mLst, Mv.mNext, Mv.mBad, Mv.mDrop, Mv.mPar, Mv.mAsg, Mv.mStore, Mv.mNeg, Mv.fNeg, Mv.mYes, Mv.mNoP, Mv.mPart, Mv.mSl, Mv.fI, Mv.fAdd, Mv.fSub, Mv.fMul, Mv.fMod, Mv.fDiv, Mv.fPow, Mv.fLt, Mv.fLe, Mv.fGt, Mv.fGe, Mv.yes2, Mv.fIsN, Mv.fNotN, Mv.isNon, Mv.fIx, Mv.items_tup, Mv.items_new, Mv.list_new, Mv.lstOf_new, Mv.fEq_int, Mv.fNe_int, Mv.fLen_tup, Mv.fMax2, Mv.fMin2, Mv.fInt, Mv.fAbs, Mv.mIsi, Mv.isT, Mv.gN, Mv.gT, Mv.setAll, Mv.wipeM, Mv.R.bind_ok, Mv.R.bind_bad, Mv.R.noX_ok, Mv.R.andS_ok, Mv.R.andS_bad, Mv.S.andS_nx, Mv.S.andS_rt, Mv.S.andS_bad, Mv.S.andS_bk, Mv.S.andS_ct, List.map_cons, List.map_nil, List.cons_append, List.nil_append, List.append_nil, List.replicate_succ, List.replicate_zero, List.length_cons, List.length_nil, List.set_cons_zero, List.set_cons_succ, List.getElem?_cons_zero, List.getElem?_cons_succ, List.getElem?_nil, Nat.reduceAdd, Nat.reduceSub, Nat.reduceEqDiff, Nat.reduceLeDiff, Nat.zero_add, if_true, if_false, Bool.not_true, Bool.not_false, Bool.false_eq_true, decide_true, decide_false, ite_true, ite_false, Option.some.injEq, reduceIte, Mv.mFld, Mv.mIsC, Mv.mMeth, Mv.mMake, Mv.mMakeK, Mv.mEqB, Mv.boolR, Mv.mRev, List.lookup_cons, List.lookup_nil, Nat.reduceBEq, beq_self_eq_true, Mv.ins_new, Mv.set_new, G_check_most_eq e h0 h5, G_good_states_eq e k m]
theorem F_after_eq {h : MH} {n : Nat} {P : Plan} (e : HasP h n P) (k : P.Ok) (l kept : List Int) (hs : IsSt P l) (hk : kept.Sublist (agedL P l)) : ∃ g, F_after G_check_state G_is_state G_aged [.ref n, rowM l, rowM kept] h = .ok (rowM kept) (h ++ g) := by
  unfold F_after m_after
  have hl := hs.len k
  have hk2 : IsSt P kept := (hs.aged k).sub hk
  have hkl := hk2.len k
  simp only [Mv.mDef, Mv.mSeq, Mv.mSet, Mv.mRet, Mv.mRetN, Mv.mIfS, Mv.mVar, Mv.mC, Mv.mBin, Mv.mChain, Mv.mCall, Mv.mDo, Mv.mCons, Mv.mNil, Mv.mAndV, Mv.mOrV, Mv.mNotV, Mv.mAsB, Mv.mAndT, Mv.mOrT, Mv.mNotT, Mv.mIf, Mv.mTup, Mv.mLst, Mv.mNext, Mv.mBad, Mv.mDrop, Mv.mPar, Mv.mAsg, Mv.mStore, Mv.mNeg, Mv.fNeg, Mv.mYes, Mv.mNoP, Mv.mPart, Mv.mSl, Mv.fI, Mv.fAdd, Mv.fSub, Mv.fMul, Mv.fMod, Mv.fDiv, Mv.fPow, Mv.fLt, Mv.fLe, Mv.fGt, Mv.fGe, Mv.yes2, Mv.fIsN, Mv.fNotN, Mv.isNon, Mv.fIx, Mv.items_tup, Mv.items_new, Mv.list_new, Mv.lstOf_new, Mv.fEq_int, Mv.fNe_int, Mv.fLen_tup, Mv.fMax2, Mv.fMin2, Mv.fInt, Mv.fAbs, Mv.mIsi, Mv.isT, Mv.gN, Mv.gT, Mv.setAll, Mv.wipeM, Mv.R.bind_ok, Mv.R.bind_bad, Mv.R.noX_ok, Mv.R.andS_ok, Mv.R.andS_bad, Mv.S.andS_nx, Mv.S.andS_rt, Mv.S.andS_bad, Mv.S.andS_bk, Mv.S.andS_ct, List.map_cons, List.map_nil, List.cons_append, List.nil_append, List.append_nil, List.replicate_succ, List.replicate_zero, List.length_cons, List.length_nil, List.set_cons_zero, List.set_cons_succ, List.getElem?_cons_zero, List.getElem?_cons_succ, List.getElem?_nil, Nat.reduceAdd, Nat.reduceSub, Nat.reduceEqDiff, Nat.reduceLeDiff, Nat.zero_add, if_true, if_false, Bool.not_true, Bool.not_false, Bool.false_eq_true, decide_true, decide_false, ite_true, ite_false, Option.some.injEq, reduceIte, Mv.mFld, Mv.mIsC, Mv.mMeth, Mv.mMake, Mv.mMakeK, Mv.mEqB, Mv.boolR, Mv.mRev, List.lookup_cons, List.lookup_nil, Nat.reduceBEq, beq_self_eq_true, Mv.ins_new, Mv.set_new, G_check_state_eq e k l hs, G_is_state_eq e k kept hk2, mLc, mItV]
  rw [comp_pure (it := itT (ivs kept)) (l := kept) (enc := MV.int) (cb := fun _ => true) (f := fun _ => MV.bl true) (fun i => itT_nx _ i h) (by unfold cap; omega)]
  · rw [filter_yes]
    have e1 : asBools (kept.map fun _ => MV.bl true) = some (kept.map fun _ => true) := any_map kept fun _ => true
    have e2 : (kept.map fun _ => true).all id = true := by rw [List.all_map]; exact List.all_eq_true.mpr fun _ _ => rfl
    simp only [Mv.mDef, Mv.mSeq, Mv.mSet, Mv.mRet, Mv.mRetN, Mv.mIfS, Mv.mVar, Mv.mC, Mv.mBin, Mv.mChain, Mv.mCall, Mv.mDo, Mv.mCons, Mv.mNil, Mv.mAndV, Mv.mOrV, Mv.mNotV, Mv.mAsB, Mv.mAndT, Mv.mOrT, Mv.mNotT, Mv.mIf, Mv.mTup, Mv.mLst, Mv.mNext, Mv.mBad, Mv.mDrop, Mv.mPar, Mv.mAsg, Mv.mStore, Mv.mNeg, Mv.fNeg, Mv.mYes, Mv.mNoP, Mv.mPart, Mv.mSl, Mv.fI, Mv.fAdd, Mv.fSub, Mv.fMul, Mv.fMod, Mv.fDiv, Mv.fPow, Mv.fLt, Mv.fLe, Mv.fGt, Mv.fGe, Mv.yes2, Mv.fIsN, Mv.fNotN, Mv.isNon, Mv.fIx, Mv.items_tup, Mv.items_new, Mv.list_new, Mv.lstOf_new, Mv.fEq_int, Mv.fNe_int, Mv.fLen_tup, Mv.fMax2, Mv.fMin2, Mv.fInt, Mv.fAbs, Mv.mIsi, Mv.isT, Mv.gN, Mv.gT, Mv.setAll, Mv.wipeM, Mv.R.bind_ok, Mv.R.bind_bad, Mv.R.noX_ok, Mv.R.andS_ok, Mv.R.andS_bad, Mv.S.andS_nx, Mv.S.andS_rt, Mv.S.andS_bad, Mv.S.andS_bk, Mv.S.andS_ct, List.map_cons, List.map_nil, List.cons_append, List.nil_append, List.append_nil, List.replicate_succ, List.replicate_zero, List.length_cons, List.length_nil, List.set_cons_zero, List.set_cons_succ, List.getElem?_cons_zero, List.getElem?_cons_succ, List.getElem?_nil, Nat.reduceAdd, Nat.reduceSub, Nat.reduceEqDiff, Nat.reduceLeDiff, Nat.zero_add, if_true, if_false, Bool.not_true, Bool.not_false, Bool.false_eq_true, decide_true, decide_false, ite_true, ite_false, Option.some.injEq, reduceIte, Mv.mFld, Mv.mIsC, Mv.mMeth, Mv.mMake, Mv.mMakeK, Mv.mEqB, Mv.boolR, Mv.mRev, List.lookup_cons, List.lookup_nil, Nat.reduceBEq, beq_self_eq_true, Mv.ins_new, Mv.set_new, fAll_at (items_new h _) e1, e2]
    exact ⟨_, rfl⟩
  · intro a ha
    refine ⟨_, rfl, ?_⟩
    have d1 : decide (a ∈ agedL P l) = true := decide_eq_true (hk.subset ha)
    simp only [Mv.mDef, Mv.mSeq, Mv.mSet, Mv.mRet, Mv.mRetN, Mv.mIfS, Mv.mVar, Mv.mC, Mv.mBin, Mv.mChain, Mv.mCall, Mv.mDo, Mv.mCons, Mv.mNil, Mv.mAndV, Mv.mOrV, Mv.mNotV, Mv.mAsB, Mv.mAndT, Mv.mOrT, Mv.mNotT, Mv.mIf, Mv.mTup, Mv.mLst, Mv.mNext, Mv.mBad, Mv.mDrop, Mv.mPar, Mv.mAsg, Mv.mStore, Mv.mNeg, Mv.fNeg, Mv.mYes, Mv.mNoP, Mv.mPart, Mv.mSl, Mv.fI, Mv.fAdd, Mv.fSub, Mv.fMul, Mv.fMod, Mv.fDiv, Mv.fPow, Mv.fLt, Mv.fLe, Mv.fGt, Mv.fGe, Mv.yes2, Mv.fIsN, Mv.fNotN, Mv.isNon, Mv.fIx, Mv.items_tup, Mv.items_new, Mv.list_new, Mv.lstOf_new, Mv.fEq_int, Mv.fNe_int, Mv.fLen_tup, Mv.fMax2, Mv.fMin2, Mv.fInt, Mv.fAbs, Mv.mIsi, Mv.isT, Mv.gN, Mv.gT, Mv.setAll, Mv.wipeM, Mv.R.bind_ok, Mv.R.bind_bad, Mv.R.noX_ok, Mv.R.andS_ok, Mv.R.andS_bad, Mv.S.andS_nx, Mv.S.andS_rt, Mv.S.andS_bad, Mv.S.andS_bk, Mv.S.andS_ct, List.map_cons, List.map_nil, List.cons_append, List.nil_append, List.append_nil, List.replicate_succ, List.replicate_zero, List.length_cons, List.length_nil, List.set_cons_zero, List.set_cons_succ, List.getElem?_cons_zero, List.getElem?_cons_succ, List.getElem?_nil, Nat.reduceAdd, Nat.reduceSub, Nat.reduceEqDiff, Nat.reduceLeDiff, Nat.zero_add, if_true, if_false, Bool.not_true, Bool.not_false, Bool.false_eq_true, decide_true, decide_false, ite_true, ite_false, Option.some.injEq, reduceIte, Mv.mFld, Mv.mIsC, Mv.mMeth, Mv.mMake, Mv.mMakeK, Mv.mEqB, Mv.boolR, Mv.mRev, List.lookup_cons, List.lookup_nil, Nat.reduceBEq, beq_self_eq_true, Mv.ins_new, Mv.set_new, G_aged_eq e k l (by omega), fInT, asInts_ivs, d1]
    exact ⟨trivial, fun _ => trivial⟩

/-! ### what a promise tells of itself -/
theorem F_Promise_horizon_eq {h : MH} {n : Nat} {P : Plan} (e : HasP h n P) (k : P.Ok) : F_Promise_horizon (F_horizon_of F_slack_at) [.ref n] h = .ok (.int (horizon P)) h := by
  unfold F_Promise_horizon m_Promise_horizon
  simp only [Mv.mDef, Mv.mSeq, Mv.mSet, Mv.mRet, Mv.mRetN, Mv.mIfS, Mv.mVar, Mv.mC, Mv.mBin, Mv.mChain, Mv.mCall, Mv.mDo, Mv.mCons, Mv.mNil, Mv.mAndV, Mv.mOrV, Mv.mNotV, Mv.mAsB, Mv.mAndT, Mv.mOrT, Mv.mNotT, Mv.mIf, Mv.mTup, Mv.mLst, Mv.mNext, Mv.mBad, Mv.mDrop, Mv.mPar, Mv.mAsg, Mv.mStore, Mv.mNeg, Mv.fNeg, Mv.mYes, Mv.mNoP, Mv.mPart, Mv.mSl, Mv.fI, Mv.fAdd, Mv.fSub, Mv.fMul, Mv.fMod, Mv.fDiv, Mv.fPow, Mv.fLt, Mv.fLe, Mv.fGt, Mv.fGe, Mv.yes2, Mv.fIsN, Mv.fNotN, Mv.isNon, Mv.fIx, Mv.items_tup, Mv.items_new, Mv.list_new, Mv.lstOf_new, Mv.fEq_int, Mv.fNe_int, Mv.fLen_tup, Mv.fMax2, Mv.fMin2, Mv.fInt, Mv.fAbs, Mv.mIsi, Mv.isT, Mv.gN, Mv.gT, Mv.setAll, Mv.wipeM, Mv.R.bind_ok, Mv.R.bind_bad, Mv.R.noX_ok, Mv.R.andS_ok, Mv.R.andS_bad, Mv.S.andS_nx, Mv.S.andS_rt, Mv.S.andS_bad, Mv.S.andS_bk, Mv.S.andS_ct, List.map_cons, List.map_nil, List.cons_append, List.nil_append, List.append_nil, List.replicate_succ, List.replicate_zero, List.length_cons, List.length_nil, List.set_cons_zero, List.set_cons_succ, List.getElem?_cons_zero, List.getElem?_cons_succ, List.getElem?_nil, Nat.reduceAdd, Nat.reduceSub, Nat.reduceEqDiff, Nat.reduceLeDiff, Nat.zero_add, if_true, if_false, Bool.not_true, Bool.not_false, Bool.false_eq_true, decide_true, decide_false, ite_true, ite_false, Option.some.injEq, reduceIte, Mv.mFld, Mv.mIsC, Mv.mMeth, Mv.mMake, Mv.mMakeK, Mv.mEqB, Mv.boolR, Mv.mRev, List.lookup_cons, List.lookup_nil, Nat.reduceBEq, beq_self_eq_true, Mv.ins_new, Mv.set_new, F_horizon_of_eq e k]
theorem F_Promise_slack_eq {h : MH} {n : Nat} {P : Plan} (e : HasP h n P) (k : P.Ok) {a : Int} (h0 : 0 ≤ a) (h1 : a ≤ P.far) : F_Promise_slack F_is_integer F_slack_at [.ref n, .int a] h = .ok (.int (slack P a)) h := by
  unfold F_Promise_slack m_Promise_slack
  have d1 : decide (0 ≤ a ∧ a ≤ P.far) = true := decide_eq_true ⟨h0, h1⟩
  have := k.f6
  simp only [Mv.mDef, Mv.mSeq, Mv.mSet, Mv.mRet, Mv.mRetN, Mv.mIfS, Mv.mVar, Mv.mC, Mv.mBin, Mv.mChain, Mv.mCall, Mv.mDo, Mv.mCons, Mv.mNil, Mv.mAndV, Mv.mOrV, Mv.mNotV, Mv.mAsB, Mv.mAndT, Mv.mOrT, Mv.mNotT, Mv.mIf, Mv.mTup, Mv.mLst, Mv.mNext, Mv.mBad, Mv.mDrop, Mv.mPar, Mv.mAsg, Mv.mStore, Mv.mNeg, Mv.fNeg, Mv.mYes, Mv.mNoP, Mv.mPart, Mv.mSl, Mv.fI, Mv.fAdd, Mv.fSub, Mv.fMul, Mv.fMod, Mv.fDiv, Mv.fPow, Mv.fLt, Mv.fLe, Mv.fGt, Mv.fGe, Mv.yes2, Mv.fIsN, Mv.fNotN, Mv.isNon, Mv.fIx, Mv.items_tup, Mv.items_new, Mv.list_new, Mv.lstOf_new, Mv.fEq_int, Mv.fNe_int, Mv.fLen_tup, Mv.fMax2, Mv.fMin2, Mv.fInt, Mv.fAbs, Mv.mIsi, Mv.isT, Mv.gN, Mv.gT, Mv.setAll, Mv.wipeM, Mv.R.bind_ok, Mv.R.bind_bad, Mv.R.noX_ok, Mv.R.andS_ok, Mv.R.andS_bad, Mv.S.andS_nx, Mv.S.andS_rt, Mv.S.andS_bad, Mv.S.andS_bk, Mv.S.andS_ct, List.map_cons, List.map_nil, List.cons_append, List.nil_append, List.append_nil, List.replicate_succ, List.replicate_zero, List.length_cons, List.length_nil, List.set_cons_zero, List.set_cons_succ, List.getElem?_cons_zero, List.getElem?_cons_succ, List.getElem?_nil, Nat.reduceAdd, Nat.reduceSub, Nat.reduceEqDiff, Nat.reduceLeDiff, Nat.zero_add, if_true, if_false, Bool.not_true, Bool.not_false, Bool.false_eq_true, decide_true, decide_false, ite_true, ite_false, Option.some.injEq, reduceIte, Mv.mFld, Mv.mIsC, Mv.mMeth, Mv.mMake, Mv.mMakeK, Mv.mEqB, Mv.boolR, Mv.mRev, List.lookup_cons, List.lookup_nil, Nat.reduceBEq, beq_self_eq_true, Mv.ins_new, Mv.set_new, e.ins, F_is_integer_eq, d1, F_slack_at_eq e k h0 (show a ≤ 100 by omega)]
theorem F_all_parts_eq {h : MH} {n : Nat} {P : Plan} (e : HasP h n P) : F_Promise_all_parts [.ref n] h = .ok (.ref h.length) (h ++ [.lst [.int P.far, .int P.least, .tup [.int P.p, .int P.q], .int P.many]]) := by
  unfold F_Promise_all_parts m_Promise_all_parts
  have c4 : (4 ≤ cap) = True := eq_true (by decide)
  simp only [Mv.mDef, Mv.mSeq, Mv.mSet, Mv.mRet, Mv.mRetN, Mv.mIfS, Mv.mVar, Mv.mC, Mv.mBin, Mv.mChain, Mv.mCall, Mv.mDo, Mv.mCons, Mv.mNil, Mv.mAndV, Mv.mOrV, Mv.mNotV, Mv.mAsB, Mv.mAndT, Mv.mOrT, Mv.mNotT, Mv.mIf, Mv.mTup, Mv.mLst, Mv.mNext, Mv.mBad, Mv.mDrop, Mv.mPar, Mv.mAsg, Mv.mStore, Mv.mNeg, Mv.fNeg, Mv.mYes, Mv.mNoP, Mv.mPart, Mv.mSl, Mv.fI, Mv.fAdd, Mv.fSub, Mv.fMul, Mv.fMod, Mv.fDiv, Mv.fPow, Mv.fLt, Mv.fLe, Mv.fGt, Mv.fGe, Mv.yes2, Mv.fIsN, Mv.fNotN, Mv.isNon, Mv.fIx, Mv.items_tup, Mv.items_new, Mv.list_new, Mv.lstOf_new, Mv.fEq_int, Mv.fNe_int, Mv.fLen_tup, Mv.fMax2, Mv.fMin2, Mv.fInt, Mv.fAbs, Mv.mIsi, Mv.isT, Mv.gN, Mv.gT, Mv.setAll, Mv.wipeM, Mv.R.bind_ok, Mv.R.bind_bad, Mv.R.noX_ok, Mv.R.andS_ok, Mv.R.andS_bad, Mv.S.andS_nx, Mv.S.andS_rt, Mv.S.andS_bad, Mv.S.andS_bk, Mv.S.andS_ct, List.map_cons, List.map_nil, List.cons_append, List.nil_append, List.append_nil, List.replicate_succ, List.replicate_zero, List.length_cons, List.length_nil, List.set_cons_zero, List.set_cons_succ, List.getElem?_cons_zero, List.getElem?_cons_succ, List.getElem?_nil, Nat.reduceAdd, Nat.reduceSub, Nat.reduceEqDiff, Nat.reduceLeDiff, Nat.zero_add, if_true, if_false, Bool.not_true, Bool.not_false, Bool.false_eq_true, decide_true, decide_false, ite_true, ite_false, Option.some.injEq, reduceIte, Mv.mFld, Mv.mIsC, Mv.mMeth, Mv.mMake, Mv.mMakeK, Mv.mEqB, Mv.boolR, Mv.mRev, List.lookup_cons, List.lookup_nil, Nat.reduceBEq, beq_self_eq_true, Mv.ins_new, Mv.set_new, e.ins, c4]
def planD (P : Plan) : List PyData := [.int P.far, .int P.least, .tuple [.int P.p, .int P.q], .int P.many]
theorem data_plan {h : MH} {m : Nat} {P : Plan} (e : h[m]? = some (.lst [.int P.far, .int P.least, .tup [.int P.p, .int P.q], .int P.many])) : dataOf 12 h (.ref m) = some (.list (planD P)) := by
  show (match h[m]? with
      | some (.lst xs) => (allSome (xs.map (dataOf 11 h))).map PyData.list
      | some (.frz xs) => (allSome (xs.map (dataOf 11 h))).map PyData.list
      | _ => none) = _
  simp only [e]
  rfl
theorem eqv_plan (P Q : Plan) : PyData.eqv (.list (planD P)) (.list (planD Q)) = true ↔ P = Q := by
  unfold planD
  obtain ⟨a, b, c, d, e⟩ := P
  obtain ⟨a', b', c', d', e'⟩ := Q
  simp only [PyData.eqv, PyData.eqvAll, Bool.and_eq_true, Bool.and_true, beq_iff_eq, Plan.mk.injEq, and_assoc]
theorem F_Promise_eq_eq {h : MH} {n m : Nat} {P Q : Plan} (e : HasP h n P) (e' : HasP h m Q) : ∃ g, F_Promise_eq F_Promise_all_parts [.ref n, .ref m] h = .ok (.bl (PyData.eqv (.list (planD P)) (.list (planD Q)))) (h ++ g) := by
  unfold F_Promise_eq m_Promise_eq
  have e1 := F_all_parts_eq e
  have e2 := F_all_parts_eq (e'.app (g := [.lst [.int P.far, .int P.least, .tup [.int P.p, .int P.q], .int P.many]]))
  simp only [Mv.mDef, Mv.mSeq, Mv.mSet, Mv.mRet, Mv.mRetN, Mv.mIfS, Mv.mVar, Mv.mC, Mv.mBin, Mv.mChain, Mv.mCall, Mv.mDo, Mv.mCons, Mv.mNil, Mv.mAndV, Mv.mOrV, Mv.mNotV, Mv.mAsB, Mv.mAndT, Mv.mOrT, Mv.mNotT, Mv.mIf, Mv.mTup, Mv.mLst, Mv.mNext, Mv.mBad, Mv.mDrop, Mv.mPar, Mv.mAsg, Mv.mStore, Mv.mNeg, Mv.fNeg, Mv.mYes, Mv.mNoP, Mv.mPart, Mv.mSl, Mv.fI, Mv.fAdd, Mv.fSub, Mv.fMul, Mv.fMod, Mv.fDiv, Mv.fPow, Mv.fLt, Mv.fLe, Mv.fGt, Mv.fGe, Mv.yes2, Mv.fIsN, Mv.fNotN, Mv.isNon, Mv.fIx, Mv.items_tup, Mv.items_new, Mv.list_new, Mv.lstOf_new, Mv.fEq_int, Mv.fNe_int, Mv.fLen_tup, Mv.fMax2, Mv.fMin2, Mv.fInt, Mv.fAbs, Mv.mIsi, Mv.isT, Mv.gN, Mv.gT, Mv.setAll, Mv.wipeM, Mv.R.bind_ok, Mv.R.bind_bad, Mv.R.noX_ok, Mv.R.andS_ok, Mv.R.andS_bad, Mv.S.andS_nx, Mv.S.andS_rt, Mv.S.andS_bad, Mv.S.andS_bk, Mv.S.andS_ct, List.map_cons, List.map_nil, List.cons_append, List.nil_append, List.append_nil, List.replicate_succ, List.replicate_zero, List.length_cons, List.length_nil, List.set_cons_zero, List.set_cons_succ, List.getElem?_cons_zero, List.getElem?_cons_succ, List.getElem?_nil, Nat.reduceAdd, Nat.reduceSub, Nat.reduceEqDiff, Nat.reduceLeDiff, Nat.zero_add, if_true, if_false, Bool.not_true, Bool.not_false, Bool.false_eq_true, decide_true, decide_false, ite_true, ite_false, Option.some.injEq, reduceIte, Mv.mFld, Mv.mIsC, Mv.mMeth, Mv.mMake, Mv.mMakeK, Mv.mEqB, Mv.boolR, Mv.mRev, List.lookup_cons, List.lookup_nil, Nat.reduceBEq, beq_self_eq_true, Mv.ins_new, Mv.set_new, e'.ins, e.ins, e1, (e'.app (g := [.lst [.int P.far, .int P.least, .tup [.int P.p, .int P.q], .int P.many]])).ins, e2]
  unfold fEq
  rw [data_plan (look_app (look_new h _)), data_plan (look_new _ _)]
  simp only [Mv.mDef, Mv.mSeq, Mv.mSet, Mv.mRet, Mv.mRetN, Mv.mIfS, Mv.mVar, Mv.mC, Mv.mBin, Mv.mChain, Mv.mCall, Mv.mDo, Mv.mCons, Mv.mNil, Mv.mAndV, Mv.mOrV, Mv.mNotV, Mv.mAsB, Mv.mAndT, Mv.mOrT, Mv.mNotT, Mv.mIf, Mv.mTup, Mv.mLst, Mv.mNext, Mv.mBad, Mv.mDrop, Mv.mPar, Mv.mAsg, Mv.mStore, Mv.mNeg, Mv.fNeg, Mv.mYes, Mv.mNoP, Mv.mPart, Mv.mSl, Mv.fI, Mv.fAdd, Mv.fSub, Mv.fMul, Mv.fMod, Mv.fDiv, Mv.fPow, Mv.fLt, Mv.fLe, Mv.fGt, Mv.fGe, Mv.yes2, Mv.fIsN, Mv.fNotN, Mv.isNon, Mv.fIx, Mv.items_tup, Mv.items_new, Mv.list_new, Mv.lstOf_new, Mv.fEq_int, Mv.fNe_int, Mv.fLen_tup, Mv.fMax2, Mv.fMin2, Mv.fInt, Mv.fAbs, Mv.mIsi, Mv.isT, Mv.gN, Mv.gT, Mv.setAll, Mv.wipeM, Mv.R.bind_ok, Mv.R.bind_bad, Mv.R.noX_ok, Mv.R.andS_ok, Mv.R.andS_bad, Mv.S.andS_nx, Mv.S.andS_rt, Mv.S.andS_bad, Mv.S.andS_bk, Mv.S.andS_ct, List.map_cons, List.map_nil, List.cons_append, List.nil_append, List.append_nil, List.replicate_succ, List.replicate_zero, List.length_cons, List.length_nil, List.set_cons_zero, List.set_cons_succ, List.getElem?_cons_zero, List.getElem?_cons_succ, List.getElem?_nil, Nat.reduceAdd, Nat.reduceSub, Nat.reduceEqDiff, Nat.reduceLeDiff, Nat.zero_add, if_true, if_false, Bool.not_true, Bool.not_false, Bool.false_eq_true, decide_true, decide_false, ite_true, ite_false, Option.some.injEq, reduceIte, Mv.mFld, Mv.mIsC, Mv.mMeth, Mv.mMake, Mv.mMakeK, Mv.mEqB, Mv.boolR, Mv.mRev, List.lookup_cons, List.lookup_nil, Nat.reduceBEq, beq_self_eq_true, Mv.ins_new, Mv.set_new]
  rw [List.append_assoc]
  exact ⟨_, rfl⟩
end Mv

set_option maxHeartbeats 4000000
/-! Q5: the law's own functions of plans and states -/
namespace Mv
open PySem PySem.Spec L2

def planM (P : Plan) : MV := .tup [.int P.far, .int P.least, .tup [.int P.p, .int P.q], .int P.many]
theorem planM_inj {P Q : Plan} (e : planM P = planM Q) : P = Q := by
  obtain ⟨a, b, c, d, f⟩ := P
  obtain ⟨a', b', c', d', f'⟩ := Q
  simp only [planM, MV.tup.injEq, List.cons.injEq, MV.int.injEq, and_true] at e
  obtain ⟨rfl, rfl, ⟨rfl, rfl⟩, rfl⟩ := e
  rfl
theorem pl0 (P : Plan) : fIx (planM P) (.int 0) = fun h => R.ok (.int P.far) h := rfl
theorem pl1 (P : Plan) : fIx (planM P) (.int 1) = fun h => R.ok (.int P.least) h := rfl
theorem pl2 (P : Plan) : fIx (planM P) (.int 2) = fun h => R.ok (.tup [.int P.p, .int P.q]) h := rfl
theorem pl3 (P : Plan) : fIx (planM P) (.int 3) = fun h => R.ok (.int P.many) h := rfl
theorem ix_p (p q : Int) : fIx (.tup [.int p, .int q]) (.int 0) = fun h => R.ok (.int p) h := rfl
theorem ix_q (p q : Int) : fIx (.tup [.int p, .int q]) (.int 1) = fun h => R.ok (.int q) h := rfl
noncomputable def specM {β : Type} (enc : β → List MV) (dom : Plan → β → Prop) (out : Plan → β → MV) : List MV → MH → R MV :=
  specH (α := Plan × β) (fun a => planM a.1 :: enc a.2) (fun a _ => a.1.Ok ∧ dom a.1 a.2) fun a h => .ok (out a.1 a.2) h
theorem specM_eq {β : Type} {enc : β → List MV} {dom : Plan → β → Prop} {out : Plan → β → MV} (inj : ∀ a b, enc a = enc b → a = b) {h : MH} {P : Plan} (k : P.Ok) {b : β} (d : dom P b) : specM enc dom out (planM P :: enc b) h = .ok (out P b) h :=
  specH_eq (a := ((P, b) : Plan × β)) (fun x y q d1 d2 => by
    obtain ⟨x1, x2⟩ := x
    obtain ⟨y1, y2⟩ := y
    simp only [List.cons.injEq] at q
    have e1 : x1 = y1 := planM_inj q.1
    have e2 : x2 = y2 := inj _ _ q.2
    subst e1 e2
    rfl) ⟨k, d⟩
theorem specM_sim {β : Type} {enc : β → List MV} {dom : Plan → β → Prop} {out : Plan → β → MV} {F : List MV → MH → R MV} (hs : ∀ P b h, P.Ok → dom P b → ∃ g, F (planM P :: enc b) h = .ok (out P b) (h ++ g)) (hu : ∀ n P b, MV.und n (out P b)) (xs : List MV) (h : MH) : Sim h (F xs h) (specM enc dom out xs h) :=
  specH_sim (fun a h d => by
    obtain ⟨g, e⟩ := hs _ _ h d.1 d.2
    rw [e]
    exact sim_drop0 (hu _ _ _)) xs h
noncomputable def specML {β : Type} (enc : β → List MV) (dom : Plan → β → Prop) (out : Plan → β → List MV) : List MV → MH → R MV :=
  specH (α := Plan × β) (fun a => planM a.1 :: enc a.2) (fun a _ => a.1.Ok ∧ dom a.1 a.2) fun a h => .ok (.ref h.length) (h ++ [.lst (out a.1 a.2)])
theorem specML_eq {β : Type} {enc : β → List MV} {dom : Plan → β → Prop} {out : Plan → β → List MV} (inj : ∀ a b, enc a = enc b → a = b) {h : MH} {P : Plan} (k : P.Ok) {b : β} (d : dom P b) : specML enc dom out (planM P :: enc b) h = .ok (.ref h.length) (h ++ [.lst (out P b)]) :=
  specH_eq (a := ((P, b) : Plan × β)) (fun x y q d1 d2 => by
    obtain ⟨x1, x2⟩ := x
    obtain ⟨y1, y2⟩ := y
    simp only [List.cons.injEq] at q
    have e1 : x1 = y1 := planM_inj q.1
    have e2 : x2 = y2 := inj _ _ q.2
    subst e1 e2
    rfl) ⟨k, d⟩
theorem specML_sim {β : Type} {enc : β → List MV} {dom : Plan → β → Prop} {out : Plan → β → List MV} {F : List MV → MH → R MV} (hs : ∀ P b h, P.Ok → dom P b → ∃ g n, F (planM P :: enc b) h = .ok (.ref n) (h ++ g) ∧ (h ++ g)[n]? = some (.lst (out P b)) ∧ h.length ≤ n) (hu : ∀ n P b, MV.unds n (out P b)) (xs : List MV) (h : MH) : Sim h (F xs h) (specML enc dom out xs h) :=
  specH_sim (fun a h d => by
    obtain ⟨g, n, e, e2, e3⟩ := hs _ _ h d.1 d.2
    rw [e]
    exact sim_list rfl id e2 e3 (hu _ _ _)) xs h

/-! ### slack, horizon, broken, grown -/
theorem F_l_slack_eq {P : Plan} (k : P.Ok) {a : Int} (h0 : 0 ≤ a) (h1 : a ≤ 100) (h : MH) : F_l_slack [planM P, .int a] h = .ok (.int (slack P a)) h := by
  unfold F_l_slack m_l_slack
  have c1 : CMulB a P.p = true := by have := k.p0; have := k.p4; exact mul_small (by omega) (by omega)
  have c2 : CDivB (a * P.p) P.q = true := by have := k.q1; have := k.q4; exact div_small (by omega)
  simp only [Mv.mDef, Mv.mSeq, Mv.mSet, Mv.mRet, Mv.mRetN, Mv.mIfS, Mv.mVar, Mv.mC, Mv.mBin, Mv.mChain, Mv.mCall, Mv.mDo, Mv.mCons, Mv.mNil, Mv.mAndV, Mv.mOrV, Mv.mNotV, Mv.mAsB, Mv.mAndT, Mv.mOrT, Mv.mNotT, Mv.mIf, Mv.mTup, Mv.mLst, Mv.mNext, Mv.mBad, Mv.mDrop, Mv.mPar, Mv.mAsg, Mv.mStore, Mv.mNeg, Mv.fNeg, Mv.mYes, Mv.mNoP, Mv.mPart, Mv.mSl, Mv.fI, Mv.fAdd, Mv.fSub, Mv.fMul, Mv.fMod, Mv.fDiv, Mv.fPow, Mv.fLt, Mv.fLe, Mv.fGt, Mv.fGe, Mv.yes2, Mv.fIsN, Mv.fNotN, Mv.isNon, Mv.items_tup, Mv.items_new, Mv.list_new, Mv.lstOf_new, Mv.fEq_int, Mv.fNe_int, Mv.fLen_tup, Mv.fMax2, Mv.fMin2, Mv.fInt, Mv.fAbs, Mv.mIsi, Mv.isT, Mv.gN, Mv.gT, Mv.setAll, Mv.wipeM, Mv.R.bind_ok, Mv.R.bind_bad, Mv.R.noX_ok, Mv.R.andS_ok, Mv.R.andS_bad, Mv.S.andS_nx, Mv.S.andS_rt, Mv.S.andS_bad, Mv.S.andS_bk, Mv.S.andS_ct, List.map_cons, List.map_nil, List.cons_append, List.nil_append, List.append_nil, List.replicate_succ, List.replicate_zero, List.length_cons, List.length_nil, List.set_cons_zero, List.set_cons_succ, List.getElem?_cons_zero, List.getElem?_cons_succ, List.getElem?_nil, Nat.reduceAdd, Nat.reduceSub, Nat.reduceEqDiff, Nat.reduceLeDiff, Nat.zero_add, if_true, if_false, Bool.not_true, Bool.not_false, Bool.false_eq_true, decide_true, decide_false, ite_true, ite_false, Option.some.injEq, reduceIte, pl1, pl2, ix_p, ix_q, c1, c2]
  rfl
theorem F_l_horizon_eq {P : Plan} (k : P.Ok) (h : MH) : F_l_horizon F_l_slack [planM P] h = .ok (.int (horizon P)) h := by
  unfold F_l_horizon m_l_horizon
  simp only [Mv.mDef, Mv.mSeq, Mv.mSet, Mv.mRet, Mv.mRetN, Mv.mIfS, Mv.mVar, Mv.mC, Mv.mBin, Mv.mChain, Mv.mCall, Mv.mDo, Mv.mCons, Mv.mNil, Mv.mAndV, Mv.mOrV, Mv.mNotV, Mv.mAsB, Mv.mAndT, Mv.mOrT, Mv.mNotT, Mv.mIf, Mv.mTup, Mv.mLst, Mv.mNext, Mv.mBad, Mv.mDrop, Mv.mPar, Mv.mAsg, Mv.mStore, Mv.mNeg, Mv.fNeg, Mv.mYes, Mv.mNoP, Mv.mPart, Mv.mSl, Mv.fI, Mv.fAdd, Mv.fSub, Mv.fMul, Mv.fMod, Mv.fDiv, Mv.fPow, Mv.fLt, Mv.fLe, Mv.fGt, Mv.fGe, Mv.yes2, Mv.fIsN, Mv.fNotN, Mv.isNon, Mv.items_tup, Mv.items_new, Mv.list_new, Mv.lstOf_new, Mv.fEq_int, Mv.fNe_int, Mv.fLen_tup, Mv.fMax2, Mv.fMin2, Mv.fInt, Mv.fAbs, Mv.mIsi, Mv.isT, Mv.gN, Mv.gT, Mv.setAll, Mv.wipeM, Mv.R.bind_ok, Mv.R.bind_bad, Mv.R.noX_ok, Mv.R.andS_ok, Mv.R.andS_bad, Mv.S.andS_nx, Mv.S.andS_rt, Mv.S.andS_bad, Mv.S.andS_bk, Mv.S.andS_ct, List.map_cons, List.map_nil, List.cons_append, List.nil_append, List.append_nil, List.replicate_succ, List.replicate_zero, List.length_cons, List.length_nil, List.set_cons_zero, List.set_cons_succ, List.getElem?_cons_zero, List.getElem?_cons_succ, List.getElem?_nil, Nat.reduceAdd, Nat.reduceSub, Nat.reduceEqDiff, Nat.reduceLeDiff, Nat.zero_add, if_true, if_false, Bool.not_true, Bool.not_false, Bool.false_eq_true, decide_true, decide_false, ite_true, ite_false, Option.some.injEq, reduceIte, pl0, F_l_slack_eq k k.f0 (by have := k.f6; omega)]
  rfl
theorem broken_take {P : Plan} (st : List Int) {i : Nat} {a : Int} (e : (agesL P)[i]? = some a) : ((agesL P).take (i + 1)).filter (fun a => !holdsFor P st a) = ((agesL P).take i).filter (fun a => !holdsFor P st a) ++ (if holdsFor P st a = true then [] else [a]) := by
  rw [List.take_add_one, e, List.filter_append]
  cases q : holdsFor P st a <;> simp [q]
theorem F_l_broken_eq {P : Plan} (k : P.Ok) (st : List Int) (hl : st.length ≤ cap) (h : MH) : ∃ g n, F_l_broken F_l_slack [planM P, rowM st] h = .ok (.ref n) (h ++ g) ∧ (h ++ g)[n]? = some (.lst (ivs (brokenL P st))) ∧ h.length ≤ n := by
  unfold F_l_broken m_l_broken
  have z0 : (0 ≤ cap) = True := eq_true (by decide)
  simp only [Mv.mDef, Mv.mSeq, Mv.mSet, Mv.mRet, Mv.mRetN, Mv.mIfS, Mv.mVar, Mv.mC, Mv.mBin, Mv.mChain, Mv.mCall, Mv.mDo, Mv.mCons, Mv.mNil, Mv.mAndV, Mv.mOrV, Mv.mNotV, Mv.mAsB, Mv.mAndT, Mv.mOrT, Mv.mNotT, Mv.mIf, Mv.mTup, Mv.mLst, Mv.mNext, Mv.mBad, Mv.mDrop, Mv.mPar, Mv.mAsg, Mv.mStore, Mv.mNeg, Mv.fNeg, Mv.mYes, Mv.mNoP, Mv.mPart, Mv.mSl, Mv.fI, Mv.fAdd, Mv.fSub, Mv.fMul, Mv.fMod, Mv.fDiv, Mv.fPow, Mv.fLt, Mv.fLe, Mv.fGt, Mv.fGe, Mv.yes2, Mv.fIsN, Mv.fNotN, Mv.isNon, Mv.items_tup, Mv.items_new, Mv.list_new, Mv.lstOf_new, Mv.fEq_int, Mv.fNe_int, Mv.fLen_tup, Mv.fMax2, Mv.fMin2, Mv.fInt, Mv.fAbs, Mv.mIsi, Mv.isT, Mv.gN, Mv.gT, Mv.setAll, Mv.wipeM, Mv.R.bind_ok, Mv.R.bind_bad, Mv.R.noX_ok, Mv.R.andS_ok, Mv.R.andS_bad, Mv.S.andS_nx, Mv.S.andS_rt, Mv.S.andS_bad, Mv.S.andS_bk, Mv.S.andS_ct, List.map_cons, List.map_nil, List.cons_append, List.nil_append, List.append_nil, List.replicate_succ, List.replicate_zero, List.length_cons, List.length_nil, List.set_cons_zero, List.set_cons_succ, List.getElem?_cons_zero, List.getElem?_cons_succ, List.getElem?_nil, Nat.reduceAdd, Nat.reduceSub, Nat.reduceEqDiff, Nat.reduceLeDiff, Nat.zero_add, if_true, if_false, Bool.not_true, Bool.not_false, Bool.false_eq_true, decide_true, decide_false, ite_true, ite_false, Option.some.injEq, reduceIte, mFor, mRng1, pl0, far_in k, z0]
  refine for_ind (it := itR 0 1 (P.far + 1).toNat) (xs := ivs (agesL P)) (P := fun s => ∃ g n, (match s.andS (mRet (mVar 2)) with
        | .nx _ h' => R.ok MV.non h' | .rt v h' => .ok v h' | .exc x _ h' => .exc x h' | _ => .bad) = .ok (.ref n) (h ++ g) ∧ (h ++ g)[n]? = some (.lst (ivs (brokenL P st))) ∧ h.length ≤ n)
    (fun i env h' => (∃ g, h' = h ++ [MO.lst (ivs (((agesL P).take i).filter fun a => !holdsFor P st a))] ++ g) ∧ ∃ x4 x5, env = [some (planM P), some (rowM st), some (.ref h.length), x4, x5])
    (fun i env h' _ => itR_nx _ _ _ i h') ?_ ?_ fuel 0 _ (h ++ [MO.lst []]) ⟨⟨[], by simp [ivs]⟩, none, none, rfl⟩ (Nat.zero_le _) (by have := fuel_ge; have := ages_cap k; rw [ints_length]; unfold cap at *; omega)
  · rintro env h' ⟨⟨g, rfl⟩, x4, x5, rfl⟩
    rw [ints_length, List.take_length]
    simp only [Mv.mDef, Mv.mSeq, Mv.mSet, Mv.mRet, Mv.mRetN, Mv.mIfS, Mv.mVar, Mv.mC, Mv.mBin, Mv.mChain, Mv.mCall, Mv.mDo, Mv.mCons, Mv.mNil, Mv.mAndV, Mv.mOrV, Mv.mNotV, Mv.mAsB, Mv.mAndT, Mv.mOrT, Mv.mNotT, Mv.mIf, Mv.mTup, Mv.mLst, Mv.mNext, Mv.mBad, Mv.mDrop, Mv.mPar, Mv.mAsg, Mv.mStore, Mv.mNeg, Mv.fNeg, Mv.mYes, Mv.mNoP, Mv.mPart, Mv.mSl, Mv.fI, Mv.fAdd, Mv.fSub, Mv.fMul, Mv.fMod, Mv.fDiv, Mv.fPow, Mv.fLt, Mv.fLe, Mv.fGt, Mv.fGe, Mv.yes2, Mv.fIsN, Mv.fNotN, Mv.isNon, Mv.fIx, Mv.items_tup, Mv.items_new, Mv.list_new, Mv.lstOf_new, Mv.fEq_int, Mv.fNe_int, Mv.fLen_tup, Mv.fMax2, Mv.fMin2, Mv.fInt, Mv.fAbs, Mv.mIsi, Mv.isT, Mv.gN, Mv.gT, Mv.setAll, Mv.wipeM, Mv.R.bind_ok, Mv.R.bind_bad, Mv.R.noX_ok, Mv.R.andS_ok, Mv.R.andS_bad, Mv.S.andS_nx, Mv.S.andS_rt, Mv.S.andS_bad, Mv.S.andS_bk, Mv.S.andS_ct, List.map_cons, List.map_nil, List.cons_append, List.nil_append, List.append_nil, List.replicate_succ, List.replicate_zero, List.length_cons, List.length_nil, List.set_cons_zero, List.set_cons_succ, List.getElem?_cons_zero, List.getElem?_cons_succ, List.getElem?_nil, Nat.reduceAdd, Nat.reduceSub, Nat.reduceEqDiff, Nat.reduceLeDiff, Nat.zero_add, if_true, if_false, Bool.not_true, Bool.not_false, Bool.false_eq_true, decide_true, decide_false, ite_true, ite_false, Option.some.injEq, reduceIte]
    rw [List.append_assoc]
    refine ⟨_, _, rfl, ?_, Nat.le_refl _⟩
    rw [← List.append_assoc]
    exact lst_mid h g _
  · rintro i x env h' hx ⟨⟨g, rfl⟩, x4, x5, rfl⟩
    unfold ivs at hx
    rw [List.getElem?_map] at hx
    cases q : (agesL P)[i]? with
    | none => rw [q] at hx; cases hx
    | some a =>
      rw [q] at hx
      cases hx
      refine ⟨_, rfl, ?_⟩
      have ha := mem_ages k (List.mem_of_getElem? q)
      generalize hh : h ++ [MO.lst (ivs (((agesL P).take i).filter fun a => !holdsFor P st a))] ++ g = h1
      have em : h1[h.length]? = some (.lst (ivs (((agesL P).take i).filter fun a => !holdsFor P st a))) := by rw [← hh]; exact lst_mid h g _
      have gc : compGo (itT (ivs st)) (gN 4) (mAsB (mChain fLe fLe (mVar 3) (mVar 4) (mBin fAdd (mVar 3) (mDo 2 F_l_slack (mCons (mVar 0) (mCons (mVar 3) (mNil))))))) (mVar 4) [4] fuel 0 [some (planM P), some (rowM st), some (.ref h.length), some (.int a), x5] h1 [] = .ok (.ref h1.length) (h1 ++ [.lst ((ableL2 P st a).map MV.int)]) := by
        rw [comp_pure (it := itT (ivs st)) (l := st) (enc := MV.int) (cb := fun o => decide (a ≤ o) && decide (o ≤ a + slack P a)) (f := MV.int) (fun i => itT_nx _ i h1) hl]
        · rfl
        · intro o _
          refine ⟨_, rfl, ?_⟩
          simp only [Mv.mDef, Mv.mSeq, Mv.mSet, Mv.mRet, Mv.mRetN, Mv.mIfS, Mv.mVar, Mv.mC, Mv.mBin, Mv.mChain, Mv.mCall, Mv.mDo, Mv.mCons, Mv.mNil, Mv.mAndV, Mv.mOrV, Mv.mNotV, Mv.mAsB, Mv.mAndT, Mv.mOrT, Mv.mNotT, Mv.mIf, Mv.mTup, Mv.mLst, Mv.mNext, Mv.mBad, Mv.mDrop, Mv.mPar, Mv.mAsg, Mv.mStore, Mv.mNeg, Mv.fNeg, Mv.mYes, Mv.mNoP, Mv.mPart, Mv.mSl, Mv.fI, Mv.fAdd, Mv.fSub, Mv.fMul, Mv.fMod, Mv.fDiv, Mv.fPow, Mv.fLt, Mv.fLe, Mv.fGt, Mv.fGe, Mv.yes2, Mv.fIsN, Mv.fNotN, Mv.isNon, Mv.fIx, Mv.items_tup, Mv.items_new, Mv.list_new, Mv.lstOf_new, Mv.fEq_int, Mv.fNe_int, Mv.fLen_tup, Mv.fMax2, Mv.fMin2, Mv.fInt, Mv.fAbs, Mv.mIsi, Mv.isT, Mv.gN, Mv.gT, Mv.setAll, Mv.wipeM, Mv.R.bind_ok, Mv.R.bind_bad, Mv.R.noX_ok, Mv.R.andS_ok, Mv.R.andS_bad, Mv.S.andS_nx, Mv.S.andS_rt, Mv.S.andS_bad, Mv.S.andS_bk, Mv.S.andS_ct, List.map_cons, List.map_nil, List.cons_append, List.nil_append, List.append_nil, List.replicate_succ, List.replicate_zero, List.length_cons, List.length_nil, List.set_cons_zero, List.set_cons_succ, List.getElem?_cons_zero, List.getElem?_cons_succ, List.getElem?_nil, Nat.reduceAdd, Nat.reduceSub, Nat.reduceEqDiff, Nat.reduceLeDiff, Nat.zero_add, if_true, if_false, Bool.not_true, Bool.not_false, Bool.false_eq_true, decide_true, decide_false, ite_true, ite_false, Option.some.injEq, reduceIte, F_l_slack_eq k ha.1 (show a ≤ 100 by omega)]
          cases decide (a ≤ o)
          · exact ⟨rfl, fun _ => trivial⟩
          · exact ⟨rfl, fun _ => trivial⟩
      unfold fLe at gc
      have hlen : ((ableL2 P st a).map MV.int).length = (ableL2 P st a).length := List.length_map _
      simp only [Mv.mDef, Mv.mSeq, Mv.mSet, Mv.mRet, Mv.mRetN, Mv.mIfS, Mv.mVar, Mv.mC, Mv.mBin, Mv.mChain, Mv.mCall, Mv.mDo, Mv.mCons, Mv.mNil, Mv.mAndV, Mv.mOrV, Mv.mNotV, Mv.mAsB, Mv.mAndT, Mv.mOrT, Mv.mNotT, Mv.mIf, Mv.mTup, Mv.mLst, Mv.mNext, Mv.mBad, Mv.mDrop, Mv.mPar, Mv.mAsg, Mv.mStore, Mv.mNeg, Mv.fNeg, Mv.mYes, Mv.mNoP, Mv.mPart, Mv.mSl, Mv.fI, Mv.fAdd, Mv.fSub, Mv.fMul, Mv.fMod, Mv.fDiv, Mv.fPow, Mv.fLt, Mv.fLe, Mv.fGt, Mv.fGe, Mv.yes2, Mv.fIsN, Mv.fNotN, Mv.isNon, Mv.items_tup, Mv.items_new, Mv.list_new, Mv.lstOf_new, Mv.fEq_int, Mv.fNe_int, Mv.fLen_tup, Mv.fMax2, Mv.fMin2, Mv.fInt, Mv.fAbs, Mv.mIsi, Mv.isT, Mv.gN, Mv.gT, Mv.setAll, Mv.wipeM, Mv.R.bind_ok, Mv.R.bind_bad, Mv.R.noX_ok, Mv.R.andS_ok, Mv.R.andS_bad, Mv.S.andS_nx, Mv.S.andS_rt, Mv.S.andS_bad, Mv.S.andS_bk, Mv.S.andS_ct, List.map_cons, List.map_nil, List.cons_append, List.nil_append, List.append_nil, List.replicate_succ, List.replicate_zero, List.length_cons, List.length_nil, List.set_cons_zero, List.set_cons_succ, List.getElem?_cons_zero, List.getElem?_cons_succ, List.getElem?_nil, Nat.reduceAdd, Nat.reduceSub, Nat.reduceEqDiff, Nat.reduceLeDiff, Nat.zero_add, if_true, if_false, Bool.not_true, Bool.not_false, Bool.false_eq_true, decide_true, decide_false, ite_true, ite_false, Option.some.injEq, reduceIte, mLc, mItV, gc, fLen_new, hlen, pl3]
      have hb : decide (((ableL2 P st a).length : Int) < P.many) = !holdsFor P st a := by
        unfold holdsFor
        by_cases q2 : P.many ≤ ((ableL2 P st a).length : Int)
        · rw [decide_eq_true q2, decide_eq_false (by omega)]; rfl
        · rw [decide_eq_false q2, decide_eq_true (by omega)]; rfl
      rw [hb, broken_take st q]
      cases q3 : holdsFor P st a with
      | true =>
        simp only [Mv.mDef, Mv.mSeq, Mv.mSet, Mv.mRet, Mv.mRetN, Mv.mIfS, Mv.mVar, Mv.mC, Mv.mBin, Mv.mChain, Mv.mCall, Mv.mDo, Mv.mCons, Mv.mNil, Mv.mAndV, Mv.mOrV, Mv.mNotV, Mv.mAsB, Mv.mAndT, Mv.mOrT, Mv.mNotT, Mv.mIf, Mv.mTup, Mv.mLst, Mv.mNext, Mv.mBad, Mv.mDrop, Mv.mPar, Mv.mAsg, Mv.mStore, Mv.mNeg, Mv.fNeg, Mv.mYes, Mv.mNoP, Mv.mPart, Mv.mSl, Mv.fI, Mv.fAdd, Mv.fSub, Mv.fMul, Mv.fMod, Mv.fDiv, Mv.fPow, Mv.fLt, Mv.fLe, Mv.fGt, Mv.fGe, Mv.yes2, Mv.fIsN, Mv.fNotN, Mv.isNon, Mv.fIx, Mv.items_tup, Mv.items_new, Mv.list_new, Mv.lstOf_new, Mv.fEq_int, Mv.fNe_int, Mv.fLen_tup, Mv.fMax2, Mv.fMin2, Mv.fInt, Mv.fAbs, Mv.mIsi, Mv.isT, Mv.gN, Mv.gT, Mv.setAll, Mv.wipeM, Mv.R.bind_ok, Mv.R.bind_bad, Mv.R.noX_ok, Mv.R.andS_ok, Mv.R.andS_bad, Mv.S.andS_nx, Mv.S.andS_rt, Mv.S.andS_bad, Mv.S.andS_bk, Mv.S.andS_ct, List.map_cons, List.map_nil, List.cons_append, List.nil_append, List.append_nil, List.replicate_succ, List.replicate_zero, List.length_cons, List.length_nil, List.set_cons_zero, List.set_cons_succ, List.getElem?_cons_zero, List.getElem?_cons_succ, List.getElem?_nil, Nat.reduceAdd, Nat.reduceSub, Nat.reduceEqDiff, Nat.reduceLeDiff, Nat.zero_add, if_true, if_false, Bool.not_true, Bool.not_false, Bool.false_eq_true, decide_true, decide_false, ite_true, ite_false, Option.some.injEq, reduceIte]
        rw [← hh]
        refine ⟨⟨g ++ [MO.lst ((ableL2 P st a).map MV.int)], by simp only [List.append_assoc]⟩, _, _, rfl⟩
      | false =>
        have el : lstOf (h1 ++ [MO.lst ((ableL2 P st a).map MV.int)]) h.length = some (ivs (((agesL P).take i).filter fun a => !holdsFor P st a)) := lstOf_at (look_app em)
        have hc : (ivs (((agesL P).take i).filter fun a => !holdsFor P st a)).length < cap := by
          rw [ints_length]
          have h1 := List.length_filter_le (fun a => !holdsFor P st a) ((agesL P).take i)
          have h2 : ((agesL P).take i).length ≤ (agesL P).length := by rw [List.length_take]; omega
          have h3 : (agesL P).length ≤ 7 := by
            unfold agesL
            rw [prog_length]
            have := k.f6
            omega
          unfold cap
          omega
        simp only [Mv.mDef, Mv.mSeq, Mv.mSet, Mv.mRet, Mv.mRetN, Mv.mIfS, Mv.mVar, Mv.mC, Mv.mBin, Mv.mChain, Mv.mCall, Mv.mDo, Mv.mCons, Mv.mNil, Mv.mAndV, Mv.mOrV, Mv.mNotV, Mv.mAsB, Mv.mAndT, Mv.mOrT, Mv.mNotT, Mv.mIf, Mv.mTup, Mv.mLst, Mv.mNext, Mv.mBad, Mv.mDrop, Mv.mPar, Mv.mAsg, Mv.mStore, Mv.mNeg, Mv.fNeg, Mv.mYes, Mv.mNoP, Mv.mPart, Mv.mSl, Mv.fI, Mv.fAdd, Mv.fSub, Mv.fMul, Mv.fMod, Mv.fDiv, Mv.fPow, Mv.fLt, Mv.fLe, Mv.fGt, Mv.fGe, Mv.yes2, Mv.fIsN, Mv.fNotN, Mv.isNon, Mv.fIx, Mv.items_tup, Mv.items_new, Mv.list_new, Mv.lstOf_new, Mv.fEq_int, Mv.fNe_int, Mv.fLen_tup, Mv.fMax2, Mv.fMin2, Mv.fInt, Mv.fAbs, Mv.mIsi, Mv.isT, Mv.gN, Mv.gT, Mv.setAll, Mv.wipeM, Mv.R.bind_ok, Mv.R.bind_bad, Mv.R.noX_ok, Mv.R.andS_ok, Mv.R.andS_bad, Mv.S.andS_nx, Mv.S.andS_rt, Mv.S.andS_bad, Mv.S.andS_bk, Mv.S.andS_ct, List.map_cons, List.map_nil, List.cons_append, List.nil_append, List.append_nil, List.replicate_succ, List.replicate_zero, List.length_cons, List.length_nil, List.set_cons_zero, List.set_cons_succ, List.getElem?_cons_zero, List.getElem?_cons_succ, List.getElem?_nil, Nat.reduceAdd, Nat.reduceSub, Nat.reduceEqDiff, Nat.reduceLeDiff, Nat.zero_add, if_true, if_false, Bool.not_true, Bool.not_false, Bool.false_eq_true, decide_true, decide_false, ite_true, ite_false, Option.some.injEq, reduceIte, Mv.mLm, Mv.fAppend, el, hc, list_at (look_app (g := [MO.lst ((ableL2 P st a).map MV.int)]) em)]
        refine ⟨⟨g ++ [MO.lst ((ableL2 P st a).map MV.int)], ?_⟩, _, _, rfl⟩
        rw [← hh, List.append_assoc _ g, set_app]
        unfold ivs
        simp only [List.map_append, List.map_cons, List.map_nil, Bool.false_eq_true, if_false]
noncomputable def G_l_broken : List MV → MH → R MV := specML (fun l : List Int => [rowM l]) (fun _ l => l.length ≤ cap) fun P l => ivs (brokenL P l)
theorem G_l_broken_eq {P : Plan} (k : P.Ok) (l : List Int) (hl : l.length ≤ cap) (h : MH) : G_l_broken [planM P, rowM l] h = .ok (.ref h.length) (h ++ [.lst (ivs (brokenL P l))]) :=
  specML_eq (fun a b q => tints_inj _ _ (List.cons.inj q).1) k (b := l) hl
theorem sim_l_broken (xs : List MV) (h : MH) : Sim h (F_l_broken F_l_slack xs h) (G_l_broken xs h) := specML_sim (fun P l h k d => F_l_broken_eq k l d h) (fun _ _ _ => unds_ints _) xs h
theorem F_l_grown_eq {P : Plan} (k : P.Ok) (st : List Int) (hl : st.length ≤ 1000) (h : MH) : ∃ g n, F_l_grown (F_l_horizon F_l_slack) [planM P, rowM st] h = .ok (.ref n) (h ++ g) ∧ (h ++ g)[n]? = some (.lst (ivs (agedL P st))) ∧ h.length ≤ n := by
  unfold F_l_grown m_l_grown
  have z1 : (1 ≤ cap) = True := eq_true (by decide)
  simp only [Mv.mDef, Mv.mSeq, Mv.mSet, Mv.mRet, Mv.mRetN, Mv.mIfS, Mv.mVar, Mv.mC, Mv.mBin, Mv.mChain, Mv.mCall, Mv.mDo, Mv.mCons, Mv.mNil, Mv.mAndV, Mv.mOrV, Mv.mNotV, Mv.mAsB, Mv.mAndT, Mv.mOrT, Mv.mNotT, Mv.mIf, Mv.mTup, Mv.mLst, Mv.mNext, Mv.mBad, Mv.mDrop, Mv.mPar, Mv.mAsg, Mv.mStore, Mv.mNeg, Mv.fNeg, Mv.mYes, Mv.mNoP, Mv.mPart, Mv.mSl, Mv.fI, Mv.fAdd, Mv.fSub, Mv.fMul, Mv.fMod, Mv.fDiv, Mv.fPow, Mv.fLt, Mv.fLe, Mv.fGt, Mv.fGe, Mv.yes2, Mv.fIsN, Mv.fNotN, Mv.isNon, Mv.fIx, Mv.items_tup, Mv.items_new, Mv.list_new, Mv.lstOf_new, Mv.fEq_int, Mv.fNe_int, Mv.fLen_tup, Mv.fMax2, Mv.fMin2, Mv.fInt, Mv.fAbs, Mv.mIsi, Mv.isT, Mv.gN, Mv.gT, Mv.setAll, Mv.wipeM, Mv.R.bind_ok, Mv.R.bind_bad, Mv.R.noX_ok, Mv.R.andS_ok, Mv.R.andS_bad, Mv.S.andS_nx, Mv.S.andS_rt, Mv.S.andS_bad, Mv.S.andS_bk, Mv.S.andS_ct, List.map_cons, List.map_nil, List.cons_append, List.nil_append, List.append_nil, List.replicate_succ, List.replicate_zero, List.length_cons, List.length_nil, List.set_cons_zero, List.set_cons_succ, List.getElem?_cons_zero, List.getElem?_cons_succ, List.getElem?_nil, Nat.reduceAdd, Nat.reduceSub, Nat.reduceEqDiff, Nat.reduceLeDiff, Nat.zero_add, if_true, if_false, Bool.not_true, Bool.not_false, Bool.false_eq_true, decide_true, decide_false, ite_true, ite_false, Option.some.injEq, reduceIte, mLc, mItV, z1]
  rw [comp_pure (h := h ++ [MO.lst [MV.int 0]]) (it := itT (ivs st)) (l := st) (enc := MV.int) (cb := fun a => decide (a < horizon P)) (f := fun a => MV.int (a + 1)) (fun i => itT_nx _ i _) (by unfold cap; omega)]
  · have e1 : lstOf (h ++ [MO.lst [MV.int 0]] ++ [MO.lst ((st.filter fun a => decide (a < horizon P)).map fun a => MV.int (a + 1))]) h.length = some [MV.int 0] := lstOf_at (look_app (look_new h _))
    have e2 : lstOf (h ++ [MO.lst [MV.int 0]] ++ [MO.lst ((st.filter fun a => decide (a < horizon P)).map fun a => MV.int (a + 1))]) (h ++ [MO.lst [MV.int 0]]).length = some ((st.filter fun a => decide (a < horizon P)).map fun a => MV.int (a + 1)) := lstOf_new _ _
    have hc : (0 + 1 + ((st.filter fun a => decide (a < horizon P)).map fun a => MV.int (a + 1)).length ≤ cap) = True := eq_true (by
      rw [List.length_map]
      have := List.length_filter_le (fun a => decide (a < horizon P)) st
      unfold cap; omega)
    have hc2 : (1 + ((st.filter fun a => decide (a < horizon P)).map fun a => MV.int (a + 1)).length ≤ cap) = True := eq_true (by have := of_eq_true hc; omega)
    simp only [Mv.mDef, Mv.mSeq, Mv.mSet, Mv.mRet, Mv.mRetN, Mv.mIfS, Mv.mVar, Mv.mC, Mv.mBin, Mv.mChain, Mv.mCall, Mv.mDo, Mv.mCons, Mv.mNil, Mv.mAndV, Mv.mOrV, Mv.mNotV, Mv.mAsB, Mv.mAndT, Mv.mOrT, Mv.mNotT, Mv.mIf, Mv.mTup, Mv.mLst, Mv.mNext, Mv.mBad, Mv.mDrop, Mv.mPar, Mv.mAsg, Mv.mStore, Mv.mNeg, Mv.fNeg, Mv.mYes, Mv.mNoP, Mv.mPart, Mv.mSl, Mv.fI, Mv.fAdd, Mv.fSub, Mv.fMul, Mv.fMod, Mv.fDiv, Mv.fPow, Mv.fLt, Mv.fLe, Mv.fGt, Mv.fGe, Mv.yes2, Mv.fIsN, Mv.fNotN, Mv.isNon, Mv.fIx, Mv.items_tup, Mv.items_new, Mv.list_new, Mv.lstOf_new, Mv.fEq_int, Mv.fNe_int, Mv.fLen_tup, Mv.fMax2, Mv.fMin2, Mv.fInt, Mv.fAbs, Mv.mIsi, Mv.isT, Mv.gN, Mv.gT, Mv.setAll, Mv.wipeM, Mv.R.bind_ok, Mv.R.bind_bad, Mv.R.noX_ok, Mv.R.andS_ok, Mv.R.andS_bad, Mv.S.andS_nx, Mv.S.andS_rt, Mv.S.andS_bad, Mv.S.andS_bk, Mv.S.andS_ct, List.map_cons, List.map_nil, List.cons_append, List.nil_append, List.append_nil, List.replicate_succ, List.replicate_zero, List.length_cons, List.length_nil, List.set_cons_zero, List.set_cons_succ, List.getElem?_cons_zero, List.getElem?_cons_succ, List.getElem?_nil, Nat.reduceAdd, Nat.reduceSub, Nat.reduceEqDiff, Nat.reduceLeDiff, Nat.zero_add, if_true, if_false, Bool.not_true, Bool.not_false, Bool.false_eq_true, decide_true, decide_false, ite_true, ite_false, Option.some.injEq, reduceIte, e1, e2, hc, hc2]
    refine ⟨_, _, by rw [List.append_assoc, List.append_assoc], ?_, ?_⟩
    · rw [← List.append_assoc, ← List.append_assoc, look_new]
      unfold agedL ivs
      rw [List.map_cons, List.map_map]
      rfl
    · simp only [List.length_append]; omega
  · intro a _
    refine ⟨_, rfl, ?_⟩
    have hd : decide (a + 1 ≤ horizon P) = decide (a < horizon P) := by
      by_cases q : a < horizon P
      · rw [decide_eq_true q, decide_eq_true (by omega)]
      · rw [decide_eq_false q, decide_eq_false (by omega)]
    simp only [Mv.mDef, Mv.mSeq, Mv.mSet, Mv.mRet, Mv.mRetN, Mv.mIfS, Mv.mVar, Mv.mC, Mv.mBin, Mv.mChain, Mv.mCall, Mv.mDo, Mv.mCons, Mv.mNil, Mv.mAndV, Mv.mOrV, Mv.mNotV, Mv.mAsB, Mv.mAndT, Mv.mOrT, Mv.mNotT, Mv.mIf, Mv.mTup, Mv.mLst, Mv.mNext, Mv.mBad, Mv.mDrop, Mv.mPar, Mv.mAsg, Mv.mStore, Mv.mNeg, Mv.fNeg, Mv.mYes, Mv.mNoP, Mv.mPart, Mv.mSl, Mv.fI, Mv.fAdd, Mv.fSub, Mv.fMul, Mv.fMod, Mv.fDiv, Mv.fPow, Mv.fLt, Mv.fLe, Mv.fGt, Mv.fGe, Mv.yes2, Mv.fIsN, Mv.fNotN, Mv.isNon, Mv.fIx, Mv.items_tup, Mv.items_new, Mv.list_new, Mv.lstOf_new, Mv.fEq_int, Mv.fNe_int, Mv.fLen_tup, Mv.fMax2, Mv.fMin2, Mv.fInt, Mv.fAbs, Mv.mIsi, Mv.isT, Mv.gN, Mv.gT, Mv.setAll, Mv.wipeM, Mv.R.bind_ok, Mv.R.bind_bad, Mv.R.noX_ok, Mv.R.andS_ok, Mv.R.andS_bad, Mv.S.andS_nx, Mv.S.andS_rt, Mv.S.andS_bad, Mv.S.andS_bk, Mv.S.andS_ct, List.map_cons, List.map_nil, List.cons_append, List.nil_append, List.append_nil, List.replicate_succ, List.replicate_zero, List.length_cons, List.length_nil, List.set_cons_zero, List.set_cons_succ, List.getElem?_cons_zero, List.getElem?_cons_succ, List.getElem?_nil, Nat.reduceAdd, Nat.reduceSub, Nat.reduceEqDiff, Nat.reduceLeDiff, Nat.zero_add, if_true, if_false, Bool.not_true, Bool.not_false, Bool.false_eq_true, decide_true, decide_false, ite_true, ite_false, Option.some.injEq, reduceIte, F_l_horizon_eq k, hd]
    exact ⟨trivial, fun _ => trivial⟩
noncomputable def G_l_grown : List MV → MH → R MV := specML (fun l : List Int => [rowM l]) (fun _ l => l.length ≤ 1000) fun P l => ivs (agedL P l)
theorem G_l_grown_eq {P : Plan} (k : P.Ok) (l : List Int) (hl : l.length ≤ 1000) (h : MH) : G_l_grown [planM P, rowM l] h = .ok (.ref h.length) (h ++ [.lst (ivs (agedL P l))]) :=
  specML_eq (fun a b q => tints_inj _ _ (List.cons.inj q).1) k (b := l) hl
theorem sim_l_grown (xs : List MV) (h : MH) : Sim h (F_l_grown (F_l_horizon F_l_slack) xs h) (G_l_grown xs h) := specML_sim (fun P l h k d => F_l_grown_eq k l d h) (fun _ _ _ => unds_ints _) xs h
theorem F_l_promise_eq {P : Plan} (k : P.Ok) (h : MH) : F_l_promise G_Promise_init [planM P] h = .ok (.ref h.length) (h ++ [promO P]) := by
  unfold F_l_promise m_l_promise
  have e : newIns 0 G_Promise_init [.int P.far, .int P.least, .tup [.int P.p, .int P.q], .int P.many] h = .ok (.ref h.length) (h ++ [promO P]) := new_promise k h
  have a1 : atI [MV.int P.far, .int P.least, .tup [.int P.p, .int P.q], .int P.many] 1 = some (.int P.least) := rfl
  have a2 : atI [MV.int P.far, .int P.least, .tup [.int P.p, .int P.q], .int P.many] 2 = some (.tup [.int P.p, .int P.q]) := rfl
  have a3 : atI [MV.int P.far, .int P.least, .tup [.int P.p, .int P.q], .int P.many] 3 = some (.int P.many) := rfl
  unfold planM
  simp only [Mv.mDef, Mv.mSeq, Mv.mSet, Mv.mRet, Mv.mRetN, Mv.mIfS, Mv.mVar, Mv.mC, Mv.mBin, Mv.mChain, Mv.mCall, Mv.mDo, Mv.mCons, Mv.mNil, Mv.mAndV, Mv.mOrV, Mv.mNotV, Mv.mAsB, Mv.mAndT, Mv.mOrT, Mv.mNotT, Mv.mIf, Mv.mTup, Mv.mLst, Mv.mNext, Mv.mBad, Mv.mDrop, Mv.mPar, Mv.mAsg, Mv.mStore, Mv.mNeg, Mv.fNeg, Mv.mYes, Mv.mNoP, Mv.mPart, Mv.mSl, Mv.fI, Mv.fAdd, Mv.fSub, Mv.fMul, Mv.fMod, Mv.fDiv, Mv.fPow, Mv.fLt, Mv.fLe, Mv.fGt, Mv.fGe, Mv.yes2, Mv.fIsN, Mv.fNotN, Mv.isNon, Mv.fIx, Mv.items_tup, Mv.items_new, Mv.list_new, Mv.lstOf_new, Mv.fEq_int, Mv.fNe_int, Mv.fLen_tup, Mv.fMax2, Mv.fMin2, Mv.fInt, Mv.fAbs, Mv.mIsi, Mv.isT, Mv.gN, Mv.gT, Mv.setAll, Mv.wipeM, Mv.R.bind_ok, Mv.R.bind_bad, Mv.R.noX_ok, Mv.R.andS_ok, Mv.R.andS_bad, Mv.S.andS_nx, Mv.S.andS_rt, Mv.S.andS_bad, Mv.S.andS_bk, Mv.S.andS_ct, List.map_cons, List.map_nil, List.cons_append, List.nil_append, List.append_nil, List.replicate_succ, List.replicate_zero, List.length_cons, List.length_nil, List.set_cons_zero, List.set_cons_succ, List.getElem?_cons_zero, List.getElem?_cons_succ, List.getElem?_nil, Nat.reduceAdd, Nat.reduceSub, Nat.reduceEqDiff, Nat.reduceLeDiff, Nat.zero_add, if_true, if_false, Bool.not_true, Bool.not_false, Bool.false_eq_true, decide_true, decide_false, ite_true, ite_false, Option.some.injEq, reduceIte, Mv.mFld, Mv.mIsC, Mv.mMeth, Mv.mMake, Mv.mMakeK, Mv.mEqB, Mv.boolR, Mv.mRev, List.lookup_cons, List.lookup_nil, Nat.reduceBEq, beq_self_eq_true, Mv.ins_new, Mv.set_new, at_zero, a1, a2, a3, e, and_self]
end Mv

set_option maxHeartbeats 4000000
/-! Q6: the law's parts, choices, states -/
namespace Mv
open PySem PySem.Spec L2

def pairK (s : List Int) : MV := .tup [.int (s.length : Nat), rowM s]
theorem data_pairK (h : MH) (s : List Int) : dataOf 12 h (pairK s) = some (keyS s) := by
  have : dataOf 11 h (.tup (ivs s)) = some (.tuple (s.map PyData.int)) := data_ints 9 h s
  show (allSome ([MV.int (s.length : Nat), MV.tup (ivs s)].map (dataOf 11 h))).map PyData.tuple = _
  simp only [List.map_cons, List.map_nil, this, show dataOf 11 h (.int (s.length : Nat)) = some (.int (s.length : Nat)) from rfl, allSome]
  rfl
theorem fSorted_pairs {h : MH} {m : Nat} {L : List (List Int)} (e : h[m]? = some (.lst (L.map pairK))) (hl : L.length ≤ cap) : fSorted [.ref m] h = .ok (.ref h.length) (h ++ [.lst ((sortS L).map pairK)]) := by
  unfold fSorted
  simp only [list_at e]
  have e2 : allSome ((L.map pairK).map (dataOf 12 h)) = some (L.map keyS) := by
    rw [List.map_map]
    exact allSome_map fun s _ => data_pairK h s
  simp only [e2]
  rw [if_pos ⟨by rw [List.length_map]; exact hl, alikeB_map alike_keyS _, sortB_map (fun _ => rfl) _⟩, sortD_map]
  rfl
theorem F_l_parts_eq {h : MH} {m : Nat} {ages : List Int} (e : h[m]? = some (.lst (ivs ages))) (ha : ages.length ≤ 11) (most : Int) : ∃ g n, F_l_parts [.ref m, .int most] h = .ok (.ref n) (h ++ g) ∧ (h ++ g)[n]? = some (.lst (rowsM (sortS (partsL most ages)))) ∧ h.length ≤ n := by
  unfold F_l_parts m_l_parts
  have c1 : (1 ≤ cap) = True := eq_true (by decide)
  have z0 : (0 ≤ cap) = True := eq_true (by decide)
  have e0 : [MV.tup []] = rowsM [[]] := rfl
  simp only [Mv.mDef, Mv.mSeq, Mv.mSet, Mv.mRet, Mv.mRetN, Mv.mIfS, Mv.mVar, Mv.mC, Mv.mBin, Mv.mChain, Mv.mCall, Mv.mDo, Mv.mCons, Mv.mNil, Mv.mAndV, Mv.mOrV, Mv.mNotV, Mv.mAsB, Mv.mAndT, Mv.mOrT, Mv.mNotT, Mv.mIf, Mv.mTup, Mv.mLst, Mv.mNext, Mv.mBad, Mv.mDrop, Mv.mPar, Mv.mAsg, Mv.mStore, Mv.mNeg, Mv.fNeg, Mv.mYes, Mv.mNoP, Mv.mPart, Mv.mSl, Mv.fI, Mv.fAdd, Mv.fSub, Mv.fMul, Mv.fMod, Mv.fDiv, Mv.fPow, Mv.fLt, Mv.fLe, Mv.fGt, Mv.fGe, Mv.yes2, Mv.fIsN, Mv.fNotN, Mv.isNon, Mv.fIx, Mv.items_tup, Mv.items_new, Mv.list_new, Mv.lstOf_new, Mv.fEq_int, Mv.fNe_int, Mv.fLen_tup, Mv.fMax2, Mv.fMin2, Mv.fInt, Mv.fAbs, Mv.mIsi, Mv.isT, Mv.gN, Mv.gT, Mv.setAll, Mv.wipeM, Mv.R.bind_ok, Mv.R.bind_bad, Mv.R.noX_ok, Mv.R.andS_ok, Mv.R.andS_bad, Mv.S.andS_nx, Mv.S.andS_rt, Mv.S.andS_bad, Mv.S.andS_bk, Mv.S.andS_ct, List.map_cons, List.map_nil, List.cons_append, List.nil_append, List.append_nil, List.replicate_succ, List.replicate_zero, List.length_cons, List.length_nil, List.set_cons_zero, List.set_cons_succ, List.getElem?_cons_zero, List.getElem?_cons_succ, List.getElem?_nil, Nat.reduceAdd, Nat.reduceSub, Nat.reduceEqDiff, Nat.reduceLeDiff, Nat.zero_add, if_true, if_false, Bool.not_true, Bool.not_false, Bool.false_eq_true, decide_true, decide_false, ite_true, ite_false, Option.some.injEq, reduceIte, mFor, mItV, c1, z0]
  rw [e0]
  simp only [Mv.mDef, Mv.mSeq, Mv.mSet, Mv.mRet, Mv.mRetN, Mv.mIfS, Mv.mVar, Mv.mC, Mv.mBin, Mv.mChain, Mv.mCall, Mv.mDo, Mv.mCons, Mv.mNil, Mv.mAndV, Mv.mOrV, Mv.mNotV, Mv.mAsB, Mv.mAndT, Mv.mOrT, Mv.mNotT, Mv.mIf, Mv.mTup, Mv.mLst, Mv.mNext, Mv.mBad, Mv.mDrop, Mv.mPar, Mv.mAsg, Mv.mStore, Mv.mNeg, Mv.fNeg, Mv.mYes, Mv.mNoP, Mv.mPart, Mv.mSl, Mv.fI, Mv.fAdd, Mv.fSub, Mv.fMul, Mv.fMod, Mv.fDiv, Mv.fPow, Mv.fLt, Mv.fLe, Mv.fGt, Mv.fGe, Mv.yes2, Mv.fIsN, Mv.fNotN, Mv.isNon, Mv.fIx, Mv.items_tup, Mv.items_new, Mv.list_new, Mv.lstOf_new, Mv.fEq_int, Mv.fNe_int, Mv.fLen_tup, Mv.fMax2, Mv.fMin2, Mv.fInt, Mv.fAbs, Mv.mIsi, Mv.isT, Mv.gN, Mv.gT, Mv.setAll, Mv.wipeM, Mv.R.bind_ok, Mv.R.bind_bad, Mv.R.noX_ok, Mv.R.andS_ok, Mv.R.andS_bad, Mv.S.andS_nx, Mv.S.andS_rt, Mv.S.andS_bad, Mv.S.andS_bk, Mv.S.andS_ct, List.map_cons, List.map_nil, List.cons_append, List.nil_append, List.append_nil, List.replicate_succ, List.replicate_zero, List.length_cons, List.length_nil, List.set_cons_zero, List.set_cons_succ, List.getElem?_cons_zero, List.getElem?_cons_succ, List.getElem?_nil, Nat.reduceAdd, Nat.reduceSub, Nat.reduceEqDiff, Nat.reduceLeDiff, Nat.zero_add, if_true, if_false, Bool.not_true, Bool.not_false, Bool.false_eq_true, decide_true, decide_false, ite_true, ite_false, Option.some.injEq, reduceIte, items_at (look_app (g := [MO.lst (rowsM [[]])]) e)]
  refine for_ind (it := itL m) (xs := ivs ages) (P := fun s => ∃ g n, (match s.andS (mRet (mLc (mItV (mCall fSorted (mCons (mLc (mItV (mVar 2)) (gN 5) (mYes) (mTup (mCons (mCall fLen (mCons (mVar 5) (mNil))) (mCons (mVar 5) (mNil)))) [5]) (mNil)))) (gT [4, 5]) (mYes) (mVar 5) [4, 5])) with
        | .nx _ h' => R.ok MV.non h' | .rt v h' => .ok v h' | .exc x _ h' => .exc x h' | _ => .bad) = .ok (.ref n) (h ++ g) ∧ (h ++ g)[n]? = some (.lst (rowsM (sortS (partsL most ages)))) ∧ h.length ≤ n)
    (fun i env h' => (∃ g n, h' = h ++ g ∧ h'[n]? = some (MO.lst (rowsM (partsL most (ages.take i)))) ∧ env[2]? = some (some (.ref n))) ∧ ∃ x2 x3 x4 x5, env = [some (.ref m), some (.int most), x2, x3, x4, x5])
    (fun i env h' hI => by
      obtain ⟨⟨g, n, rfl, _⟩, _⟩ := hI
      exact itL_nx (look_app e) i) ?_ ?_ fuel 0 _ (h ++ [MO.lst (rowsM [[]])]) ⟨⟨[MO.lst (rowsM [[]])], h.length, rfl, by simp [partsL], rfl⟩, _, _, _, _, rfl⟩ (Nat.zero_le _) (by have := fuel_ge; rw [ints_length]; omega)
  · rintro env h' ⟨⟨g, n, rfl, en, ev⟩, x2, x3, x4, x5, rfl⟩
    rw [ints_length, List.take_length] at en
    have ev : x2 = some (.ref n) := by simpa using ev
    subst ev
    have hp := parts_small (most := most) ha ages.length
    rw [List.take_length] at hp
    generalize hh : h ++ g = h1 at en
    have gc : compGo (itL n) (gN 5) mYes (mTup (mCons (mCall fLen (mCons (mVar 5) (mNil))) (mCons (mVar 5) (mNil)))) [5] fuel 0 [some (.ref m), some (.int most), some (.ref n), x3, x4, x5] h1 [] = .ok (.ref h1.length) (h1 ++ [.lst ((partsL most ages).map pairK)]) := by
      rw [comp_pure (it := itL n) (l := partsL most ages) (enc := rowM) (cb := fun _ => true) (f := pairK) (fun i => itL_nx en i) (Nat.le_trans hp pow10)]
      · rw [filter_yes]
      · intro s hs
        have c2 : (2 ≤ cap) = True := eq_true (by decide)
        refine ⟨_, rfl, rfl, fun _ => ?_⟩
        simp only [Mv.mDef, Mv.mSeq, Mv.mSet, Mv.mRet, Mv.mRetN, Mv.mIfS, Mv.mVar, Mv.mC, Mv.mBin, Mv.mChain, Mv.mCall, Mv.mDo, Mv.mCons, Mv.mNil, Mv.mAndV, Mv.mOrV, Mv.mNotV, Mv.mAsB, Mv.mAndT, Mv.mOrT, Mv.mNotT, Mv.mIf, Mv.mTup, Mv.mLst, Mv.mNext, Mv.mBad, Mv.mDrop, Mv.mPar, Mv.mAsg, Mv.mStore, Mv.mNeg, Mv.fNeg, Mv.mYes, Mv.mNoP, Mv.mPart, Mv.mSl, Mv.fI, Mv.fAdd, Mv.fSub, Mv.fMul, Mv.fMod, Mv.fDiv, Mv.fPow, Mv.fLt, Mv.fLe, Mv.fGt, Mv.fGe, Mv.yes2, Mv.fIsN, Mv.fNotN, Mv.isNon, Mv.fIx, Mv.items_tup, Mv.items_new, Mv.list_new, Mv.lstOf_new, Mv.fEq_int, Mv.fNe_int, Mv.fLen_tup, Mv.fMax2, Mv.fMin2, Mv.fInt, Mv.fAbs, Mv.mIsi, Mv.isT, Mv.gN, Mv.gT, Mv.setAll, Mv.wipeM, Mv.R.bind_ok, Mv.R.bind_bad, Mv.R.noX_ok, Mv.R.andS_ok, Mv.R.andS_bad, Mv.S.andS_nx, Mv.S.andS_rt, Mv.S.andS_bad, Mv.S.andS_bk, Mv.S.andS_ct, List.map_cons, List.map_nil, List.cons_append, List.nil_append, List.append_nil, List.replicate_succ, List.replicate_zero, List.length_cons, List.length_nil, List.set_cons_zero, List.set_cons_succ, List.getElem?_cons_zero, List.getElem?_cons_succ, List.getElem?_nil, Nat.reduceAdd, Nat.reduceSub, Nat.reduceEqDiff, Nat.reduceLeDiff, Nat.zero_add, if_true, if_false, Bool.not_true, Bool.not_false, Bool.false_eq_true, decide_true, decide_false, ite_true, ite_false, Option.some.injEq, reduceIte, c2, ints_length]
        rfl
    simp only [Mv.mDef, Mv.mSeq, Mv.mSet, Mv.mRet, Mv.mRetN, Mv.mIfS, Mv.mVar, Mv.mC, Mv.mBin, Mv.mChain, Mv.mCall, Mv.mDo, Mv.mCons, Mv.mNil, Mv.mAndV, Mv.mOrV, Mv.mNotV, Mv.mAsB, Mv.mAndT, Mv.mOrT, Mv.mNotT, Mv.mIf, Mv.mTup, Mv.mLst, Mv.mNext, Mv.mBad, Mv.mDrop, Mv.mPar, Mv.mAsg, Mv.mStore, Mv.mNeg, Mv.fNeg, Mv.mYes, Mv.mNoP, Mv.mPart, Mv.mSl, Mv.fI, Mv.fAdd, Mv.fSub, Mv.fMul, Mv.fMod, Mv.fDiv, Mv.fPow, Mv.fLt, Mv.fLe, Mv.fGt, Mv.fGe, Mv.yes2, Mv.fIsN, Mv.fNotN, Mv.isNon, Mv.fIx, Mv.items_tup, Mv.items_new, Mv.list_new, Mv.lstOf_new, Mv.fEq_int, Mv.fNe_int, Mv.fLen_tup, Mv.fMax2, Mv.fMin2, Mv.fInt, Mv.fAbs, Mv.mIsi, Mv.isT, Mv.gN, Mv.gT, Mv.setAll, Mv.wipeM, Mv.R.bind_ok, Mv.R.bind_bad, Mv.R.noX_ok, Mv.R.andS_ok, Mv.R.andS_bad, Mv.S.andS_nx, Mv.S.andS_rt, Mv.S.andS_bad, Mv.S.andS_bk, Mv.S.andS_ct, List.map_cons, List.map_nil, List.cons_append, List.nil_append, List.append_nil, List.replicate_succ, List.replicate_zero, List.length_cons, List.length_nil, List.set_cons_zero, List.set_cons_succ, List.getElem?_cons_zero, List.getElem?_cons_succ, List.getElem?_nil, Nat.reduceAdd, Nat.reduceSub, Nat.reduceEqDiff, Nat.reduceLeDiff, Nat.zero_add, if_true, if_false, Bool.not_true, Bool.not_false, Bool.false_eq_true, decide_true, decide_false, ite_true, ite_false, Option.some.injEq, reduceIte, mLc, mItV, items_at en, gc, fSorted_pairs (look_new h1 _) (Nat.le_trans hp pow10), items_new]
    have hs : (sortS (partsL most ages)).length ≤ cap := by rw [(sortS_perm _).length_eq]; exact Nat.le_trans hp pow10
    rw [comp_pure (it := itL (h1 ++ [MO.lst ((partsL most ages).map pairK)]).length) (l := sortS (partsL most ages)) (enc := pairK) (cb := fun _ => true) (f := rowM) (fun i => itL_nx (look_new _ _) i) hs]
    · rw [filter_yes]
      simp only [Mv.mDef, Mv.mSeq, Mv.mSet, Mv.mRet, Mv.mRetN, Mv.mIfS, Mv.mVar, Mv.mC, Mv.mBin, Mv.mChain, Mv.mCall, Mv.mDo, Mv.mCons, Mv.mNil, Mv.mAndV, Mv.mOrV, Mv.mNotV, Mv.mAsB, Mv.mAndT, Mv.mOrT, Mv.mNotT, Mv.mIf, Mv.mTup, Mv.mLst, Mv.mNext, Mv.mBad, Mv.mDrop, Mv.mPar, Mv.mAsg, Mv.mStore, Mv.mNeg, Mv.fNeg, Mv.mYes, Mv.mNoP, Mv.mPart, Mv.mSl, Mv.fI, Mv.fAdd, Mv.fSub, Mv.fMul, Mv.fMod, Mv.fDiv, Mv.fPow, Mv.fLt, Mv.fLe, Mv.fGt, Mv.fGe, Mv.yes2, Mv.fIsN, Mv.fNotN, Mv.isNon, Mv.fIx, Mv.items_tup, Mv.items_new, Mv.list_new, Mv.lstOf_new, Mv.fEq_int, Mv.fNe_int, Mv.fLen_tup, Mv.fMax2, Mv.fMin2, Mv.fInt, Mv.fAbs, Mv.mIsi, Mv.isT, Mv.gN, Mv.gT, Mv.setAll, Mv.wipeM, Mv.R.bind_ok, Mv.R.bind_bad, Mv.R.noX_ok, Mv.R.andS_ok, Mv.R.andS_bad, Mv.S.andS_nx, Mv.S.andS_rt, Mv.S.andS_bad, Mv.S.andS_bk, Mv.S.andS_ct, List.map_cons, List.map_nil, List.cons_append, List.nil_append, List.append_nil, List.replicate_succ, List.replicate_zero, List.length_cons, List.length_nil, List.set_cons_zero, List.set_cons_succ, List.getElem?_cons_zero, List.getElem?_cons_succ, List.getElem?_nil, Nat.reduceAdd, Nat.reduceSub, Nat.reduceEqDiff, Nat.reduceLeDiff, Nat.zero_add, if_true, if_false, Bool.not_true, Bool.not_false, Bool.false_eq_true, decide_true, decide_false, ite_true, ite_false, Option.some.injEq, reduceIte]
      rw [← hh]
      refine ⟨_, _, by rw [List.append_assoc, List.append_assoc, List.append_assoc], ?_, ?_⟩
      · rw [← List.append_assoc, ← List.append_assoc, ← List.append_assoc, look_new]
        rfl
      · simp only [List.length_append]; omega
    · intro s _
      refine ⟨_, rfl, rfl, fun _ => ?_⟩
      simp only [Mv.mDef, Mv.mSeq, Mv.mSet, Mv.mRet, Mv.mRetN, Mv.mIfS, Mv.mVar, Mv.mC, Mv.mBin, Mv.mChain, Mv.mCall, Mv.mDo, Mv.mCons, Mv.mNil, Mv.mAndV, Mv.mOrV, Mv.mNotV, Mv.mAsB, Mv.mAndT, Mv.mOrT, Mv.mNotT, Mv.mIf, Mv.mTup, Mv.mLst, Mv.mNext, Mv.mBad, Mv.mDrop, Mv.mPar, Mv.mAsg, Mv.mStore, Mv.mNeg, Mv.fNeg, Mv.mYes, Mv.mNoP, Mv.mPart, Mv.mSl, Mv.fI, Mv.fAdd, Mv.fSub, Mv.fMul, Mv.fMod, Mv.fDiv, Mv.fPow, Mv.fLt, Mv.fLe, Mv.fGt, Mv.fGe, Mv.yes2, Mv.fIsN, Mv.fNotN, Mv.isNon, Mv.fIx, Mv.items_tup, Mv.items_new, Mv.list_new, Mv.lstOf_new, Mv.fEq_int, Mv.fNe_int, Mv.fLen_tup, Mv.fMax2, Mv.fMin2, Mv.fInt, Mv.fAbs, Mv.mIsi, Mv.isT, Mv.gN, Mv.gT, Mv.setAll, Mv.wipeM, Mv.R.bind_ok, Mv.R.bind_bad, Mv.R.noX_ok, Mv.R.andS_ok, Mv.R.andS_bad, Mv.S.andS_nx, Mv.S.andS_rt, Mv.S.andS_bad, Mv.S.andS_bk, Mv.S.andS_ct, List.map_cons, List.map_nil, List.cons_append, List.nil_append, List.append_nil, List.replicate_succ, List.replicate_zero, List.length_cons, List.length_nil, List.set_cons_zero, List.set_cons_succ, List.getElem?_cons_zero, List.getElem?_cons_succ, List.getElem?_nil, Nat.reduceAdd, Nat.reduceSub, Nat.reduceEqDiff, Nat.reduceLeDiff, Nat.zero_add, if_true, if_false, Bool.not_true, Bool.not_false, Bool.false_eq_true, decide_true, decide_false, ite_true, ite_false, Option.some.injEq, reduceIte]
  · rintro i x env h' hx ⟨⟨g, n, rfl, en, ev⟩, x2, x3, x4, x5, rfl⟩
    have ev : x2 = some (.ref n) := by simpa using ev
    subst ev
    unfold ivs at hx
    rw [List.getElem?_map] at hx
    cases q : ages[i]? with
    | none => rw [q] at hx; cases hx
    | some a =>
      rw [q] at hx
      cases hx
      refine ⟨_, rfl, ?_⟩
      have hp := parts_small (most := most) ha i
      have hp2 := parts_small (most := most) ha (i + 1)
      rw [partsL_take most _ q] at hp2
      have gc := grow_comp (most := most) (a := a) (env := [some (.ref m), some (.int most), some (.ref n), some (.int a), x4, x5]) (tg := gN 5) (c := mAsB (mBin fLt (mCall fLen (mCons (mVar 5) (mNil))) (mVar 1))) (el := mBin fAdd (mVar 5) (mTup (mCons (mVar 3) (mNil)))) (own := [5]) en (Nat.le_trans hp pow10) (fun s hs => Nat.le_trans (parts_each ha hs) (by decide)) (fun s hs => by
        have h1 := parts_each ha hs
        have c3 : (s.length + 1 ≤ cap) = True := eq_true (by unfold cap; omega)
        refine ⟨_, rfl, ?_, ?_⟩
        · simp only [Mv.mDef, Mv.mSeq, Mv.mSet, Mv.mRet, Mv.mRetN, Mv.mIfS, Mv.mVar, Mv.mC, Mv.mBin, Mv.mChain, Mv.mCall, Mv.mDo, Mv.mCons, Mv.mNil, Mv.mAndV, Mv.mOrV, Mv.mNotV, Mv.mAsB, Mv.mAndT, Mv.mOrT, Mv.mNotT, Mv.mIf, Mv.mTup, Mv.mLst, Mv.mNext, Mv.mBad, Mv.mDrop, Mv.mPar, Mv.mAsg, Mv.mStore, Mv.mNeg, Mv.fNeg, Mv.mYes, Mv.mNoP, Mv.mPart, Mv.mSl, Mv.fI, Mv.fAdd, Mv.fSub, Mv.fMul, Mv.fMod, Mv.fDiv, Mv.fPow, Mv.fLt, Mv.fLe, Mv.fGt, Mv.fGe, Mv.yes2, Mv.fIsN, Mv.fNotN, Mv.isNon, Mv.fIx, Mv.items_tup, Mv.items_new, Mv.list_new, Mv.lstOf_new, Mv.fEq_int, Mv.fNe_int, Mv.fLen_tup, Mv.fMax2, Mv.fMin2, Mv.fInt, Mv.fAbs, Mv.mIsi, Mv.isT, Mv.gN, Mv.gT, Mv.setAll, Mv.wipeM, Mv.R.bind_ok, Mv.R.bind_bad, Mv.R.noX_ok, Mv.R.andS_ok, Mv.R.andS_bad, Mv.S.andS_nx, Mv.S.andS_rt, Mv.S.andS_bad, Mv.S.andS_bk, Mv.S.andS_ct, List.map_cons, List.map_nil, List.cons_append, List.nil_append, List.append_nil, List.replicate_succ, List.replicate_zero, List.length_cons, List.length_nil, List.set_cons_zero, List.set_cons_succ, List.getElem?_cons_zero, List.getElem?_cons_succ, List.getElem?_nil, Nat.reduceAdd, Nat.reduceSub, Nat.reduceEqDiff, Nat.reduceLeDiff, Nat.zero_add, if_true, if_false, Bool.not_true, Bool.not_false, Bool.false_eq_true, decide_true, decide_false, ite_true, ite_false, Option.some.injEq, reduceIte, ints_length]
        · simp only [Mv.mDef, Mv.mSeq, Mv.mSet, Mv.mRet, Mv.mRetN, Mv.mIfS, Mv.mVar, Mv.mC, Mv.mBin, Mv.mChain, Mv.mCall, Mv.mDo, Mv.mCons, Mv.mNil, Mv.mAndV, Mv.mOrV, Mv.mNotV, Mv.mAsB, Mv.mAndT, Mv.mOrT, Mv.mNotT, Mv.mIf, Mv.mTup, Mv.mLst, Mv.mNext, Mv.mBad, Mv.mDrop, Mv.mPar, Mv.mAsg, Mv.mStore, Mv.mNeg, Mv.fNeg, Mv.mYes, Mv.mNoP, Mv.mPart, Mv.mSl, Mv.fI, Mv.fAdd, Mv.fSub, Mv.fMul, Mv.fMod, Mv.fDiv, Mv.fPow, Mv.fLt, Mv.fLe, Mv.fGt, Mv.fGe, Mv.yes2, Mv.fIsN, Mv.fNotN, Mv.isNon, Mv.fIx, Mv.items_tup, Mv.items_new, Mv.list_new, Mv.lstOf_new, Mv.fEq_int, Mv.fNe_int, Mv.fLen_tup, Mv.fMax2, Mv.fMin2, Mv.fInt, Mv.fAbs, Mv.mIsi, Mv.isT, Mv.gN, Mv.gT, Mv.setAll, Mv.wipeM, Mv.R.bind_ok, Mv.R.bind_bad, Mv.R.noX_ok, Mv.R.andS_ok, Mv.R.andS_bad, Mv.S.andS_nx, Mv.S.andS_rt, Mv.S.andS_bad, Mv.S.andS_bk, Mv.S.andS_ct, List.map_cons, List.map_nil, List.cons_append, List.nil_append, List.append_nil, List.replicate_succ, List.replicate_zero, List.length_cons, List.length_nil, List.set_cons_zero, List.set_cons_succ, List.getElem?_cons_zero, List.getElem?_cons_succ, List.getElem?_nil, Nat.reduceAdd, Nat.reduceSub, Nat.reduceEqDiff, Nat.reduceLeDiff, Nat.zero_add, if_true, if_false, Bool.not_true, Bool.not_false, Bool.false_eq_true, decide_true, decide_false, ite_true, ite_false, Option.some.injEq, reduceIte, ints_length, c1, c3, row_snoc])
      have hg : (partsL most (ages.take i)).length + (((partsL most (ages.take i)).filter fun s => decide ((s.length : Int) < most)).map fun s => s ++ [a]).length ≤ cap := by
        unfold growP at hp2
        rw [List.length_append] at hp2
        exact Nat.le_trans hp2 pow10
      have hg2 := fAdd_refs (h := h ++ g ++ [MO.lst (rowsM (((partsL most (ages.take i)).filter fun s => decide ((s.length : Int) < most)).map fun s => s ++ [a]))]) (n := n) (m := (h ++ g).length) (look_app en) (look_new _ _) (by rw [rowsM_len, rowsM_len]; exact hg)
      unfold fLt at gc
      simp only [Mv.mDef, Mv.mSeq, Mv.mSet, Mv.mRet, Mv.mRetN, Mv.mIfS, Mv.mVar, Mv.mC, Mv.mBin, Mv.mChain, Mv.mCall, Mv.mDo, Mv.mCons, Mv.mNil, Mv.mAndV, Mv.mOrV, Mv.mNotV, Mv.mAsB, Mv.mAndT, Mv.mOrT, Mv.mNotT, Mv.mIf, Mv.mTup, Mv.mLst, Mv.mNext, Mv.mBad, Mv.mDrop, Mv.mPar, Mv.mAsg, Mv.mStore, Mv.mNeg, Mv.fNeg, Mv.mYes, Mv.mNoP, Mv.mPart, Mv.mSl, Mv.fI, Mv.fSub, Mv.fMul, Mv.fMod, Mv.fDiv, Mv.fPow, Mv.fLt, Mv.fLe, Mv.fGt, Mv.fGe, Mv.yes2, Mv.fIsN, Mv.fNotN, Mv.isNon, Mv.fIx, Mv.items_tup, Mv.items_new, Mv.list_new, Mv.lstOf_new, Mv.fEq_int, Mv.fNe_int, Mv.fLen_tup, Mv.fMax2, Mv.fMin2, Mv.fInt, Mv.fAbs, Mv.mIsi, Mv.isT, Mv.gN, Mv.gT, Mv.setAll, Mv.wipeM, Mv.R.bind_ok, Mv.R.bind_bad, Mv.R.noX_ok, Mv.R.andS_ok, Mv.R.andS_bad, Mv.S.andS_nx, Mv.S.andS_rt, Mv.S.andS_bad, Mv.S.andS_bk, Mv.S.andS_ct, List.map_cons, List.map_nil, List.cons_append, List.nil_append, List.append_nil, List.replicate_succ, List.replicate_zero, List.length_cons, List.length_nil, List.set_cons_zero, List.set_cons_succ, List.getElem?_cons_zero, List.getElem?_cons_succ, List.getElem?_nil, Nat.reduceAdd, Nat.reduceSub, Nat.reduceEqDiff, Nat.reduceLeDiff, Nat.zero_add, if_true, if_false, Bool.not_true, Bool.not_false, Bool.false_eq_true, decide_true, decide_false, ite_true, ite_false, Option.some.injEq, reduceIte, mLc, mItV, items_at en, gc, hg2]
      refine ⟨⟨_, _, by rw [List.append_assoc, List.append_assoc], ?_, rfl⟩, _, _, _, _, rfl⟩
      rw [look_new, partsL_take most _ q]
      unfold growP rowsM
      rw [List.map_append]
noncomputable def G_l_parts : List MV → MH → R MV := specH (α := Nat × Int × List Int) (fun a => [.ref a.1, .int a.2.1]) (fun a h => h[a.1]? = some (.lst (ivs a.2.2)) ∧ a.2.2.length ≤ 11) fun a h => .ok (.ref h.length) (h ++ [.lst (rowsM (sortS (partsL a.2.1 a.2.2)))])
theorem G_l_parts_eq {h : MH} {m : Nat} {ages : List Int} (e : h[m]? = some (.lst (ivs ages))) (ha : ages.length ≤ 11) (most : Int) : G_l_parts [.ref m, .int most] h = .ok (.ref h.length) (h ++ [.lst (rowsM (sortS (partsL most ages)))]) :=
  specH_eq (a := ((m, most, ages) : Nat × Int × List Int)) (fun x y q d1 d2 => by
    obtain ⟨x1, x2, x3⟩ := x
    obtain ⟨y1, y2, y3⟩ := y
    simp only [List.cons.injEq, MV.ref.injEq, MV.int.injEq, and_true] at q
    obtain ⟨rfl, rfl⟩ := q
    have e1 := d1.1.symm.trans d2.1
    simp only [Option.some.injEq, MO.lst.injEq] at e1
    have e2 : x3 = y3 := ivs_inj e1
    subst e2
    rfl) ⟨e, ha⟩
theorem sim_l_parts (xs : List MV) (h : MH) : Sim h (F_l_parts xs h) (G_l_parts xs h) := specH_sim (fun a h d => by
  obtain ⟨g, n, e1, e2, e3⟩ := F_l_parts_eq d.1 d.2 a.2.1
  rw [e1]
  exact sim_list rfl id e2 e3 (und_rowsM _ _)) xs h
theorem good_nil (P : Plan) (s : List Int) : decide (brokenL P s = []) = isGood P s := by
  cases q : isGood P s with
  | false =>
    obtain ⟨a, r, e⟩ := good_iff.mp q
    rw [e]
    rfl
  | true =>
    refine decide_eq_true ?_
    cases e : brokenL P s with
    | nil => rfl
    | cons a r =>
      have := good_iff.mpr ⟨a, r, e⟩
      rw [this] at q
      cases q
/-- filter the sorted parts by what is broken -/
theorem good_comp {P : Plan} (k : P.Ok) {L : List (List Int)} (hl : L.length ≤ cap) (hL : ∀ s ∈ L, s.length ≤ cap) {h : MH} {m : Nat} (e : h[m]? = some (.lst (rowsM L))) {env : MEnv} {tg : MG} {c : MT} {el : ME} {own : List Nat}
    (step : ∀ s ∈ L, ∃ env', tg (rowM s) (wipeM env own) = some env' ∧ (∀ g, ∃ g2, c env' (h ++ g) = .ok (isGood P s) (h ++ g2)) ∧ ∀ g, el env' (h ++ g) = .ok (rowM s) (h ++ g)) :
    ∃ g, compGo (itL m) tg c el own fuel 0 env h [] = .ok (.ref (h ++ g).length) (h ++ g ++ [.lst (rowsM (L.filter (isGood P)))]) := by
  have := comp_more (it := itL m) (tg := tg) (c := c) (m := el) (own := own) (env := env) (h := h) L rowM (isGood P) rowM (fun i g => itL_nx (look_app e) i) hl (fun s hs g => by
    obtain ⟨env', e1, e2, e3⟩ := step s hs
    obtain ⟨g2, e4⟩ := e2 g
    exact ⟨env', e1, g2, e4, fun _ => ⟨g2, e3 g2⟩⟩)
  exact this
theorem fEq_nil {P : Plan} (s : List Int) (h : MH) : fEq (.ref h.length) (.ref (h ++ [MO.lst (ivs (brokenL P s))]).length) (h ++ [MO.lst (ivs (brokenL P s))] ++ [MO.lst []]) = .ok (.bl (isGood P s)) (h ++ [MO.lst (ivs (brokenL P s))] ++ [MO.lst []]) := by
  have e1 : (h ++ [MO.lst (ivs (brokenL P s))] ++ [MO.lst []])[h.length]? = some (.lst (ivs (brokenL P s))) := look_app (look_new h _)
  have e2 : (h ++ [MO.lst (ivs (brokenL P s))] ++ [MO.lst []])[(h ++ [MO.lst (ivs (brokenL P s))]).length]? = some (.lst (ivs [])) := look_new _ _
  rw [fEq_lints e1 e2, good_nil]
theorem F_l_choices_eq {P : Plan} (k : P.Ok) (most : Int) (st : List Int) (hs : st.length ≤ 10) (h : MH) : ∃ g n, F_l_choices G_l_grown G_l_parts G_l_broken [planM P, .int most, rowM st] h = .ok (.ref n) (h ++ g) ∧ (h ++ g)[n]? = some (.lst (rowsM ((sortS (partsL most (agedL P st))).filter (isGood P)))) ∧ h.length ≤ n := by
  unfold F_l_choices m_l_choices
  have ha : (agedL P st).length ≤ 11 := Nat.le_trans (agedL_len P st) (by omega)
  have z0 : (0 ≤ cap) = True := eq_true (by decide)
  simp only [Mv.mDef, Mv.mSeq, Mv.mSet, Mv.mRet, Mv.mRetN, Mv.mIfS, Mv.mVar, Mv.mC, Mv.mBin, Mv.mChain, Mv.mCall, Mv.mDo, Mv.mCons, Mv.mNil, Mv.mAndV, Mv.mOrV, Mv.mNotV, Mv.mAsB, Mv.mAndT, Mv.mOrT, Mv.mNotT, Mv.mIf, Mv.mTup, Mv.mLst, Mv.mNext, Mv.mBad, Mv.mDrop, Mv.mPar, Mv.mAsg, Mv.mStore, Mv.mNeg, Mv.fNeg, Mv.mYes, Mv.mNoP, Mv.mPart, Mv.mSl, Mv.fI, Mv.fAdd, Mv.fSub, Mv.fMul, Mv.fMod, Mv.fDiv, Mv.fPow, Mv.fLt, Mv.fLe, Mv.fGt, Mv.fGe, Mv.yes2, Mv.fIsN, Mv.fNotN, Mv.isNon, Mv.fIx, Mv.items_tup, Mv.items_new, Mv.list_new, Mv.lstOf_new, Mv.fEq_int, Mv.fNe_int, Mv.fLen_tup, Mv.fMax2, Mv.fMin2, Mv.fInt, Mv.fAbs, Mv.mIsi, Mv.isT, Mv.gN, Mv.gT, Mv.setAll, Mv.wipeM, Mv.R.bind_ok, Mv.R.bind_bad, Mv.R.noX_ok, Mv.R.andS_ok, Mv.R.andS_bad, Mv.S.andS_nx, Mv.S.andS_rt, Mv.S.andS_bad, Mv.S.andS_bk, Mv.S.andS_ct, List.map_cons, List.map_nil, List.cons_append, List.nil_append, List.append_nil, List.replicate_succ, List.replicate_zero, List.length_cons, List.length_nil, List.set_cons_zero, List.set_cons_succ, List.getElem?_cons_zero, List.getElem?_cons_succ, List.getElem?_nil, Nat.reduceAdd, Nat.reduceSub, Nat.reduceEqDiff, Nat.reduceLeDiff, Nat.zero_add, if_true, if_false, Bool.not_true, Bool.not_false, Bool.false_eq_true, decide_true, decide_false, ite_true, ite_false, Option.some.injEq, reduceIte, mLc, mItV, G_l_grown_eq k st (show st.length ≤ 1000 by omega), G_l_parts_eq (look_new h _) ha most, items_new]
  generalize hh : h ++ [MO.lst (ivs (agedL P st))] = h1
  have hp := parts_small (most := most) ha (agedL P st).length
  rw [List.take_length] at hp
  have hsl : (sortS (partsL most (agedL P st))).length ≤ cap := by rw [(sortS_perm _).length_eq]; exact Nat.le_trans hp pow10
  have each : ∀ s ∈ sortS (partsL most (agedL P st)), s.length ≤ 11 := fun s hs => by
    have hs' := (sortS_perm _).mem_iff.mp hs
    exact parts_each (most := most) (ages := agedL P st) ha (i := (agedL P st).length) (by rw [List.take_length]; exact hs')
  obtain ⟨g, eg⟩ := good_comp k hsl (fun s hs => by have := each s hs; unfold cap; omega) (look_new h1 (MO.lst (rowsM (sortS (partsL most (agedL P st)))))) (env := [some (planM P), some (.int most), some (rowM st), none]) (tg := gN 3) (c := mAsB (mBin fEq (mDo 2 G_l_broken (mCons (mVar 0) (mCons (mVar 3) (mNil)))) (mLst (mNil)))) (el := mVar 3) (own := [3]) (fun s hs => by
    have hc := each s hs
    refine ⟨_, rfl, fun g => ?_, fun g => ?_⟩
    · simp only [Mv.mDef, Mv.mSeq, Mv.mSet, Mv.mRet, Mv.mRetN, Mv.mIfS, Mv.mVar, Mv.mC, Mv.mBin, Mv.mChain, Mv.mCall, Mv.mDo, Mv.mCons, Mv.mNil, Mv.mAndV, Mv.mOrV, Mv.mNotV, Mv.mAsB, Mv.mAndT, Mv.mOrT, Mv.mNotT, Mv.mIf, Mv.mTup, Mv.mLst, Mv.mNext, Mv.mBad, Mv.mDrop, Mv.mPar, Mv.mAsg, Mv.mStore, Mv.mNeg, Mv.fNeg, Mv.mYes, Mv.mNoP, Mv.mPart, Mv.mSl, Mv.fI, Mv.fAdd, Mv.fSub, Mv.fMul, Mv.fMod, Mv.fDiv, Mv.fPow, Mv.fLt, Mv.fLe, Mv.fGt, Mv.fGe, Mv.yes2, Mv.fIsN, Mv.fNotN, Mv.isNon, Mv.fIx, Mv.items_tup, Mv.items_new, Mv.list_new, Mv.lstOf_new, Mv.fEq_int, Mv.fNe_int, Mv.fLen_tup, Mv.fMax2, Mv.fMin2, Mv.fInt, Mv.fAbs, Mv.mIsi, Mv.isT, Mv.gN, Mv.gT, Mv.setAll, Mv.wipeM, Mv.R.bind_ok, Mv.R.bind_bad, Mv.R.noX_ok, Mv.R.andS_ok, Mv.R.andS_bad, Mv.S.andS_nx, Mv.S.andS_rt, Mv.S.andS_bad, Mv.S.andS_bk, Mv.S.andS_ct, List.map_cons, List.map_nil, List.cons_append, List.nil_append, List.append_nil, List.replicate_succ, List.replicate_zero, List.length_cons, List.length_nil, List.set_cons_zero, List.set_cons_succ, List.getElem?_cons_zero, List.getElem?_cons_succ, List.getElem?_nil, Nat.reduceAdd, Nat.reduceSub, Nat.reduceEqDiff, Nat.reduceLeDiff, Nat.zero_add, if_true, if_false, Bool.not_true, Bool.not_false, Bool.false_eq_true, decide_true, decide_false, ite_true, ite_false, Option.some.injEq, reduceIte, G_l_broken_eq k s (show s.length ≤ cap by unfold cap; omega), z0, fEq_nil]
      rw [List.append_assoc, List.append_assoc]
      exact ⟨_, rfl⟩
    · simp only [Mv.mDef, Mv.mSeq, Mv.mSet, Mv.mRet, Mv.mRetN, Mv.mIfS, Mv.mVar, Mv.mC, Mv.mBin, Mv.mChain, Mv.mCall, Mv.mDo, Mv.mCons, Mv.mNil, Mv.mAndV, Mv.mOrV, Mv.mNotV, Mv.mAsB, Mv.mAndT, Mv.mOrT, Mv.mNotT, Mv.mIf, Mv.mTup, Mv.mLst, Mv.mNext, Mv.mBad, Mv.mDrop, Mv.mPar, Mv.mAsg, Mv.mStore, Mv.mNeg, Mv.fNeg, Mv.mYes, Mv.mNoP, Mv.mPart, Mv.mSl, Mv.fI, Mv.fAdd, Mv.fSub, Mv.fMul, Mv.fMod, Mv.fDiv, Mv.fPow, Mv.fLt, Mv.fLe, Mv.fGt, Mv.fGe, Mv.yes2, Mv.fIsN, Mv.fNotN, Mv.isNon, Mv.fIx, Mv.items_tup, Mv.items_new, Mv.list_new, Mv.lstOf_new, Mv.fEq_int, Mv.fNe_int, Mv.fLen_tup, Mv.fMax2, Mv.fMin2, Mv.fInt, Mv.fAbs, Mv.mIsi, Mv.isT, Mv.gN, Mv.gT, Mv.setAll, Mv.wipeM, Mv.R.bind_ok, Mv.R.bind_bad, Mv.R.noX_ok, Mv.R.andS_ok, Mv.R.andS_bad, Mv.S.andS_nx, Mv.S.andS_rt, Mv.S.andS_bad, Mv.S.andS_bk, Mv.S.andS_ct, List.map_cons, List.map_nil, List.cons_append, List.nil_append, List.append_nil, List.replicate_succ, List.replicate_zero, List.length_cons, List.length_nil, List.set_cons_zero, List.set_cons_succ, List.getElem?_cons_zero, List.getElem?_cons_succ, List.getElem?_nil, Nat.reduceAdd, Nat.reduceSub, Nat.reduceEqDiff, Nat.reduceLeDiff, Nat.zero_add, if_true, if_false, Bool.not_true, Bool.not_false, Bool.false_eq_true, decide_true, decide_false, ite_true, ite_false, Option.some.injEq, reduceIte])
  simp only [Mv.mDef, Mv.mSeq, Mv.mSet, Mv.mRet, Mv.mRetN, Mv.mIfS, Mv.mVar, Mv.mC, Mv.mBin, Mv.mChain, Mv.mCall, Mv.mDo, Mv.mCons, Mv.mNil, Mv.mAndV, Mv.mOrV, Mv.mNotV, Mv.mAsB, Mv.mAndT, Mv.mOrT, Mv.mNotT, Mv.mIf, Mv.mTup, Mv.mLst, Mv.mNext, Mv.mBad, Mv.mDrop, Mv.mPar, Mv.mAsg, Mv.mStore, Mv.mNeg, Mv.fNeg, Mv.mYes, Mv.mNoP, Mv.mPart, Mv.mSl, Mv.fI, Mv.fAdd, Mv.fSub, Mv.fMul, Mv.fMod, Mv.fDiv, Mv.fPow, Mv.fLt, Mv.fLe, Mv.fGt, Mv.fGe, Mv.yes2, Mv.fIsN, Mv.fNotN, Mv.isNon, Mv.fIx, Mv.items_tup, Mv.items_new, Mv.list_new, Mv.lstOf_new, Mv.fEq_int, Mv.fNe_int, Mv.fLen_tup, Mv.fMax2, Mv.fMin2, Mv.fInt, Mv.fAbs, Mv.mIsi, Mv.isT, Mv.gN, Mv.gT, Mv.setAll, Mv.wipeM, Mv.R.bind_ok, Mv.R.bind_bad, Mv.R.noX_ok, Mv.R.andS_ok, Mv.R.andS_bad, Mv.S.andS_nx, Mv.S.andS_rt, Mv.S.andS_bad, Mv.S.andS_bk, Mv.S.andS_ct, List.map_cons, List.map_nil, List.cons_append, List.nil_append, List.append_nil, List.replicate_succ, List.replicate_zero, List.length_cons, List.length_nil, List.set_cons_zero, List.set_cons_succ, List.getElem?_cons_zero, List.getElem?_cons_succ, List.getElem?_nil, Nat.reduceAdd, Nat.reduceSub, Nat.reduceEqDiff, Nat.reduceLeDiff, Nat.zero_add, if_true, if_false, Bool.not_true, Bool.not_false, Bool.false_eq_true, decide_true, decide_false, ite_true, ite_false, Option.some.injEq, reduceIte, eg]
  rw [← hh]
  refine ⟨_, _, by rw [List.append_assoc, List.append_assoc, List.append_assoc], ?_, ?_⟩
  · rw [← List.append_assoc, ← List.append_assoc, ← List.append_assoc, look_new]
  · simp only [List.length_append]; omega
noncomputable def G_l_choices : List MV → MH → R MV := specML (fun b : Int × List Int => [.int b.1, rowM b.2]) (fun _ b => b.2.length ≤ 10) fun P b => rowsM ((sortS (partsL b.1 (agedL P b.2))).filter (isGood P))
theorem G_l_choices_eq {P : Plan} (k : P.Ok) (most : Int) (st : List Int) (hs : st.length ≤ 10) (h : MH) : G_l_choices [planM P, .int most, rowM st] h = .ok (.ref h.length) (h ++ [.lst (rowsM ((sortS (partsL most (agedL P st))).filter (isGood P)))]) :=
  specML_eq two_sm k (b := (most, st)) hs
theorem sim_l_choices (xs : List MV) (h : MH) : Sim h (F_l_choices G_l_grown G_l_parts G_l_broken xs h) (G_l_choices xs h) := specML_sim (fun P b h k d => F_l_choices_eq k b.1 b.2 d h) (fun _ _ _ => und_rowsM _ _) xs h
theorem F_l_states_eq {P : Plan} (k : P.Ok) (most : Int) (h : MH) : ∃ g n, F_l_states (F_l_horizon F_l_slack) G_l_parts G_l_broken [planM P, .int most] h = .ok (.ref n) (h ++ g) ∧ (h ++ g)[n]? = some (.lst (rowsM ((sortS (partsL most (agesH P))).filter (isGood P)))) ∧ h.length ≤ n := by
  unfold F_l_states m_l_states
  have ha : (agesH P).length ≤ 11 := Nat.le_trans (agesH_len k) (by omega)
  have z0 : (0 ≤ cap) = True := eq_true (by decide)
  have hk9 := k.hor9
  have hk0 := k.hor0
  have hl : lrg 0 (horizon P + 1) h = .ok (.ref h.length) (h ++ [.lst (ivs (agesH P))]) := by
    unfold lrg
    rw [if_pos ⟨inR_of (by omega), inR_of (by omega), by unfold cap; omega⟩]
    unfold agesH
    rw [Int.sub_zero]
  simp only [Mv.mDef, Mv.mSeq, Mv.mSet, Mv.mRet, Mv.mRetN, Mv.mIfS, Mv.mVar, Mv.mC, Mv.mBin, Mv.mChain, Mv.mCall, Mv.mDo, Mv.mCons, Mv.mNil, Mv.mAndV, Mv.mOrV, Mv.mNotV, Mv.mAsB, Mv.mAndT, Mv.mOrT, Mv.mNotT, Mv.mIf, Mv.mTup, Mv.mLst, Mv.mNext, Mv.mBad, Mv.mDrop, Mv.mPar, Mv.mAsg, Mv.mStore, Mv.mNeg, Mv.fNeg, Mv.mYes, Mv.mNoP, Mv.mPart, Mv.mSl, Mv.fI, Mv.fAdd, Mv.fSub, Mv.fMul, Mv.fMod, Mv.fDiv, Mv.fPow, Mv.fLt, Mv.fLe, Mv.fGt, Mv.fGe, Mv.yes2, Mv.fIsN, Mv.fNotN, Mv.isNon, Mv.fIx, Mv.items_tup, Mv.items_new, Mv.list_new, Mv.lstOf_new, Mv.fEq_int, Mv.fNe_int, Mv.fLen_tup, Mv.fMax2, Mv.fMin2, Mv.fInt, Mv.fAbs, Mv.mIsi, Mv.isT, Mv.gN, Mv.gT, Mv.setAll, Mv.wipeM, Mv.R.bind_ok, Mv.R.bind_bad, Mv.R.noX_ok, Mv.R.andS_ok, Mv.R.andS_bad, Mv.S.andS_nx, Mv.S.andS_rt, Mv.S.andS_bad, Mv.S.andS_bk, Mv.S.andS_ct, List.map_cons, List.map_nil, List.cons_append, List.nil_append, List.append_nil, List.replicate_succ, List.replicate_zero, List.length_cons, List.length_nil, List.set_cons_zero, List.set_cons_succ, List.getElem?_cons_zero, List.getElem?_cons_succ, List.getElem?_nil, Nat.reduceAdd, Nat.reduceSub, Nat.reduceEqDiff, Nat.reduceLeDiff, Nat.zero_add, if_true, if_false, Bool.not_true, Bool.not_false, Bool.false_eq_true, decide_true, decide_false, ite_true, ite_false, Option.some.injEq, reduceIte, mLc, mItV, mLRg1, F_l_horizon_eq k, hl, G_l_parts_eq (look_new h _) ha most, items_new]
  generalize hh : h ++ [MO.lst (ivs (agesH P))] = h1
  have hp := parts_small (most := most) ha (agesH P).length
  rw [List.take_length] at hp
  have hsl : (sortS (partsL most (agesH P))).length ≤ cap := by rw [(sortS_perm _).length_eq]; exact Nat.le_trans hp pow10
  have each : ∀ s ∈ sortS (partsL most (agesH P)), s.length ≤ 11 := fun s hs => by
    have hs' := (sortS_perm _).mem_iff.mp hs
    exact parts_each (most := most) (ages := agesH P) ha (i := (agesH P).length) (by rw [List.take_length]; exact hs')
  obtain ⟨g, eg⟩ := good_comp k hsl (fun s hs => by have := each s hs; unfold cap; omega) (look_new h1 (MO.lst (rowsM (sortS (partsL most (agesH P)))))) (env := [some (planM P), some (.int most), none]) (tg := gN 2) (c := mAsB (mBin fEq (mDo 2 G_l_broken (mCons (mVar 0) (mCons (mVar 2) (mNil)))) (mLst (mNil)))) (el := mVar 2) (own := [2]) (fun s hs => by
    have hc := each s hs
    refine ⟨_, rfl, fun g => ?_, fun g => ?_⟩
    · simp only [Mv.mDef, Mv.mSeq, Mv.mSet, Mv.mRet, Mv.mRetN, Mv.mIfS, Mv.mVar, Mv.mC, Mv.mBin, Mv.mChain, Mv.mCall, Mv.mDo, Mv.mCons, Mv.mNil, Mv.mAndV, Mv.mOrV, Mv.mNotV, Mv.mAsB, Mv.mAndT, Mv.mOrT, Mv.mNotT, Mv.mIf, Mv.mTup, Mv.mLst, Mv.mNext, Mv.mBad, Mv.mDrop, Mv.mPar, Mv.mAsg, Mv.mStore, Mv.mNeg, Mv.fNeg, Mv.mYes, Mv.mNoP, Mv.mPart, Mv.mSl, Mv.fI, Mv.fAdd, Mv.fSub, Mv.fMul, Mv.fMod, Mv.fDiv, Mv.fPow, Mv.fLt, Mv.fLe, Mv.fGt, Mv.fGe, Mv.yes2, Mv.fIsN, Mv.fNotN, Mv.isNon, Mv.fIx, Mv.items_tup, Mv.items_new, Mv.list_new, Mv.lstOf_new, Mv.fEq_int, Mv.fNe_int, Mv.fLen_tup, Mv.fMax2, Mv.fMin2, Mv.fInt, Mv.fAbs, Mv.mIsi, Mv.isT, Mv.gN, Mv.gT, Mv.setAll, Mv.wipeM, Mv.R.bind_ok, Mv.R.bind_bad, Mv.R.noX_ok, Mv.R.andS_ok, Mv.R.andS_bad, Mv.S.andS_nx, Mv.S.andS_rt, Mv.S.andS_bad, Mv.S.andS_bk, Mv.S.andS_ct, List.map_cons, List.map_nil, List.cons_append, List.nil_append, List.append_nil, List.replicate_succ, List.replicate_zero, List.length_cons, List.length_nil, List.set_cons_zero, List.set_cons_succ, List.getElem?_cons_zero, List.getElem?_cons_succ, List.getElem?_nil, Nat.reduceAdd, Nat.reduceSub, Nat.reduceEqDiff, Nat.reduceLeDiff, Nat.zero_add, if_true, if_false, Bool.not_true, Bool.not_false, Bool.false_eq_true, decide_true, decide_false, ite_true, ite_false, Option.some.injEq, reduceIte, G_l_broken_eq k s (show s.length ≤ cap by unfold cap; omega), z0, fEq_nil]
      rw [List.append_assoc, List.append_assoc]
      exact ⟨_, rfl⟩
    · simp only [Mv.mDef, Mv.mSeq, Mv.mSet, Mv.mRet, Mv.mRetN, Mv.mIfS, Mv.mVar, Mv.mC, Mv.mBin, Mv.mChain, Mv.mCall, Mv.mDo, Mv.mCons, Mv.mNil, Mv.mAndV, Mv.mOrV, Mv.mNotV, Mv.mAsB, Mv.mAndT, Mv.mOrT, Mv.mNotT, Mv.mIf, Mv.mTup, Mv.mLst, Mv.mNext, Mv.mBad, Mv.mDrop, Mv.mPar, Mv.mAsg, Mv.mStore, Mv.mNeg, Mv.fNeg, Mv.mYes, Mv.mNoP, Mv.mPart, Mv.mSl, Mv.fI, Mv.fAdd, Mv.fSub, Mv.fMul, Mv.fMod, Mv.fDiv, Mv.fPow, Mv.fLt, Mv.fLe, Mv.fGt, Mv.fGe, Mv.yes2, Mv.fIsN, Mv.fNotN, Mv.isNon, Mv.fIx, Mv.items_tup, Mv.items_new, Mv.list_new, Mv.lstOf_new, Mv.fEq_int, Mv.fNe_int, Mv.fLen_tup, Mv.fMax2, Mv.fMin2, Mv.fInt, Mv.fAbs, Mv.mIsi, Mv.isT, Mv.gN, Mv.gT, Mv.setAll, Mv.wipeM, Mv.R.bind_ok, Mv.R.bind_bad, Mv.R.noX_ok, Mv.R.andS_ok, Mv.R.andS_bad, Mv.S.andS_nx, Mv.S.andS_rt, Mv.S.andS_bad, Mv.S.andS_bk, Mv.S.andS_ct, List.map_cons, List.map_nil, List.cons_append, List.nil_append, List.append_nil, List.replicate_succ, List.replicate_zero, List.length_cons, List.length_nil, List.set_cons_zero, List.set_cons_succ, List.getElem?_cons_zero, List.getElem?_cons_succ, List.getElem?_nil, Nat.reduceAdd, Nat.reduceSub, Nat.reduceEqDiff, Nat.reduceLeDiff, Nat.zero_add, if_true, if_false, Bool.not_true, Bool.not_false, Bool.false_eq_true, decide_true, decide_false, ite_true, ite_false, Option.some.injEq, reduceIte])
  simp only [Mv.mDef, Mv.mSeq, Mv.mSet, Mv.mRet, Mv.mRetN, Mv.mIfS, Mv.mVar, Mv.mC, Mv.mBin, Mv.mChain, Mv.mCall, Mv.mDo, Mv.mCons, Mv.mNil, Mv.mAndV, Mv.mOrV, Mv.mNotV, Mv.mAsB, Mv.mAndT, Mv.mOrT, Mv.mNotT, Mv.mIf, Mv.mTup, Mv.mLst, Mv.mNext, Mv.mBad, Mv.mDrop, Mv.mPar, Mv.mAsg, Mv.mStore, Mv.mNeg, Mv.fNeg, Mv.mYes, Mv.mNoP, Mv.mPart, Mv.mSl, Mv.fI, Mv.fAdd, Mv.fSub, Mv.fMul, Mv.fMod, Mv.fDiv, Mv.fPow, Mv.fLt, Mv.fLe, Mv.fGt, Mv.fGe, Mv.yes2, Mv.fIsN, Mv.fNotN, Mv.isNon, Mv.fIx, Mv.items_tup, Mv.items_new, Mv.list_new, Mv.lstOf_new, Mv.fEq_int, Mv.fNe_int, Mv.fLen_tup, Mv.fMax2, Mv.fMin2, Mv.fInt, Mv.fAbs, Mv.mIsi, Mv.isT, Mv.gN, Mv.gT, Mv.setAll, Mv.wipeM, Mv.R.bind_ok, Mv.R.bind_bad, Mv.R.noX_ok, Mv.R.andS_ok, Mv.R.andS_bad, Mv.S.andS_nx, Mv.S.andS_rt, Mv.S.andS_bad, Mv.S.andS_bk, Mv.S.andS_ct, List.map_cons, List.map_nil, List.cons_append, List.nil_append, List.append_nil, List.replicate_succ, List.replicate_zero, List.length_cons, List.length_nil, List.set_cons_zero, List.set_cons_succ, List.getElem?_cons_zero, List.getElem?_cons_succ, List.getElem?_nil, Nat.reduceAdd, Nat.reduceSub, Nat.reduceEqDiff, Nat.reduceLeDiff, Nat.zero_add, if_true, if_false, Bool.not_true, Bool.not_false, Bool.false_eq_true, decide_true, decide_false, ite_true, ite_false, Option.some.injEq, reduceIte, eg]
  rw [← hh]
  refine ⟨_, _, by rw [List.append_assoc, List.append_assoc, List.append_assoc], ?_, ?_⟩
  · rw [← List.append_assoc, ← List.append_assoc, ← List.append_assoc, look_new]
  · simp only [List.length_append]; omega
noncomputable def G_l_states : List MV → MH → R MV := specML (fun b : Int => [.int b]) (fun _ _ => True) fun P b => rowsM ((sortS (partsL b (agesH P))).filter (isGood P))
theorem G_l_states_eq {P : Plan} (k : P.Ok) (most : Int) (h : MH) : G_l_states [planM P, .int most] h = .ok (.ref h.length) (h ++ [.lst (rowsM ((sortS (partsL most (agesH P))).filter (isGood P)))]) :=
  specML_eq (fun a b q => by simpa using q) k (b := most) trivial
theorem sim_l_states (xs : List MV) (h : MH) : Sim h (F_l_states (F_l_horizon F_l_slack) G_l_parts G_l_broken xs h) (G_l_states xs h) := specML_sim (fun P b h k _ => F_l_states_eq k b h) (fun _ _ _ => und_rowsM _ _) xs h
end Mv

set_option maxHeartbeats 4000000
/-! Q7: the draws -/
namespace Mv
open PySem PySem.Spec L2

/-! ### sizes of numbers -/
def Sm (n : Nat) (i : Int) : Prop := i.natAbs < 2 ^ n
theorem Sm.mono {a b : Nat} {i : Int} (h : Sm a i) (q : a ≤ b) : Sm b i := Nat.lt_of_lt_of_le h (Nat.pow_le_pow_right (by decide) q)
theorem Sm.add {n : Nat} {i j : Int} (h : Sm n i) (k : Sm n j) : Sm (n + 1) (i + j) := by
  unfold Sm at *
  have := Int.natAbs_add_le i j
  rw [Nat.pow_succ]
  omega
theorem Sm.mul {a b : Nat} {i j : Int} (h : Sm a i) (k : Sm b j) : Sm (a + b) (i * j) := by
  unfold Sm at *
  rw [Int.natAbs_mul, Nat.pow_add]
  exact Nat.mul_lt_mul'' h k
theorem Sm.cmul {a b : Nat} {i j : Int} (h : Sm a i) (k : Sm b j) (h0 : 0 < a) (h1 : 0 < b) (q : a + b ≤ 100000000) : CMulB i j = true := cmul_ok h k h0 h1 q
theorem Sm.small {i : Int} (h0 : -1000000 ≤ i) (h1 : i ≤ 1000000) : Sm 20 i := by
  unfold Sm
  omega
theorem Sm.neg {n : Nat} {i : Int} (h : Sm n i) : Sm n (-i) := by
  unfold Sm at *
  rw [Int.natAbs_neg]
  exact h
theorem Sm.bits {i : Int} {n : Nat} (h : Builtin.Int.intBits i ≤ n) : Sm n i := by
  unfold Sm
  unfold Builtin.Int.intBits at h
  split at h
  · rename_i q
    have : i = 0 := by simpa using q
    rw [this]
    exact Nat.pow_pos (by decide)
  · rename_i q
    have : i ≠ 0 := by simpa using q
    exact Nat.lt_of_lt_of_le (Nat.lt_log2_self) (Nat.pow_le_pow_right (by decide) h)
theorem Sm.sum {n : Nat} : ∀ (l : List Int), (∀ z ∈ l, Sm n z) → Sm (n + l.length) l.sum
  | [], _ => by unfold Sm; simp; exact Nat.pow_pos (by decide)
  | z :: l, h => by
    rw [List.sum_cons, List.length_cons]
    have h1 := Sm.sum l fun y hy => h y (List.mem_cons_of_mem _ hy)
    have h2 := (h z (List.mem_cons_self ..)).mono (Nat.le_add_right n l.length)
    exact h2.add h1
/-! ### draw, cell_at -/
theorem F_l_drawB_eq {n : Nat} {c k b : Int} (h0 : 0 ≤ c) (h1 : Sm n c) (hn : n ≤ 99000000) (h2 : 0 ≤ k) (h3 : k ≤ 100) (hb : 0 < b) (h : MH) : ∃ z, F_l_draw [.int c, .int k, .int b] h = .ok (.int z) h ∧ 0 ≤ z ∧ z < b := by
  unfold F_l_draw m_l_draw
  have a1 : CMulB c 48271 = true := (h1.mono (Nat.le_add_right n 1)).cmul (b := 20) (Sm.small (by decide) (by decide)) (by omega) (by decide) (by omega)
  have a2 : CMulB k 69621 = true := cmul_ok (a := 8) (b := 20) (by omega) (by decide) (by decide) (by decide) (by decide)
  have a3 : (0 : Int) < 16 := by decide
  obtain ⟨p, e1, hp⟩ := primes_at (k % 16).toNat (by omega)
  have e2 : (k % 16) = (((k % 16).toNat : Nat) : Int) := by omega
  have e3 : atI (primes.map MV.int) (k % 16) = some (.int p) := by
    rw [e2]
    refine at_nat ?_
    rw [List.getElem?_map, e1]
    rfl
  have e4 : [MV.int 1000003, .int 1000033, .int 1000037, .int 1000039, .int 1000081, .int 1000099, .int 1000117, .int 1000121, .int 1000133, .int 1000151, .int 1000159, .int 1000171, .int 1000183, .int 1000187, .int 1000193, .int 1000199] = primes.map MV.int := rfl
  have hp0 : 0 < p := by omega
  have hc : ∀ m, m ≤ 16 → m ≤ cap := fun m hm => by unfold cap; omega
  simp only [Mv.mDef, Mv.mSeq, Mv.mSet, Mv.mRet, Mv.mRetN, Mv.mIfS, Mv.mVar, Mv.mC, Mv.mBin, Mv.mChain, Mv.mCall, Mv.mDo, Mv.mCons, Mv.mNil, Mv.mAndV, Mv.mOrV, Mv.mNotV, Mv.mAsB, Mv.mAndT, Mv.mOrT, Mv.mNotT, Mv.mIf, Mv.mTup, Mv.mLst, Mv.mNext, Mv.mBad, Mv.mDrop, Mv.mPar, Mv.mAsg, Mv.mStore, Mv.mNeg, Mv.fNeg, Mv.mYes, Mv.mNoP, Mv.mPart, Mv.mSl, Mv.fI, Mv.fAdd, Mv.fSub, Mv.fMul, Mv.fMod, Mv.fDiv, Mv.fPow, Mv.fLt, Mv.fLe, Mv.fGt, Mv.fGe, Mv.yes2, Mv.fIsN, Mv.fNotN, Mv.isNon, Mv.fIx, Mv.items_tup, Mv.items_new, Mv.list_new, Mv.lstOf_new, Mv.fEq_int, Mv.fNe_int, Mv.fLen_tup, Mv.fMax2, Mv.fMin2, Mv.fInt, Mv.fAbs, Mv.mIsi, Mv.isT, Mv.gN, Mv.gT, Mv.setAll, Mv.wipeM, Mv.R.bind_ok, Mv.R.bind_bad, Mv.R.noX_ok, Mv.R.andS_ok, Mv.R.andS_bad, Mv.S.andS_nx, Mv.S.andS_rt, Mv.S.andS_bad, Mv.S.andS_bk, Mv.S.andS_ct, List.map_cons, List.map_nil, List.cons_append, List.nil_append, List.append_nil, List.replicate_succ, List.replicate_zero, List.length_cons, List.length_nil, List.set_cons_zero, List.set_cons_succ, List.getElem?_cons_zero, List.getElem?_cons_succ, List.getElem?_nil, Nat.reduceAdd, Nat.reduceSub, Nat.reduceEqDiff, Nat.reduceLeDiff, Nat.zero_add, if_true, if_false, Bool.not_true, Bool.not_false, Bool.false_eq_true, decide_true, decide_false, ite_true, ite_false, Option.some.injEq, reduceIte, a1, a2, a3, hc _ (Nat.le_refl 16)]
  rw [e4, e3]
  simp only [Mv.mDef, Mv.mSeq, Mv.mSet, Mv.mRet, Mv.mRetN, Mv.mIfS, Mv.mVar, Mv.mC, Mv.mBin, Mv.mChain, Mv.mCall, Mv.mDo, Mv.mCons, Mv.mNil, Mv.mAndV, Mv.mOrV, Mv.mNotV, Mv.mAsB, Mv.mAndT, Mv.mOrT, Mv.mNotT, Mv.mIf, Mv.mTup, Mv.mLst, Mv.mNext, Mv.mBad, Mv.mDrop, Mv.mPar, Mv.mAsg, Mv.mStore, Mv.mNeg, Mv.fNeg, Mv.mYes, Mv.mNoP, Mv.mPart, Mv.mSl, Mv.fI, Mv.fAdd, Mv.fSub, Mv.fMul, Mv.fMod, Mv.fDiv, Mv.fPow, Mv.fLt, Mv.fLe, Mv.fGt, Mv.fGe, Mv.yes2, Mv.fIsN, Mv.fNotN, Mv.isNon, Mv.fIx, Mv.items_tup, Mv.items_new, Mv.list_new, Mv.lstOf_new, Mv.fEq_int, Mv.fNe_int, Mv.fLen_tup, Mv.fMax2, Mv.fMin2, Mv.fInt, Mv.fAbs, Mv.mIsi, Mv.isT, Mv.gN, Mv.gT, Mv.setAll, Mv.wipeM, Mv.R.bind_ok, Mv.R.bind_bad, Mv.R.noX_ok, Mv.R.andS_ok, Mv.R.andS_bad, Mv.S.andS_nx, Mv.S.andS_rt, Mv.S.andS_bad, Mv.S.andS_bk, Mv.S.andS_ct, List.map_cons, List.map_nil, List.cons_append, List.nil_append, List.append_nil, List.replicate_succ, List.replicate_zero, List.length_cons, List.length_nil, List.set_cons_zero, List.set_cons_succ, List.getElem?_cons_zero, List.getElem?_cons_succ, List.getElem?_nil, Nat.reduceAdd, Nat.reduceSub, Nat.reduceEqDiff, Nat.reduceLeDiff, Nat.zero_add, if_true, if_false, Bool.not_true, Bool.not_false, Bool.false_eq_true, decide_true, decide_false, ite_true, ite_false, Option.some.injEq, reduceIte, hp0, hb]
  exact ⟨_, rfl, Int.emod_nonneg _ (by omega), Int.emod_lt_of_pos _ hb⟩
theorem abs_val (i : Int) : 0 ≤ (if i < 0 then -i else i) := by split <;> omega
theorem Sm.abs {n : Nat} {i : Int} (h : Sm n i) : Sm n (if i < 0 then -i else i) := by
  split
  · exact h.neg
  · exact h
theorem F_l_cellB_eq {h : MH} {s : Nat} {ns : List Int} (q : HasScript h s ns) (hl : ns.length ≤ 63) (hb : ∀ z ∈ ns, Sm 1048576 z) {k : Int} (hk : 0 ≤ k) (hk2 : k ≤ 100) : ∃ z, F_l_cell_at F_l_draw [.ref s, .int k] h = .ok (.int z) h ∧ 0 ≤ z ∧ Sm 1048577 z := by
  unfold F_l_cell_at m_l_cell_at
  simp only [Mv.mDef, Mv.mSeq, Mv.mSet, Mv.mRet, Mv.mRetN, Mv.mIfS, Mv.mVar, Mv.mC, Mv.mBin, Mv.mChain, Mv.mCall, Mv.mDo, Mv.mCons, Mv.mNil, Mv.mAndV, Mv.mOrV, Mv.mNotV, Mv.mAsB, Mv.mAndT, Mv.mOrT, Mv.mNotT, Mv.mIf, Mv.mTup, Mv.mLst, Mv.mNext, Mv.mBad, Mv.mDrop, Mv.mPar, Mv.mAsg, Mv.mStore, Mv.mNeg, Mv.fNeg, Mv.mYes, Mv.mNoP, Mv.mPart, Mv.mSl, Mv.fI, Mv.fAdd, Mv.fSub, Mv.fMul, Mv.fMod, Mv.fDiv, Mv.fPow, Mv.fLt, Mv.fLe, Mv.fGt, Mv.fGe, Mv.yes2, Mv.fIsN, Mv.fNotN, Mv.isNon, Mv.fIx, Mv.items_tup, Mv.items_new, Mv.list_new, Mv.lstOf_new, Mv.fEq_int, Mv.fNe_int, Mv.fLen_tup, Mv.fMax2, Mv.fMin2, Mv.fInt, Mv.fAbs, Mv.mIsi, Mv.isT, Mv.gN, Mv.gT, Mv.setAll, Mv.wipeM, Mv.R.bind_ok, Mv.R.bind_bad, Mv.R.noX_ok, Mv.R.andS_ok, Mv.R.andS_bad, Mv.S.andS_nx, Mv.S.andS_rt, Mv.S.andS_bad, Mv.S.andS_bk, Mv.S.andS_ct, List.map_cons, List.map_nil, List.cons_append, List.nil_append, List.append_nil, List.replicate_succ, List.replicate_zero, List.length_cons, List.length_nil, List.set_cons_zero, List.set_cons_succ, List.getElem?_cons_zero, List.getElem?_cons_succ, List.getElem?_nil, Nat.reduceAdd, Nat.reduceSub, Nat.reduceEqDiff, Nat.reduceLeDiff, Nat.zero_add, if_true, if_false, Bool.not_true, Bool.not_false, Bool.false_eq_true, decide_true, decide_false, ite_true, ite_false, Option.some.injEq, reduceIte, fLen_items q.items, ints_length]
  by_cases hlt : k < (ns.length : Int)
  · have hl' : decide (k < (ns.length : Int)) = true := decide_eq_true hlt
    have e0 : k = ((k.toNat : Nat) : Int) := by omega
    have hi : k.toNat < ns.length := by omega
    obtain ⟨x, ex⟩ : ∃ x, ns[k.toNat]? = some x := ⟨_, List.getElem?_eq_getElem hi⟩
    have e1 : atI (ivs ns) k = some (.int x) := by
      rw [e0]
      refine at_nat ?_
      unfold ivs
      rw [List.getElem?_map, ex]
      rfl
    simp only [Mv.mDef, Mv.mSeq, Mv.mSet, Mv.mRet, Mv.mRetN, Mv.mIfS, Mv.mVar, Mv.mC, Mv.mBin, Mv.mChain, Mv.mCall, Mv.mDo, Mv.mCons, Mv.mNil, Mv.mAndV, Mv.mOrV, Mv.mNotV, Mv.mAsB, Mv.mAndT, Mv.mOrT, Mv.mNotT, Mv.mIf, Mv.mTup, Mv.mLst, Mv.mNext, Mv.mBad, Mv.mDrop, Mv.mPar, Mv.mAsg, Mv.mStore, Mv.mNeg, Mv.fNeg, Mv.mYes, Mv.mNoP, Mv.mPart, Mv.mSl, Mv.fI, Mv.fAdd, Mv.fSub, Mv.fMul, Mv.fMod, Mv.fDiv, Mv.fPow, Mv.fLt, Mv.fLe, Mv.fGt, Mv.fGe, Mv.yes2, Mv.fIsN, Mv.fNotN, Mv.isNon, Mv.fIx, Mv.items_tup, Mv.items_new, Mv.list_new, Mv.lstOf_new, Mv.fEq_int, Mv.fNe_int, Mv.fLen_tup, Mv.fMax2, Mv.fMin2, Mv.fInt, Mv.fAbs, Mv.mIsi, Mv.isT, Mv.gN, Mv.gT, Mv.setAll, Mv.wipeM, Mv.R.bind_ok, Mv.R.bind_bad, Mv.R.noX_ok, Mv.R.andS_ok, Mv.R.andS_bad, Mv.S.andS_nx, Mv.S.andS_rt, Mv.S.andS_bad, Mv.S.andS_bk, Mv.S.andS_ct, List.map_cons, List.map_nil, List.cons_append, List.nil_append, List.append_nil, List.replicate_succ, List.replicate_zero, List.length_cons, List.length_nil, List.set_cons_zero, List.set_cons_succ, List.getElem?_cons_zero, List.getElem?_cons_succ, List.getElem?_nil, Nat.reduceAdd, Nat.reduceSub, Nat.reduceEqDiff, Nat.reduceLeDiff, Nat.zero_add, if_true, if_false, Bool.not_true, Bool.not_false, Bool.false_eq_true, decide_true, decide_false, ite_true, ite_false, Option.some.injEq, reduceIte, hl', q.items, e1]
    exact ⟨_, rfl, abs_val _, (Sm.abs (hb _ (List.mem_of_getElem? ex))).mono (by decide)⟩
  · have hl' : decide (k < (ns.length : Int)) = false := decide_eq_false hlt
    have c1 : CMulB 7919 k = true := cmul_ok (a := 20) (b := 20) (by decide) (by omega) (by decide) (by decide) (by decide)
    have e1 : fSum [.ref s] h = .ok (.int ns.sum) h := by
      unfold fSum
      have : listOf h (.ref s) = some (ivs ns) := q.items
      simp only [this, Option.bind_some, asInts_ivs]
    have s1 : Sm (1048576 + 64) ((if ns.sum < 0 then -ns.sum else ns.sum) + 7919 * k) := by
      have a := (Sm.abs (Sm.sum ns hb)).mono (show 1048576 + ns.length ≤ 1048576 + 63 by omega)
      have b : Sm (1048576 + 63) (7919 * k) := (Sm.small (i := 7919 * k) (by omega) (by omega)).mono (by decide)
      exact a.add b
    obtain ⟨z, e2, z0, z1⟩ := F_l_drawB_eq (c := (if ns.sum < 0 then -ns.sum else ns.sum) + 7919 * k) (k := k) (b := 999983) (by have := abs_val ns.sum; omega) s1 (by decide) hk hk2 (by decide) h
    simp only [Mv.mDef, Mv.mSeq, Mv.mSet, Mv.mRet, Mv.mRetN, Mv.mIfS, Mv.mVar, Mv.mC, Mv.mBin, Mv.mChain, Mv.mCall, Mv.mDo, Mv.mCons, Mv.mNil, Mv.mAndV, Mv.mOrV, Mv.mNotV, Mv.mAsB, Mv.mAndT, Mv.mOrT, Mv.mNotT, Mv.mIf, Mv.mTup, Mv.mLst, Mv.mNext, Mv.mBad, Mv.mDrop, Mv.mPar, Mv.mAsg, Mv.mStore, Mv.mNeg, Mv.fNeg, Mv.mYes, Mv.mNoP, Mv.mPart, Mv.mSl, Mv.fI, Mv.fAdd, Mv.fSub, Mv.fMul, Mv.fMod, Mv.fDiv, Mv.fPow, Mv.fLt, Mv.fLe, Mv.fGt, Mv.fGe, Mv.yes2, Mv.fIsN, Mv.fNotN, Mv.isNon, Mv.fIx, Mv.items_tup, Mv.items_new, Mv.list_new, Mv.lstOf_new, Mv.fEq_int, Mv.fNe_int, Mv.fLen_tup, Mv.fMax2, Mv.fMin2, Mv.fInt, Mv.fAbs, Mv.mIsi, Mv.isT, Mv.gN, Mv.gT, Mv.setAll, Mv.wipeM, Mv.R.bind_ok, Mv.R.bind_bad, Mv.R.noX_ok, Mv.R.andS_ok, Mv.R.andS_bad, Mv.S.andS_nx, Mv.S.andS_rt, Mv.S.andS_bad, Mv.S.andS_bk, Mv.S.andS_ct, List.map_cons, List.map_nil, List.cons_append, List.nil_append, List.append_nil, List.replicate_succ, List.replicate_zero, List.length_cons, List.length_nil, List.set_cons_zero, List.set_cons_succ, List.getElem?_cons_zero, List.getElem?_cons_succ, List.getElem?_nil, Nat.reduceAdd, Nat.reduceSub, Nat.reduceEqDiff, Nat.reduceLeDiff, Nat.zero_add, if_true, if_false, Bool.not_true, Bool.not_false, Bool.false_eq_true, decide_true, decide_false, ite_true, ite_false, Option.some.injEq, reduceIte, hl', e1, c1, e2]
    exact ⟨_, rfl, z0, (Sm.small (by omega) (by omega)).mono (by decide)⟩
/-! ### digits, pool -/
theorem pow18 : decide (0 ≤ (10 : Int) ∧ (10 : Int) ≤ 1000 ∧ 0 ≤ (18 : Int) ∧ (18 : Int) ≤ 1000) = true := by decide
theorem F_l_digits_eq {h : MH} {s : Nat} {ns : List Int} (q : HasScript h s ns) (hl : ns.length ≤ 63) (hb : ∀ z ∈ ns, Sm 1048576 z) {k : Int} (hk : 0 ≤ k) (hk2 : k ≤ 100) {many : Nat} (hm : many ≤ 1000) {base : Int} (b0 : 0 < base) (b1 : base ≤ 2000000) :
    ∃ D g, F_l_digits (F_l_cell_at F_l_draw) F_l_draw [.ref s, .int k, .int many, .int base] h = .ok (.ref h.length) (h ++ [MO.lst (ivs D)] ++ g) ∧ D.length = many := by
  unfold F_l_digits m_l_digits
  obtain ⟨cell, e1, z0, sc⟩ := F_l_cellB_eq q hl hb hk hk2
  have zc : (0 ≤ cap) = True := eq_true (by decide)
  have hm2 : inR (many : Int) = true := inR_of (by omega)
  simp only [Mv.mDef, Mv.mSeq, Mv.mSet, Mv.mRet, Mv.mRetN, Mv.mIfS, Mv.mVar, Mv.mC, Mv.mBin, Mv.mChain, Mv.mCall, Mv.mDo, Mv.mCons, Mv.mNil, Mv.mAndV, Mv.mOrV, Mv.mNotV, Mv.mAsB, Mv.mAndT, Mv.mOrT, Mv.mNotT, Mv.mIf, Mv.mTup, Mv.mLst, Mv.mNext, Mv.mBad, Mv.mDrop, Mv.mPar, Mv.mAsg, Mv.mStore, Mv.mNeg, Mv.fNeg, Mv.mYes, Mv.mNoP, Mv.mPart, Mv.mSl, Mv.fI, Mv.fAdd, Mv.fSub, Mv.fMul, Mv.fMod, Mv.fDiv, Mv.fPow, Mv.fLt, Mv.fLe, Mv.fGt, Mv.fGe, Mv.yes2, Mv.fIsN, Mv.fNotN, Mv.isNon, Mv.fIx, Mv.items_tup, Mv.items_new, Mv.list_new, Mv.lstOf_new, Mv.fEq_int, Mv.fNe_int, Mv.fLen_tup, Mv.fMax2, Mv.fMin2, Mv.fInt, Mv.fAbs, Mv.mIsi, Mv.isT, Mv.gN, Mv.gT, Mv.setAll, Mv.wipeM, Mv.R.bind_ok, Mv.R.bind_bad, Mv.R.noX_ok, Mv.R.andS_ok, Mv.R.andS_bad, Mv.S.andS_nx, Mv.S.andS_rt, Mv.S.andS_bad, Mv.S.andS_bk, Mv.S.andS_ct, List.map_cons, List.map_nil, List.cons_append, List.nil_append, List.append_nil, List.replicate_succ, List.replicate_zero, List.length_cons, List.length_nil, List.set_cons_zero, List.set_cons_succ, List.getElem?_cons_zero, List.getElem?_cons_succ, List.getElem?_nil, Nat.reduceAdd, Nat.reduceSub, Nat.reduceEqDiff, Nat.reduceLeDiff, Nat.zero_add, if_true, if_false, Bool.not_true, Bool.not_false, Bool.false_eq_true, decide_true, decide_false, ite_true, ite_false, Option.some.injEq, reduceIte, mFor, mRng1, e1, zc, pow18, hm2]
  have hdv : ∀ r : Int, CDivB r base = true := fun r => decide_eq_true ⟨b0, by
    have := log2_lt (a := 30) (by decide) (show base.natAbs < 2 ^ 30 by omega)
    omega⟩
  refine for_ind (it := itR 0 1 (many : Int).toNat) (xs := ivs (prog 0 1 many)) (P := fun s' => ∃ D g, (match s'.andS (mRet (mVar 5)) with
        | .nx _ h' => R.ok MV.non h' | .rt v h' => .ok v h' | .exc x _ h' => .exc x h' | _ => .bad) = .ok (.ref h.length) (h ++ [MO.lst (ivs D)] ++ g) ∧ D.length = many)
    (fun i env h' => (∃ D g, h' = h ++ [MO.lst (ivs D)] ++ g ∧ D.length = i) ∧ ∃ r x7 x8 x9, env = [some (.ref s), some (.int k), some (.int many), some (.int base), some (.int cell), some (.ref h.length), some (.int r), x7, x8, x9])
    (fun i env h' _ => by rw [Int.toNat_natCast]; exact itR_nx _ _ _ i h') ?_ ?_ fuel 0 _ (h ++ [MO.lst []]) ⟨⟨[], [], by simp [ivs], rfl⟩, _, _, _, _, rfl⟩ (Nat.zero_le _) (by have := fuel_ge; rw [ints_length, prog_length]; omega)
  · rintro env h' ⟨⟨D, g, rfl, hD⟩, r, x7, x8, x9, rfl⟩
    rw [ints_length, prog_length] at hD
    simp only [Mv.mDef, Mv.mSeq, Mv.mSet, Mv.mRet, Mv.mRetN, Mv.mIfS, Mv.mVar, Mv.mC, Mv.mBin, Mv.mChain, Mv.mCall, Mv.mDo, Mv.mCons, Mv.mNil, Mv.mAndV, Mv.mOrV, Mv.mNotV, Mv.mAsB, Mv.mAndT, Mv.mOrT, Mv.mNotT, Mv.mIf, Mv.mTup, Mv.mLst, Mv.mNext, Mv.mBad, Mv.mDrop, Mv.mPar, Mv.mAsg, Mv.mStore, Mv.mNeg, Mv.fNeg, Mv.mYes, Mv.mNoP, Mv.mPart, Mv.mSl, Mv.fI, Mv.fAdd, Mv.fSub, Mv.fMul, Mv.fMod, Mv.fDiv, Mv.fPow, Mv.fLt, Mv.fLe, Mv.fGt, Mv.fGe, Mv.yes2, Mv.fIsN, Mv.fNotN, Mv.isNon, Mv.fIx, Mv.items_tup, Mv.items_new, Mv.list_new, Mv.lstOf_new, Mv.fEq_int, Mv.fNe_int, Mv.fLen_tup, Mv.fMax2, Mv.fMin2, Mv.fInt, Mv.fAbs, Mv.mIsi, Mv.isT, Mv.gN, Mv.gT, Mv.setAll, Mv.wipeM, Mv.R.bind_ok, Mv.R.bind_bad, Mv.R.noX_ok, Mv.R.andS_ok, Mv.R.andS_bad, Mv.S.andS_nx, Mv.S.andS_rt, Mv.S.andS_bad, Mv.S.andS_bk, Mv.S.andS_ct, List.map_cons, List.map_nil, List.cons_append, List.nil_append, List.append_nil, List.replicate_succ, List.replicate_zero, List.length_cons, List.length_nil, List.set_cons_zero, List.set_cons_succ, List.getElem?_cons_zero, List.getElem?_cons_succ, List.getElem?_nil, Nat.reduceAdd, Nat.reduceSub, Nat.reduceEqDiff, Nat.reduceLeDiff, Nat.zero_add, if_true, if_false, Bool.not_true, Bool.not_false, Bool.false_eq_true, decide_true, decide_false, ite_true, ite_false, Option.some.injEq, reduceIte]
    exact ⟨D, g, rfl, hD⟩
  · rintro i x env h' hx ⟨⟨D, g, rfl, hD⟩, r, x7, x8, x9, rfl⟩
    have hi : i < many := by
      have := (List.getElem?_eq_some_iff.mp hx).1
      rw [ints_length, prog_length] at this
      exact this
    have ex : x = .int (i : Int) := by
      have : (ivs (prog 0 1 many))[i]? = some (.int (i : Int)) := by
        unfold ivs prog
        simp [hi]
      rw [this] at hx
      exact (Option.some.inj hx).symm
    subst ex
    refine ⟨_, rfl, ?_⟩
    have el : ∀ w, lstOf (h ++ [MO.lst (ivs D)] ++ w) h.length = some (ivs D) := fun w => lstOf_at (lst_mid h w _)
    have eL : ∀ w, listOf (h ++ [MO.lst (ivs D)] ++ w) (.ref h.length) = some (ivs D) := fun w => list_at (lst_mid h w _)
    have hc : (ivs D).length < cap := by rw [ints_length, hD]; unfold cap; omega
    have snoc : ∀ v : Int, ivs D ++ [MV.int v] = ivs (D ++ [v]) := fun v => by unfold ivs; rw [List.map_append]; rfl
    by_cases hr : 0 < r
    · have hr' : decide (0 < r) = true := decide_eq_true hr
      simp only [Mv.mDef, Mv.mSeq, Mv.mSet, Mv.mRet, Mv.mRetN, Mv.mIfS, Mv.mVar, Mv.mC, Mv.mBin, Mv.mChain, Mv.mCall, Mv.mDo, Mv.mCons, Mv.mNil, Mv.mAndV, Mv.mOrV, Mv.mNotV, Mv.mAsB, Mv.mAndT, Mv.mOrT, Mv.mNotT, Mv.mIf, Mv.mTup, Mv.mLst, Mv.mNext, Mv.mBad, Mv.mDrop, Mv.mPar, Mv.mAsg, Mv.mStore, Mv.mNeg, Mv.fNeg, Mv.mYes, Mv.mNoP, Mv.mPart, Mv.mSl, Mv.fI, Mv.fAdd, Mv.fSub, Mv.fMul, Mv.fMod, Mv.fDiv, Mv.fPow, Mv.fLt, Mv.fLe, Mv.fGt, Mv.fGe, Mv.yes2, Mv.fIsN, Mv.fNotN, Mv.isNon, Mv.fIx, Mv.items_tup, Mv.items_new, Mv.list_new, Mv.lstOf_new, Mv.fEq_int, Mv.fNe_int, Mv.fLen_tup, Mv.fMax2, Mv.fMin2, Mv.fInt, Mv.fAbs, Mv.mIsi, Mv.isT, Mv.gN, Mv.gT, Mv.setAll, Mv.wipeM, Mv.R.bind_ok, Mv.R.bind_bad, Mv.R.noX_ok, Mv.R.andS_ok, Mv.R.andS_bad, Mv.S.andS_nx, Mv.S.andS_rt, Mv.S.andS_bad, Mv.S.andS_bk, Mv.S.andS_ct, List.map_cons, List.map_nil, List.cons_append, List.nil_append, List.append_nil, List.replicate_succ, List.replicate_zero, List.length_cons, List.length_nil, List.set_cons_zero, List.set_cons_succ, List.getElem?_cons_zero, List.getElem?_cons_succ, List.getElem?_nil, Nat.reduceAdd, Nat.reduceSub, Nat.reduceEqDiff, Nat.reduceLeDiff, Nat.zero_add, if_true, if_false, Bool.not_true, Bool.not_false, Bool.false_eq_true, decide_true, decide_false, ite_true, ite_false, Option.some.injEq, reduceIte, hr', Mv.mLm, Mv.fAppend, el, eL, hc, b0, hdv, set_app, snoc]
      exact ⟨⟨D ++ [r % base], g, rfl, by rw [List.length_append, hD]; rfl⟩, _, _, _, _, rfl⟩
    · have hr' : decide (0 < r) = false := decide_eq_false hr
      have i0 : (0 : Int) ≤ (i : Int) := by omega
      have i1 : (i : Int) ≤ 1000 := by omega
      have s1 : Sm 1048577 (977 * (i : Int)) := (Sm.small (by omega) (by omega)).mono (by decide)
      have s2 : Sm 1048577 (31 * (i : Int)) := (Sm.small (by omega) (by omega)).mono (by decide)
      have c1 : CMulB 977 (i : Int) = true := cmul_ok (a := 20) (b := 20) (by decide) (by omega) (by decide) (by decide) (by decide)
      have c2 : CMulB 31 (i : Int) = true := cmul_ok (a := 20) (b := 20) (by decide) (by omega) (by decide) (by decide) (by decide)
      have t1 := sc.add s1
      have t2 := sc.add s2
      have t3 : Sm (1048577 + 1 + 1) (cell + 31 * (i : Int) + 5) := t2.add ((Sm.small (i := 5) (by decide) (by decide)).mono (by decide))
      have t4 : Sm (1048577 + 1) (cell + 7) := sc.add ((Sm.small (i := 7) (by decide) (by decide)).mono (by decide))
      have c3 : CMulB (cell + 977 * (i : Int)) (cell + 31 * (i : Int) + 5) = true := t1.cmul t3 (by decide) (by decide) (by decide)
      have c4 : CMulB (cell + 31 * (i : Int)) (cell + 7) = true := t2.cmul t4 (by decide) (by decide) (by decide)
      have p1 := t1.mul t3
      have p2 : Sm (1048577 + 1 + (1048577 + 1) + 1) ((cell + 31 * (i : Int)) * (cell + 7) + 977 * (i : Int)) := (t2.mul t4).add (s1.mono (by decide))
      have n1 : 0 ≤ (cell + 977 * (i : Int)) * (cell + 31 * (i : Int) + 5) := Int.mul_nonneg (by omega) (by omega)
      have n2 : 0 ≤ (cell + 31 * (i : Int)) * (cell + 7) + 977 * (i : Int) := Int.add_nonneg (Int.mul_nonneg (by omega) (by omega)) (by omega)
      obtain ⟨w1, f1, w10, w11⟩ := F_l_drawB_eq (k := (i : Int) % 9 + 1) (b := 999983) n1 p1 (by decide) (by omega) (by omega) (by decide) (h ++ [MO.lst (ivs D)] ++ g)
      obtain ⟨w2, f2, w20, w21⟩ := F_l_drawB_eq (k := (i : Int) % 7 + 2) (b := 1000003) n2 p2 (by decide) (by omega) (by omega) (by decide) (h ++ [MO.lst (ivs D)] ++ g)
      have c5 : CMulB w1 1000003 = true := cmul_ok (a := 30) (b := 30) (by omega) (by decide) (by decide) (by decide) (by decide)
      have d9 : (0 : Int) < 9 := by decide
      have d7 : (0 : Int) < 7 := by decide
      simp only [Mv.mDef, Mv.mSeq, Mv.mSet, Mv.mRet, Mv.mRetN, Mv.mIfS, Mv.mVar, Mv.mC, Mv.mBin, Mv.mChain, Mv.mCall, Mv.mDo, Mv.mCons, Mv.mNil, Mv.mAndV, Mv.mOrV, Mv.mNotV, Mv.mAsB, Mv.mAndT, Mv.mOrT, Mv.mNotT, Mv.mIf, Mv.mTup, Mv.mLst, Mv.mNext, Mv.mBad, Mv.mDrop, Mv.mPar, Mv.mAsg, Mv.mStore, Mv.mNeg, Mv.fNeg, Mv.mYes, Mv.mNoP, Mv.mPart, Mv.mSl, Mv.fI, Mv.fAdd, Mv.fSub, Mv.fMul, Mv.fMod, Mv.fDiv, Mv.fPow, Mv.fLt, Mv.fLe, Mv.fGt, Mv.fGe, Mv.yes2, Mv.fIsN, Mv.fNotN, Mv.isNon, Mv.fIx, Mv.items_tup, Mv.items_new, Mv.list_new, Mv.lstOf_new, Mv.fEq_int, Mv.fNe_int, Mv.fLen_tup, Mv.fMax2, Mv.fMin2, Mv.fInt, Mv.fAbs, Mv.mIsi, Mv.isT, Mv.gN, Mv.gT, Mv.setAll, Mv.wipeM, Mv.R.bind_ok, Mv.R.bind_bad, Mv.R.noX_ok, Mv.R.andS_ok, Mv.R.andS_bad, Mv.S.andS_nx, Mv.S.andS_rt, Mv.S.andS_bad, Mv.S.andS_bk, Mv.S.andS_ct, List.map_cons, List.map_nil, List.cons_append, List.nil_append, List.append_nil, List.replicate_succ, List.replicate_zero, List.length_cons, List.length_nil, List.set_cons_zero, List.set_cons_succ, List.getElem?_cons_zero, List.getElem?_cons_succ, List.getElem?_nil, Nat.reduceAdd, Nat.reduceSub, Nat.reduceEqDiff, Nat.reduceLeDiff, Nat.zero_add, if_true, if_false, Bool.not_true, Bool.not_false, Bool.false_eq_true, decide_true, decide_false, ite_true, ite_false, Option.some.injEq, reduceIte, hr', c1, c2, c3, c4, c5, d9, d7, f1, f2, Mv.mLm, Mv.fAppend, el, eL, hc, b0, set_app, snoc]
      exact ⟨⟨D ++ [(w1 * 1000003 + w2) % base], g, rfl, by rw [List.length_append, hD]; rfl⟩, _, _, _, _, rfl⟩
theorem F_l_pool_eq {h : MH} {s : Nat} {ns : List Int} (q : HasScript h s ns) (hl : ns.length ≤ 63) (hb : ∀ z ∈ ns, Sm 1048576 z) :
    ∃ D g n, F_l_pool (F_l_digits (F_l_cell_at F_l_draw) F_l_draw) [.ref s, .tup [.int 1009, .int 1013, .int 1000033]] h = .ok (.ref n) (h ++ g) ∧ (h ++ g)[n]? = some (.lst (ivs D)) ∧ D.length ≤ 450 ∧ h.length ≤ n := by
  unfold F_l_pool m_l_pool
  have zc : (0 ≤ cap) = True := eq_true (by decide)
  simp only [Mv.mDef, Mv.mSeq, Mv.mSet, Mv.mRet, Mv.mRetN, Mv.mIfS, Mv.mVar, Mv.mC, Mv.mBin, Mv.mChain, Mv.mCall, Mv.mDo, Mv.mCons, Mv.mNil, Mv.mAndV, Mv.mOrV, Mv.mNotV, Mv.mAsB, Mv.mAndT, Mv.mOrT, Mv.mNotT, Mv.mIf, Mv.mTup, Mv.mLst, Mv.mNext, Mv.mBad, Mv.mDrop, Mv.mPar, Mv.mAsg, Mv.mStore, Mv.mNeg, Mv.fNeg, Mv.mYes, Mv.mNoP, Mv.mPart, Mv.mSl, Mv.fI, Mv.fAdd, Mv.fSub, Mv.fMul, Mv.fMod, Mv.fDiv, Mv.fPow, Mv.fLt, Mv.fLe, Mv.fGt, Mv.fGe, Mv.yes2, Mv.fIsN, Mv.fNotN, Mv.isNon, Mv.fIx, Mv.items_tup, Mv.items_new, Mv.list_new, Mv.lstOf_new, Mv.fEq_int, Mv.fNe_int, Mv.fLen_tup, Mv.fMax2, Mv.fMin2, Mv.fInt, Mv.fAbs, Mv.mIsi, Mv.isT, Mv.gN, Mv.gT, Mv.setAll, Mv.wipeM, Mv.R.bind_ok, Mv.R.bind_bad, Mv.R.noX_ok, Mv.R.andS_ok, Mv.R.andS_bad, Mv.S.andS_nx, Mv.S.andS_rt, Mv.S.andS_bad, Mv.S.andS_bk, Mv.S.andS_ct, List.map_cons, List.map_nil, List.cons_append, List.nil_append, List.append_nil, List.replicate_succ, List.replicate_zero, List.length_cons, List.length_nil, List.set_cons_zero, List.set_cons_succ, List.getElem?_cons_zero, List.getElem?_cons_succ, List.getElem?_nil, Nat.reduceAdd, Nat.reduceSub, Nat.reduceEqDiff, Nat.reduceLeDiff, Nat.zero_add, if_true, if_false, Bool.not_true, Bool.not_false, Bool.false_eq_true, decide_true, decide_false, ite_true, ite_false, Option.some.injEq, reduceIte, mFor, mEnumV, zc]
  refine for_ind (it := itE (itT [.int 1009, .int 1013, .int 1000033])) (xs := enumL [.int 1009, .int 1013, .int 1000033]) (P := fun s' => ∃ D g n, (match s'.andS (mRet (mVar 2)) with
        | .nx _ h' => R.ok MV.non h' | .rt v h' => .ok v h' | .exc x _ h' => .exc x h' | _ => .bad) = .ok (.ref n) (h ++ g) ∧ (h ++ g)[n]? = some (.lst (ivs D)) ∧ D.length ≤ 450 ∧ h.length ≤ n)
    (fun i env h' => (∃ D g n, h' = h ++ g ∧ (h ++ g)[n]? = some (.lst (ivs D)) ∧ D.length = 150 * i ∧ h.length ≤ n ∧ env[2]? = some (some (.ref n))) ∧ ∃ x2 x3 x4, env = [some (.ref s), some (.tup [.int 1009, .int 1013, .int 1000033]), x2, x3, x4])
    (fun i env h' _ => itE_nx (fun i => itT_nx _ i h') i) ?_ ?_ fuel 0 _ (h ++ [MO.lst []]) ⟨⟨[], [MO.lst []], h.length, rfl, by simp [ivs], rfl, Nat.le_refl _, rfl⟩, _, _, _, rfl⟩ (Nat.zero_le _) (by have := fuel_ge; rw [enum_len]; simp; omega)
  · rintro env h' ⟨⟨D, g, n, rfl, en, hD, hn, ev⟩, x2, x3, x4, rfl⟩
    have ev : x2 = some (.ref n) := by simpa using ev
    subst ev
    rw [enum_len] at hD
    simp only [Mv.mDef, Mv.mSeq, Mv.mSet, Mv.mRet, Mv.mRetN, Mv.mIfS, Mv.mVar, Mv.mC, Mv.mBin, Mv.mChain, Mv.mCall, Mv.mDo, Mv.mCons, Mv.mNil, Mv.mAndV, Mv.mOrV, Mv.mNotV, Mv.mAsB, Mv.mAndT, Mv.mOrT, Mv.mNotT, Mv.mIf, Mv.mTup, Mv.mLst, Mv.mNext, Mv.mBad, Mv.mDrop, Mv.mPar, Mv.mAsg, Mv.mStore, Mv.mNeg, Mv.fNeg, Mv.mYes, Mv.mNoP, Mv.mPart, Mv.mSl, Mv.fI, Mv.fAdd, Mv.fSub, Mv.fMul, Mv.fMod, Mv.fDiv, Mv.fPow, Mv.fLt, Mv.fLe, Mv.fGt, Mv.fGe, Mv.yes2, Mv.fIsN, Mv.fNotN, Mv.isNon, Mv.fIx, Mv.items_tup, Mv.items_new, Mv.list_new, Mv.lstOf_new, Mv.fEq_int, Mv.fNe_int, Mv.fLen_tup, Mv.fMax2, Mv.fMin2, Mv.fInt, Mv.fAbs, Mv.mIsi, Mv.isT, Mv.gN, Mv.gT, Mv.setAll, Mv.wipeM, Mv.R.bind_ok, Mv.R.bind_bad, Mv.R.noX_ok, Mv.R.andS_ok, Mv.R.andS_bad, Mv.S.andS_nx, Mv.S.andS_rt, Mv.S.andS_bad, Mv.S.andS_bk, Mv.S.andS_ct, List.map_cons, List.map_nil, List.cons_append, List.nil_append, List.append_nil, List.replicate_succ, List.replicate_zero, List.length_cons, List.length_nil, List.set_cons_zero, List.set_cons_succ, List.getElem?_cons_zero, List.getElem?_cons_succ, List.getElem?_nil, Nat.reduceAdd, Nat.reduceSub, Nat.reduceEqDiff, Nat.reduceLeDiff, Nat.zero_add, if_true, if_false, Bool.not_true, Bool.not_false, Bool.false_eq_true, decide_true, decide_false, ite_true, ite_false, Option.some.injEq, reduceIte]
    exact ⟨D, g, n, rfl, en, by simp at hD; omega, hn⟩
  · rintro i x env h' hx ⟨⟨D, g, n, rfl, en, hD, hn, ev⟩, x2, x3, x4, rfl⟩
    have ev : x2 = some (.ref n) := by simpa using ev
    subst ev
    have hi : i < 3 := by
      have := (List.getElem?_eq_some_iff.mp hx).1
      rw [enum_len] at this
      exact this
    obtain ⟨b, eb, b0, b1⟩ : ∃ b : Int, ([.int 1009, .int 1013, .int 1000033] : List MV)[i]? = some (.int b) ∧ 0 < b ∧ b ≤ 2000000 := by
      match i, hi with
      | 0, _ => exact ⟨1009, rfl, by decide, by decide⟩
      | 1, _ => exact ⟨1013, rfl, by decide, by decide⟩
      | 2, _ => exact ⟨1000033, rfl, by decide, by decide⟩
    have ex := enum_at hx eb
    subst ex
    refine ⟨_, rfl, ?_⟩
    obtain ⟨D2, g2, ed, hD2⟩ := F_l_digits_eq (h := h ++ g) (many := 150) (base := b) (k := (i : Int)) (q.app) hl hb (by omega) (by omega) (by decide) b0 b1
    have ed : F_l_digits (F_l_cell_at F_l_draw) F_l_draw [.ref s, .int (i : Int), .int 150, .int b] (h ++ g) = .ok (.ref (h ++ g).length) (h ++ g ++ [MO.lst (ivs D2)] ++ g2) := ed
    have ea := fAdd_refs (h := h ++ g ++ [MO.lst (ivs D2)] ++ g2) (n := n) (m := (h ++ g).length) (look_app (look_app en)) (lst_mid (h ++ g) g2 _) (by rw [ints_length, ints_length, hD, hD2]; unfold cap; omega)
    simp only [Mv.mDef, Mv.mSeq, Mv.mSet, Mv.mRet, Mv.mRetN, Mv.mIfS, Mv.mVar, Mv.mC, Mv.mBin, Mv.mChain, Mv.mCall, Mv.mDo, Mv.mCons, Mv.mNil, Mv.mAndV, Mv.mOrV, Mv.mNotV, Mv.mAsB, Mv.mAndT, Mv.mOrT, Mv.mNotT, Mv.mIf, Mv.mTup, Mv.mLst, Mv.mNext, Mv.mBad, Mv.mDrop, Mv.mPar, Mv.mAsg, Mv.mStore, Mv.mNeg, Mv.fNeg, Mv.mYes, Mv.mNoP, Mv.mPart, Mv.mSl, Mv.fI, Mv.fSub, Mv.fMul, Mv.fMod, Mv.fDiv, Mv.fPow, Mv.fLt, Mv.fLe, Mv.fGt, Mv.fGe, Mv.yes2, Mv.fIsN, Mv.fNotN, Mv.isNon, Mv.fIx, Mv.items_tup, Mv.items_new, Mv.list_new, Mv.lstOf_new, Mv.fEq_int, Mv.fNe_int, Mv.fLen_tup, Mv.fMax2, Mv.fMin2, Mv.fInt, Mv.fAbs, Mv.mIsi, Mv.isT, Mv.gN, Mv.gT, Mv.setAll, Mv.wipeM, Mv.R.bind_ok, Mv.R.bind_bad, Mv.R.noX_ok, Mv.R.andS_ok, Mv.R.andS_bad, Mv.S.andS_nx, Mv.S.andS_rt, Mv.S.andS_bad, Mv.S.andS_bk, Mv.S.andS_ct, List.map_cons, List.map_nil, List.cons_append, List.nil_append, List.append_nil, List.replicate_succ, List.replicate_zero, List.length_cons, List.length_nil, List.set_cons_zero, List.set_cons_succ, List.getElem?_cons_zero, List.getElem?_cons_succ, List.getElem?_nil, Nat.reduceAdd, Nat.reduceSub, Nat.reduceEqDiff, Nat.reduceLeDiff, Nat.zero_add, if_true, if_false, Bool.not_true, Bool.not_false, Bool.false_eq_true, decide_true, decide_false, ite_true, ite_false, Option.some.injEq, reduceIte, ed, ea]
    refine ⟨⟨D ++ D2, _, _, by rw [List.append_assoc, List.append_assoc, List.append_assoc], ?_, by rw [List.length_append, hD, hD2]; omega, ?_, rfl⟩, _, _, _, rfl⟩
    · rw [← List.append_assoc, ← List.append_assoc, ← List.append_assoc, look_new]
      unfold ivs
      rw [List.map_append]
    · simp only [List.length_append]; omega

/-! ### take, plan -/
/-- the draws that are left stand at n -/
def HasD (h : MH) (n : Nat) : Prop := ∃ D : List Int, D.length ≤ 450 ∧ h[n]? = some (.lst (ivs D))
theorem HasD.app {h g : MH} {n : Nat} (d : HasD h n) : HasD (h ++ g) n := by
  obtain ⟨D, l, e⟩ := d
  exact ⟨D, l, look_app e⟩
theorem fNe_lints {h : MH} {n m : Nat} {a b : List Int} (e : h[n]? = some (.lst (ivs a))) (e' : h[m]? = some (.lst (ivs b))) : fNe (.ref n) (.ref m) h = .ok (.bl (!decide (a = b))) h := by
  unfold fNe
  simp only [data_lints e, data_lints e', PyData.eqv, eqvAll_ints]
theorem F_l_take_eq {h : MH} {n : Nat} (d : HasD h n) {b : Int} (hb : 0 < b) : ∃ z h', F_l_take [.ref n, .int b] h = .ok (.int z) h' ∧ Ext n h h' ∧ HasD h' n ∧ 0 ≤ z ∧ z < b := by
  obtain ⟨D, hl, e⟩ := d
  unfold F_l_take m_l_take
  have zc : (0 ≤ cap) = True := eq_true (by decide)
  have e1 : (h ++ [MO.lst []])[n]? = some (.lst (ivs D)) := look_app e
  have e2 : (h ++ [MO.lst []])[h.length]? = some (.lst (ivs [])) := look_new h _
  have hne := fNe_lints e1 e2
  cases D with
  | nil =>
    simp only [Mv.mDef, Mv.mSeq, Mv.mSet, Mv.mRet, Mv.mRetN, Mv.mIfS, Mv.mVar, Mv.mC, Mv.mBin, Mv.mChain, Mv.mCall, Mv.mDo, Mv.mCons, Mv.mNil, Mv.mAndV, Mv.mOrV, Mv.mNotV, Mv.mAsB, Mv.mAndT, Mv.mOrT, Mv.mNotT, Mv.mIf, Mv.mTup, Mv.mLst, Mv.mNext, Mv.mBad, Mv.mDrop, Mv.mPar, Mv.mAsg, Mv.mStore, Mv.mNeg, Mv.fNeg, Mv.mYes, Mv.mNoP, Mv.mPart, Mv.mSl, Mv.fI, Mv.fAdd, Mv.fSub, Mv.fMul, Mv.fMod, Mv.fDiv, Mv.fPow, Mv.fLt, Mv.fLe, Mv.fGt, Mv.fGe, Mv.yes2, Mv.fIsN, Mv.fNotN, Mv.isNon, Mv.fIx, Mv.items_tup, Mv.items_new, Mv.list_new, Mv.lstOf_new, Mv.fEq_int, Mv.fNe_int, Mv.fLen_tup, Mv.fMax2, Mv.fMin2, Mv.fInt, Mv.fAbs, Mv.mIsi, Mv.isT, Mv.gN, Mv.gT, Mv.setAll, Mv.wipeM, Mv.R.bind_ok, Mv.R.bind_bad, Mv.R.noX_ok, Mv.R.andS_ok, Mv.R.andS_bad, Mv.S.andS_nx, Mv.S.andS_rt, Mv.S.andS_bad, Mv.S.andS_bk, Mv.S.andS_ct, List.map_cons, List.map_nil, List.cons_append, List.nil_append, List.append_nil, List.replicate_succ, List.replicate_zero, List.length_cons, List.length_nil, List.set_cons_zero, List.set_cons_succ, List.getElem?_cons_zero, List.getElem?_cons_succ, List.getElem?_nil, Nat.reduceAdd, Nat.reduceSub, Nat.reduceEqDiff, Nat.reduceLeDiff, Nat.zero_add, if_true, if_false, Bool.not_true, Bool.not_false, Bool.false_eq_true, decide_true, decide_false, ite_true, ite_false, Option.some.injEq, reduceIte, zc, hne]
    exact ⟨_, _, rfl, Ext.refl.app, ⟨[], by decide, e1⟩, Int.le_refl _, hb⟩
  | cons x D =>
    have e3 : decide (x :: D = []) = false := by simp
    have r0 : inR 0 = true := inR_of (by decide)
    have sq : seqIndex? 0 (ivs (x :: D)).length = some 0 := by
      unfold seqIndex? ivs
      simp
    have eL : lstOf (h ++ [MO.lst []]) n = some (ivs (x :: D)) := lstOf_at e1
    have eL2 : listOf (h ++ [MO.lst []]) (.ref n) = some (ivs (x :: D)) := list_at e1
    have e4 : (ivs (x :: D))[0]? = some (.int x) := rfl
    have e5 : (ivs (x :: D)).eraseIdx 0 = ivs D := rfl
    simp only [Mv.mDef, Mv.mSeq, Mv.mSet, Mv.mRet, Mv.mRetN, Mv.mIfS, Mv.mVar, Mv.mC, Mv.mBin, Mv.mChain, Mv.mCall, Mv.mDo, Mv.mCons, Mv.mNil, Mv.mAndV, Mv.mOrV, Mv.mNotV, Mv.mAsB, Mv.mAndT, Mv.mOrT, Mv.mNotT, Mv.mIf, Mv.mTup, Mv.mLst, Mv.mNext, Mv.mBad, Mv.mDrop, Mv.mPar, Mv.mAsg, Mv.mStore, Mv.mNeg, Mv.fNeg, Mv.mYes, Mv.mNoP, Mv.mPart, Mv.mSl, Mv.fI, Mv.fAdd, Mv.fSub, Mv.fMul, Mv.fMod, Mv.fDiv, Mv.fPow, Mv.fLt, Mv.fLe, Mv.fGt, Mv.fGe, Mv.yes2, Mv.fIsN, Mv.fNotN, Mv.isNon, Mv.fIx, Mv.items_tup, Mv.items_new, Mv.list_new, Mv.lstOf_new, Mv.fEq_int, Mv.fNe_int, Mv.fLen_tup, Mv.fMax2, Mv.fMin2, Mv.fInt, Mv.fAbs, Mv.mIsi, Mv.isT, Mv.gN, Mv.gT, Mv.setAll, Mv.wipeM, Mv.R.bind_ok, Mv.R.bind_bad, Mv.R.noX_ok, Mv.R.andS_ok, Mv.R.andS_bad, Mv.S.andS_nx, Mv.S.andS_rt, Mv.S.andS_bad, Mv.S.andS_bk, Mv.S.andS_ct, List.map_cons, List.map_nil, List.cons_append, List.nil_append, List.append_nil, List.replicate_succ, List.replicate_zero, List.length_cons, List.length_nil, List.set_cons_zero, List.set_cons_succ, List.getElem?_cons_zero, List.getElem?_cons_succ, List.getElem?_nil, Nat.reduceAdd, Nat.reduceSub, Nat.reduceEqDiff, Nat.reduceLeDiff, Nat.zero_add, if_true, if_false, Bool.not_true, Bool.not_false, Bool.false_eq_true, decide_true, decide_false, ite_true, ite_false, Option.some.injEq, reduceIte, zc, hne, e3, Mv.mLm, Mv.fPopAt, eL, eL2, r0, sq, e4, e5, hb]
    have hn : n < (h ++ [MO.lst []]).length := (List.getElem?_eq_some_iff.mp e1).1
    exact ⟨_, _, rfl, Ext.refl.app.set, ⟨D, by simp at hl; omega, by rw [List.getElem?_set_self hn]⟩, Int.emod_nonneg _ (by omega), Int.emod_lt_of_pos _ hb⟩
end Mv

set_option maxHeartbeats 4000000
/-! Q8: plans drawn; comprehensions that draw -/
namespace Mv
open PySem PySem.Spec L2

/-- a comprehension whose test changes the heap -/
theorem comp_ind {α : Type} {it : MIt} {tg : MG} {c : MT} {m : ME} {own : List Nat} {env : MEnv} (I : MH → Prop) (l : List α) (enc : α → MV) (f : α → MV) (hit : ∀ i h, I h → it i h = nxOf (l.map enc)[i]?) (hl : l.length ≤ cap)
    (step : ∀ x ∈ l, ∀ h, I h → ∃ env', tg (enc x) (wipeM env own) = some env' ∧ ∃ b h2, c env' h = .ok b h2 ∧ I h2 ∧ (b = true → ∃ h3, m env' h2 = .ok (f x) h3 ∧ I h3)) {h : MH} (hI : I h) :
    ∃ (sub : List α) (h' : MH), sub.Sublist l ∧ I h' ∧ compGo it tg c m own fuel 0 env h [] = .ok (.ref h'.length) (h' ++ [.lst (sub.map f)]) := by
  have key : ∀ (n i : Nat) (acc : List MV) (sub : List α) (h : MH), I h → i ≤ l.length → l.length < n + i → acc.length ≤ i → sub.Sublist (l.take i) → acc.reverse = sub.map f →
      ∃ (sub : List α) (h' : MH), sub.Sublist l ∧ I h' ∧ compGo it tg c m own n i env h acc = .ok (.ref h'.length) (h' ++ [.lst (sub.map f)]) := by
    intro n
    induction n with
    | zero => intro i acc sub h _ h1 h2; omega
    | succ n ih =>
      intro i acc sub h hI hi hn ha hs he
      unfold compGo
      rw [hit i h hI, List.getElem?_map]
      by_cases hlt : i < l.length
      · rw [List.getElem?_eq_getElem hlt]
        obtain ⟨env', e1, b, h2, e2, I2, e3⟩ := step l[i] (List.getElem_mem hlt) h hI
        have tk : l.take (i + 1) = l.take i ++ [l[i]] := by simp
        simp only [Option.map_some, nxOf, e1, e2, R.noX_ok, R.bind_ok]
        cases q : b with
        | false =>
          simp only [Bool.false_eq_true, if_false]
          exact ih (i + 1) acc sub h2 I2 hlt (by omega) (by omega) (by rw [tk]; exact hs.trans (List.sublist_append_left _ _)) he
        | true =>
          obtain ⟨h3, e4, I3⟩ := e3 q
          simp only [if_true, e4, R.noX_ok, R.bind_ok]
          rw [if_pos (by omega)]
          refine ih (i + 1) _ (sub ++ [l[i]]) h3 I3 hlt (by omega) (by simp; omega) (by rw [tk]; exact hs.append (List.Sublist.refl _)) ?_
          rw [List.reverse_cons, he, List.map_append]
          rfl
      · have : i = l.length := by omega
        subst this
        rw [List.getElem?_eq_none (Nat.le_refl _)]
        simp only [Option.map_none, nxOf]
        rw [List.take_length] at hs
        exact ⟨sub, h, hs, hI, by rw [he]⟩
  exact key fuel 0 [] [] h hI (Nat.zero_le _) (by have := fuel_ge; unfold cap at hl; omega) (Nat.le_refl _) (by simp) (by simp)

theorem F_l_plan_eq {h : MH} {n : Nat} (d : HasD h n) : ∃ P h', F_l_plan F_l_take [.ref n, .int 6] h = .ok (planM P) h' ∧ P.Ok ∧ Ext n h h' ∧ HasD h' n := by
  unfold F_l_plan m_l_plan
  obtain ⟨far, h1, e1, x1, d1, f0, f7⟩ := F_l_take_eq d (b := 7) (by decide)
  obtain ⟨near, h2, e2, x2, d2, n0, n3⟩ := F_l_take_eq d1 (b := 3) (by decide)
  obtain ⟨p, h3, e3, x3, d3, p0, p4⟩ := F_l_take_eq d2 (b := 4) (by decide)
  obtain ⟨q, h4, e4, x4, d4, q0, q3⟩ := F_l_take_eq d3 (b := 3) (by decide)
  have s7 : (6 : Int) + 1 = 7 := rfl
  have c2 : (2 ≤ cap) = True := eq_true (by decide)
  have c4 : (4 ≤ cap) = True := eq_true (by decide)
  simp only [Mv.mDef, Mv.mSeq, Mv.mSet, Mv.mRet, Mv.mRetN, Mv.mIfS, Mv.mVar, Mv.mC, Mv.mBin, Mv.mChain, Mv.mCall, Mv.mDo, Mv.mCons, Mv.mNil, Mv.mAndV, Mv.mOrV, Mv.mNotV, Mv.mAsB, Mv.mAndT, Mv.mOrT, Mv.mNotT, Mv.mIf, Mv.mTup, Mv.mLst, Mv.mNext, Mv.mBad, Mv.mDrop, Mv.mPar, Mv.mAsg, Mv.mStore, Mv.mNeg, Mv.fNeg, Mv.mYes, Mv.mNoP, Mv.mPart, Mv.mSl, Mv.fI, Mv.fAdd, Mv.fSub, Mv.fMul, Mv.fMod, Mv.fDiv, Mv.fPow, Mv.fLt, Mv.fLe, Mv.fGt, Mv.fGe, Mv.yes2, Mv.fIsN, Mv.fNotN, Mv.isNon, Mv.fIx, Mv.items_tup, Mv.items_new, Mv.list_new, Mv.lstOf_new, Mv.fEq_int, Mv.fNe_int, Mv.fLen_tup, Mv.fMax2, Mv.fMin2, Mv.fInt, Mv.fAbs, Mv.mIsi, Mv.isT, Mv.gN, Mv.gT, Mv.setAll, Mv.wipeM, Mv.R.bind_ok, Mv.R.bind_bad, Mv.R.noX_ok, Mv.R.andS_ok, Mv.R.andS_bad, Mv.S.andS_nx, Mv.S.andS_rt, Mv.S.andS_bad, Mv.S.andS_bk, Mv.S.andS_ct, List.map_cons, List.map_nil, List.cons_append, List.nil_append, List.append_nil, List.replicate_succ, List.replicate_zero, List.length_cons, List.length_nil, List.set_cons_zero, List.set_cons_succ, List.getElem?_cons_zero, List.getElem?_cons_succ, List.getElem?_nil, Nat.reduceAdd, Nat.reduceSub, Nat.reduceEqDiff, Nat.reduceLeDiff, Nat.zero_add, if_true, if_false, Bool.not_true, Bool.not_false, Bool.false_eq_true, decide_true, decide_false, ite_true, ite_false, Option.some.injEq, reduceIte, mWhile, e1, e2, e3, e4, s7, c2]
  refine while_ind (P := fun s => ∃ P h', (match s.andS (mRet (mTup (mCons (mVar 2) (mCons (mVar 3) (mCons (mVar 4) (mCons (mIf (mAsB (mBin fEq (mDo 2 F_l_take (mCons (mVar 0) (mCons (mC (.int 5)) (mNil)))) (mC (.int 0)))) (mC (.int 2)) (mC (.int 1))) (mNil))))))) with
        | .nx _ h' => R.ok MV.non h' | .rt v h' => .ok v h' | .exc x _ h' => .exc x h' | _ => .bad) = .ok (planM P) h' ∧ P.Ok ∧ Ext n h h' ∧ HasD h' n)
    (fun env h' => h' = h4 ∧ ∃ p : Int, 0 ≤ p ∧ p < 4 ∧ env = [some (.ref n), some (.int 6), some (.int far), some (.int near), some (.tup [.int p, .int (1 + q)])])
    (fun (env : MEnv) (_ : MH) => match env[4]? with
      | some (some (MV.tup (MV.int p :: _))) => p.toNat
      | _ => 0) ?_ fuel _ h4 ⟨rfl, p, p0, p4, rfl⟩ (by have := fuel_ge; show p.toNat < fuel; omega)
  rintro env h' ⟨rfl, p, p0, p4, rfl⟩
  have m1 : CMulB far p = true := mul_small (by omega) (by omega)
  have v1 : CDivB (far * p) (1 + q) = true := div_small (by omega)
  have a1 : atI [MV.int p, MV.int (1 + q)] 1 = some (.int (1 + q)) := rfl
  refine ⟨decide (9 < far + near + far * p / (1 + q)), h', by simp only [Mv.mDef, Mv.mSeq, Mv.mSet, Mv.mRet, Mv.mRetN, Mv.mIfS, Mv.mVar, Mv.mC, Mv.mBin, Mv.mChain, Mv.mCall, Mv.mDo, Mv.mCons, Mv.mNil, Mv.mAndV, Mv.mOrV, Mv.mNotV, Mv.mAsB, Mv.mAndT, Mv.mOrT, Mv.mNotT, Mv.mIf, Mv.mTup, Mv.mLst, Mv.mNext, Mv.mBad, Mv.mDrop, Mv.mPar, Mv.mAsg, Mv.mStore, Mv.mNeg, Mv.fNeg, Mv.mYes, Mv.mNoP, Mv.mPart, Mv.mSl, Mv.fI, Mv.fAdd, Mv.fSub, Mv.fMul, Mv.fMod, Mv.fDiv, Mv.fPow, Mv.fLt, Mv.fLe, Mv.fGt, Mv.fGe, Mv.yes2, Mv.fIsN, Mv.fNotN, Mv.isNon, Mv.fIx, Mv.items_tup, Mv.items_new, Mv.list_new, Mv.lstOf_new, Mv.fEq_int, Mv.fNe_int, Mv.fLen_tup, Mv.fMax2, Mv.fMin2, Mv.fInt, Mv.fAbs, Mv.mIsi, Mv.isT, Mv.gN, Mv.gT, Mv.setAll, Mv.wipeM, Mv.R.bind_ok, Mv.R.bind_bad, Mv.R.noX_ok, Mv.R.andS_ok, Mv.R.andS_bad, Mv.S.andS_nx, Mv.S.andS_rt, Mv.S.andS_bad, Mv.S.andS_bk, Mv.S.andS_ct, List.map_cons, List.map_nil, List.cons_append, List.nil_append, List.append_nil, List.replicate_succ, List.replicate_zero, List.length_cons, List.length_nil, List.set_cons_zero, List.set_cons_succ, List.getElem?_cons_zero, List.getElem?_cons_succ, List.getElem?_nil, Nat.reduceAdd, Nat.reduceSub, Nat.reduceEqDiff, Nat.reduceLeDiff, Nat.zero_add, if_true, if_false, Bool.not_true, Bool.not_false, Bool.false_eq_true, decide_true, decide_false, ite_true, ite_false, Option.some.injEq, reduceIte, at_zero, a1, m1, v1], fun hb => ?_, fun hb => ?_⟩
  · have hb := of_decide_eq_false hb
    obtain ⟨z, h5, e5, x5, d5, z0, z5⟩ := F_l_take_eq d4 (b := 5) (by decide)
    refine ⟨⟨far, near, p, 1 + q, if z = 0 then 2 else 1⟩, h5, ?_, ⟨f0, by show far ≤ 6; omega, n0, by show near ≤ 3; omega, p0, by show p ≤ 4; omega, by show 1 ≤ 1 + q; omega, by show 1 + q ≤ 4; omega, by show far + near + far * p / (1 + q) ≤ 9; omega, by show (1 : Int) ≤ if z = 0 then 2 else 1; split <;> omega, by show (if z = 0 then (2 : Int) else 1) ≤ 2; split <;> omega⟩, (((x1.trans x2).trans x3).trans x4).trans x5, d5⟩
    by_cases hz : z = 0
    · have hz' : decide (z = 0) = true := decide_eq_true hz
      simp only [Mv.mDef, Mv.mSeq, Mv.mSet, Mv.mRet, Mv.mRetN, Mv.mIfS, Mv.mVar, Mv.mC, Mv.mBin, Mv.mChain, Mv.mCall, Mv.mDo, Mv.mCons, Mv.mNil, Mv.mAndV, Mv.mOrV, Mv.mNotV, Mv.mAsB, Mv.mAndT, Mv.mOrT, Mv.mNotT, Mv.mIf, Mv.mTup, Mv.mLst, Mv.mNext, Mv.mBad, Mv.mDrop, Mv.mPar, Mv.mAsg, Mv.mStore, Mv.mNeg, Mv.fNeg, Mv.mYes, Mv.mNoP, Mv.mPart, Mv.mSl, Mv.fI, Mv.fAdd, Mv.fSub, Mv.fMul, Mv.fMod, Mv.fDiv, Mv.fPow, Mv.fLt, Mv.fLe, Mv.fGt, Mv.fGe, Mv.yes2, Mv.fIsN, Mv.fNotN, Mv.isNon, Mv.fIx, Mv.items_tup, Mv.items_new, Mv.list_new, Mv.lstOf_new, Mv.fEq_int, Mv.fNe_int, Mv.fLen_tup, Mv.fMax2, Mv.fMin2, Mv.fInt, Mv.fAbs, Mv.mIsi, Mv.isT, Mv.gN, Mv.gT, Mv.setAll, Mv.wipeM, Mv.R.bind_ok, Mv.R.bind_bad, Mv.R.noX_ok, Mv.R.andS_ok, Mv.R.andS_bad, Mv.S.andS_nx, Mv.S.andS_rt, Mv.S.andS_bad, Mv.S.andS_bk, Mv.S.andS_ct, List.map_cons, List.map_nil, List.cons_append, List.nil_append, List.append_nil, List.replicate_succ, List.replicate_zero, List.length_cons, List.length_nil, List.set_cons_zero, List.set_cons_succ, List.getElem?_cons_zero, List.getElem?_cons_succ, List.getElem?_nil, Nat.reduceAdd, Nat.reduceSub, Nat.reduceEqDiff, Nat.reduceLeDiff, Nat.zero_add, if_true, if_false, Bool.not_true, Bool.not_false, Bool.false_eq_true, decide_true, decide_false, ite_true, ite_false, Option.some.injEq, reduceIte, e5, hz', c4]
      rw [if_pos hz]
      rfl
    · have hz' : decide (z = 0) = false := decide_eq_false hz
      simp only [Mv.mDef, Mv.mSeq, Mv.mSet, Mv.mRet, Mv.mRetN, Mv.mIfS, Mv.mVar, Mv.mC, Mv.mBin, Mv.mChain, Mv.mCall, Mv.mDo, Mv.mCons, Mv.mNil, Mv.mAndV, Mv.mOrV, Mv.mNotV, Mv.mAsB, Mv.mAndT, Mv.mOrT, Mv.mNotT, Mv.mIf, Mv.mTup, Mv.mLst, Mv.mNext, Mv.mBad, Mv.mDrop, Mv.mPar, Mv.mAsg, Mv.mStore, Mv.mNeg, Mv.fNeg, Mv.mYes, Mv.mNoP, Mv.mPart, Mv.mSl, Mv.fI, Mv.fAdd, Mv.fSub, Mv.fMul, Mv.fMod, Mv.fDiv, Mv.fPow, Mv.fLt, Mv.fLe, Mv.fGt, Mv.fGe, Mv.yes2, Mv.fIsN, Mv.fNotN, Mv.isNon, Mv.fIx, Mv.items_tup, Mv.items_new, Mv.list_new, Mv.lstOf_new, Mv.fEq_int, Mv.fNe_int, Mv.fLen_tup, Mv.fMax2, Mv.fMin2, Mv.fInt, Mv.fAbs, Mv.mIsi, Mv.isT, Mv.gN, Mv.gT, Mv.setAll, Mv.wipeM, Mv.R.bind_ok, Mv.R.bind_bad, Mv.R.noX_ok, Mv.R.andS_ok, Mv.R.andS_bad, Mv.S.andS_nx, Mv.S.andS_rt, Mv.S.andS_bad, Mv.S.andS_bk, Mv.S.andS_ct, List.map_cons, List.map_nil, List.cons_append, List.nil_append, List.append_nil, List.replicate_succ, List.replicate_zero, List.length_cons, List.length_nil, List.set_cons_zero, List.set_cons_succ, List.getElem?_cons_zero, List.getElem?_cons_succ, List.getElem?_nil, Nat.reduceAdd, Nat.reduceSub, Nat.reduceEqDiff, Nat.reduceLeDiff, Nat.zero_add, if_true, if_false, Bool.not_true, Bool.not_false, Bool.false_eq_true, decide_true, decide_false, ite_true, ite_false, Option.some.injEq, reduceIte, e5, hz', c4]
      rw [if_neg hz]
      rfl
  · have hb := of_decide_eq_true hb
    have hp1 : 1 ≤ p := by
      rcases Int.lt_or_le p 1 with w | w
      · have : p = 0 := by omega
        subst this
        rw [Int.mul_zero, Int.zero_ediv] at hb
        omega
      · exact w
    simp only [Mv.mDef, Mv.mSeq, Mv.mSet, Mv.mRet, Mv.mRetN, Mv.mIfS, Mv.mVar, Mv.mC, Mv.mBin, Mv.mChain, Mv.mCall, Mv.mDo, Mv.mCons, Mv.mNil, Mv.mAndV, Mv.mOrV, Mv.mNotV, Mv.mAsB, Mv.mAndT, Mv.mOrT, Mv.mNotT, Mv.mIf, Mv.mTup, Mv.mLst, Mv.mNext, Mv.mBad, Mv.mDrop, Mv.mPar, Mv.mAsg, Mv.mStore, Mv.mNeg, Mv.fNeg, Mv.mYes, Mv.mNoP, Mv.mPart, Mv.mSl, Mv.fI, Mv.fAdd, Mv.fSub, Mv.fMul, Mv.fMod, Mv.fDiv, Mv.fPow, Mv.fLt, Mv.fLe, Mv.fGt, Mv.fGe, Mv.yes2, Mv.fIsN, Mv.fNotN, Mv.isNon, Mv.fIx, Mv.items_tup, Mv.items_new, Mv.list_new, Mv.lstOf_new, Mv.fEq_int, Mv.fNe_int, Mv.fLen_tup, Mv.fMax2, Mv.fMin2, Mv.fInt, Mv.fAbs, Mv.mIsi, Mv.isT, Mv.gN, Mv.gT, Mv.setAll, Mv.wipeM, Mv.R.bind_ok, Mv.R.bind_bad, Mv.R.noX_ok, Mv.R.andS_ok, Mv.R.andS_bad, Mv.S.andS_nx, Mv.S.andS_rt, Mv.S.andS_bad, Mv.S.andS_bk, Mv.S.andS_ct, List.map_cons, List.map_nil, List.cons_append, List.nil_append, List.append_nil, List.replicate_succ, List.replicate_zero, List.length_cons, List.length_nil, List.set_cons_zero, List.set_cons_succ, List.getElem?_cons_zero, List.getElem?_cons_succ, List.getElem?_nil, Nat.reduceAdd, Nat.reduceSub, Nat.reduceEqDiff, Nat.reduceLeDiff, Nat.zero_add, if_true, if_false, Bool.not_true, Bool.not_false, Bool.false_eq_true, decide_true, decide_false, ite_true, ite_false, Option.some.injEq, reduceIte, at_zero, a1, c2]
    refine ⟨⟨trivial, p - 1, by omega, by omega, rfl⟩, ?_⟩
    show (p - 1).toNat < p.toNat
    omega
end Mv

set_option maxHeartbeats 4000000
/-! Q9: k01's law answers true -/
namespace Mv
open PySem PySem.Spec L2
noncomputable def bd1 : MS := mSet 0 (mSl (mVar 0) (mNoP) (mPart (mC (.int 63))))
noncomputable def bd2 : MS := mSet 1 (mDo 2 (F_l_pool (F_l_digits (F_l_cell_at F_l_draw) F_l_draw)) (mCons (mVar 0) (mCons (mTup (mCons (mC (.int 1009)) (mCons (mC (.int 1013)) (mCons (mC (.int 1000033)) (mNil))))) (mNil))))
noncomputable def bd3_1 : MS := mAsg (gT [3, 4]) (mTup (mCons (mDo 2 (F_l_plan F_l_take) (mCons (mVar 1) (mCons (mC (.int 6)) (mNil)))) (mCons (mDo 2 F_l_take (mCons (mVar 1) (mCons (mC (.int 5)) (mNil)))) (mNil))))
noncomputable def bd3_2 : MS := mSet 5 (mDo 1 (F_l_promise G_Promise_init) (mCons (mVar 3) (mNil)))
noncomputable def bd3_3 : MS := mIfS (mOrT (mAsB (mBin fNe (mTup (mCons (mMeth [(0, F_Promise_reach)] 1 (mVar 5) mNil) (mCons (mMeth [(0, F_Promise_base)] 1 (mVar 5) mNil) (mCons (mMeth [(0, F_Promise_share)] 1 (mVar 5) mNil) (mCons (mMeth [(0, F_Promise_copies)] 1 (mVar 5) mNil) (mNil)))))) (mVar 3))) (mAsB (mBin fNe (mMeth [(0, (F_Promise_horizon (F_horizon_of F_slack_at)))] 1 (mVar 5) (mNil)) (mDo 1 (F_l_horizon F_l_slack) (mCons (mVar 3) (mNil)))))) (mRet (mC (.bl false))) (mNext)
noncomputable def bd3_4 : MS := mIfS (mAsB (mBin fNe (mLc (mRng1 (mCons (mBin fAdd (mBin fIx (mVar 3) (mC (.int 0))) (mC (.int 1))) (mNil))) (gN 10) (mYes) (mMeth [(0, (F_Promise_slack F_is_integer F_slack_at))] 2 (mVar 5) (mCons (mVar 10) (mNil))) [10]) (mLc (mRng1 (mCons (mBin fAdd (mBin fIx (mVar 3) (mC (.int 0))) (mC (.int 1))) (mNil))) (gN 10) (mYes) (mDo 2 F_l_slack (mCons (mVar 3) (mCons (mVar 10) (mNil)))) [10]))) (mRet (mC (.bl false))) (mNext)
noncomputable def bd3_5 : MS := mIfS (mOrT (mAsB (mNeB [(0, (F_Promise_eq F_Promise_all_parts))] [0] (mVar 5) (mDo 1 (F_l_promise G_Promise_init) (mCons (mVar 3) (mNil))))) (mAsB (mEqB [(0, (F_Promise_eq F_Promise_all_parts))] [0] (mVar 5) (mMakeK 0 2 2 G_Promise_init (mCons (mBin fIx (mVar 3) (mC (.int 0))) (mCons (mBin fIx (mVar 3) (mC (.int 1))) (mNil))) (mCons (mBin fIx (mVar 3) (mC (.int 2))) (mCons (mBin fSub (mC (.int 3)) (mBin fIx (mVar 3) (mC (.int 3)))) (mNil))))))) (mRet (mC (.bl false))) (mNext)
noncomputable def bd3_6 : MS := mIfS (mAsB (mBin fNe (mDo 2 G_states (mCons (mVar 5) (mCons (mVar 4) (mNil)))) (mDo 2 G_l_states (mCons (mVar 3) (mCons (mVar 4) (mNil)))))) (mRet (mC (.bl false))) (mNext)
noncomputable def bd3_7_1 : MS := mSet 7 (mCall fTuple (mCons (mLc (mRng1 (mCons (mBin fAdd (mDo 1 (F_l_horizon F_l_slack) (mCons (mVar 3) (mNil))) (mC (.int 1))) (mNil))) (gN 10) (mAsB (mBin fEq (mDo 2 F_l_take (mCons (mVar 1) (mCons (mC (.int 2)) (mNil)))) (mC (.int 0)))) (mVar 10) [10]) (mNil)))
noncomputable def bd3_7_2 : MS := mIfS (mOrT (mAsB (mBin fNe (mDo 2 G_broken (mCons (mVar 5) (mCons (mVar 7) (mNil)))) (mDo 2 G_l_broken (mCons (mVar 3) (mCons (mVar 7) (mNil)))))) (mAsB (mBin fNe (mDo 2 G_keeps (mCons (mVar 5) (mCons (mVar 7) (mNil)))) (mBin fEq (mDo 2 G_l_broken (mCons (mVar 3) (mCons (mVar 7) (mNil)))) (mLst (mNil)))))) (mRet (mC (.bl false))) (mNext)
noncomputable def bd3_7_3 : MS := mSet 8 (mDo 2 G_l_grown (mCons (mVar 3) (mCons (mVar 7) (mNil))))
noncomputable def bd3_7_4 : MS := mSet 9 (mCall fTuple (mCons (mLc (mItV (mVar 8)) (gN 10) (mAsB (mBin fEq (mDo 2 F_l_take (mCons (mVar 1) (mCons (mC (.int 2)) (mNil)))) (mC (.int 0)))) (mVar 10) [10]) (mNil)))
noncomputable def bd3_7_5 : MS := mIfS (mOrT (mAsB (mBin fNe (mDo 2 G_grown (mCons (mVar 5) (mCons (mVar 7) (mNil)))) (mCall fTuple (mCons (mVar 8) (mNil))))) (mAsB (mBin fNe (mDo 3 (F_after G_check_state G_is_state G_aged) (mCons (mVar 5) (mCons (mVar 7) (mCons (mVar 9) (mNil))))) (mVar 9)))) (mRet (mC (.bl false))) (mNext)
noncomputable def bd3_7_6 : MS := mIfS (mAsB (mBin fNe (mDo 3 G_choices (mCons (mVar 5) (mCons (mVar 4) (mCons (mVar 7) (mNil))))) (mDo 3 G_l_choices (mCons (mVar 3) (mCons (mVar 4) (mCons (mVar 7) (mNil))))))) (mRet (mC (.bl false))) (mNext)
noncomputable def bd3_7 : MS := mFor (mRng1 (mCons (mC (.int 4)) (mNil))) (gN 6) (mSeq bd3_7_1 (mSeq bd3_7_2 (mSeq bd3_7_3 (mSeq bd3_7_4 (mSeq bd3_7_5 bd3_7_6)))))
noncomputable def bd3 : MS := mFor (mRng1 (mCons (mC (.int 5)) (mNil))) (gN 2) (mSeq bd3_1 (mSeq bd3_2 (mSeq bd3_3 (mSeq bd3_4 (mSeq bd3_5 (mSeq bd3_6 bd3_7))))))
noncomputable def bd4 : MS := mRet (mC (.bl true))
theorem body_is : m_law (F_l_pool (F_l_digits (F_l_cell_at F_l_draw) F_l_draw)) F_l_take (F_l_plan F_l_take) (F_l_promise G_Promise_init) F_Promise_copies F_Promise_share F_Promise_base F_Promise_reach (F_Promise_horizon (F_horizon_of F_slack_at)) (F_l_horizon F_l_slack) (F_Promise_slack F_is_integer F_slack_at) F_l_slack (F_Promise_eq F_Promise_all_parts) G_Promise_init G_states G_l_states G_broken G_l_broken G_keeps G_l_grown G_grown (F_after G_check_state G_is_state G_aged) G_choices G_l_choices = (mSeq bd1 (mSeq bd2 (mSeq bd3 bd4))) := rfl
-- F_law (F_l_pool (F_l_digits (F_l_cell_at F_l_draw) F_l_draw)) F_l_take (F_l_plan F_l_take) (F_l_promise G_Promise_init) F_Promise_copies F_Promise_share F_Promise_base F_Promise_reach (F_Promise_horizon (F_horizon_of F_slack_at)) (F_l_horizon F_l_slack) (F_Promise_slack F_is_integer F_slack_at) F_l_slack (F_Promise_eq F_Promise_all_parts) G_Promise_init G_states G_l_states G_broken G_l_broken G_keeps G_l_grown G_grown (F_after G_check_state G_is_state G_aged) G_choices G_l_choices
theorem seq_nx {A B : MS} {env e1 : MEnv} {h h1 : MH} (q : A env h = .nx e1 h1) : mSeq A B env h = B e1 h1 := by
  unfold mSeq
  rw [q]
  rfl
theorem if_no {t : MT} {A : MS} {env : MEnv} {h h1 : MH} (q : t env h = .ok false h1) : mIfS t A mNext env h = .nx env h1 := by
  unfold mIfS
  rw [q]
  rfl
theorem or_no {a b : MT} {env : MEnv} {h h1 h2 : MH} (q : a env h = .ok false h1) (r : b env h1 = .ok false h2) : mOrT a b env h = .ok false h2 := by
  unfold mOrT
  rw [q]
  simp only [R.bind_ok, Bool.false_eq_true, if_false]
  exact r
theorem data_planM (h : MH) (P : Plan) : dataOf 12 h (planM P) = some (.tuple (planD P)) := rfl
theorem ne_planM (h : MH) (P : Plan) : fNe (planM P) (planM P) h = .ok (.bl false) h := by
  unfold fNe
  rw [data_planM]
  simp only
  have : PyData.eqv (.tuple (planD P)) (.tuple (planD P)) = true := by
    unfold planD
    simp [PyData.eqv, PyData.eqvAll]
  rw [this]
  rfl
abbrev Ev (s n : Nat) (x2 x3 x4 x5 x6 x7 x8 x9 x10 : Option MV) : MEnv := [some (.ref s), some (.ref n), x2, x3, x4, x5, x6, x7, x8, x9, x10]
theorem c2t : (2 ≤ cap) = True := eq_true (by decide)
theorem c4t : (4 ≤ cap) = True := eq_true (by decide)
theorem c0t : (0 ≤ cap) = True := eq_true (by decide)
theorem bd3_1_ok {h : MH} {s n : Nat} (d : HasD h n) (x2 x3 x4 x5 x6 x7 x8 x9 x10 : Option MV) : ∃ P m h', bd3_1 (Ev s n x2 x3 x4 x5 x6 x7 x8 x9 x10) h = .nx (Ev s n x2 (some (planM P)) (some (.int m)) x5 x6 x7 x8 x9 x10) h' ∧ P.Ok ∧ 0 ≤ m ∧ m < 5 ∧ HasD h' n ∧ Ext n h h' := by
  obtain ⟨P, h1, e1, k, x1, d1⟩ := F_l_plan_eq d
  obtain ⟨m, h2, e2, x2', d2, m0, m5⟩ := F_l_take_eq d1 (b := 5) (by decide)
  refine ⟨P, m, h2, ?_, k, m0, m5, d2, x1.trans x2'⟩
  unfold bd3_1
  simp only [Mv.mDef, Mv.mSeq, Mv.mSet, Mv.mRet, Mv.mRetN, Mv.mIfS, Mv.mVar, Mv.mC, Mv.mBin, Mv.mChain, Mv.mCall, Mv.mDo, Mv.mCons, Mv.mNil, Mv.mAndV, Mv.mOrV, Mv.mNotV, Mv.mAsB, Mv.mAndT, Mv.mOrT, Mv.mNotT, Mv.mIf, Mv.mTup, Mv.mLst, Mv.mNext, Mv.mBad, Mv.mDrop, Mv.mPar, Mv.mAsg, Mv.mStore, Mv.mNeg, Mv.fNeg, Mv.mYes, Mv.mNoP, Mv.mPart, Mv.mSl, Mv.fI, Mv.fAdd, Mv.fSub, Mv.fMul, Mv.fMod, Mv.fDiv, Mv.fPow, Mv.fLt, Mv.fLe, Mv.fGt, Mv.fGe, Mv.yes2, Mv.fIsN, Mv.fNotN, Mv.isNon, Mv.fIx, Mv.items_tup, Mv.items_new, Mv.list_new, Mv.lstOf_new, Mv.fEq_int, Mv.fNe_int, Mv.fLen_tup, Mv.fMax2, Mv.fMin2, Mv.fInt, Mv.fAbs, Mv.mIsi, Mv.isT, Mv.gN, Mv.gT, Mv.setAll, Mv.wipeM, Mv.R.bind_ok, Mv.R.bind_bad, Mv.R.noX_ok, Mv.R.andS_ok, Mv.R.andS_bad, Mv.S.andS_nx, Mv.S.andS_rt, Mv.S.andS_bad, Mv.S.andS_bk, Mv.S.andS_ct, List.map_cons, List.map_nil, List.cons_append, List.nil_append, List.append_nil, List.replicate_succ, List.replicate_zero, List.length_cons, List.length_nil, List.set_cons_zero, List.set_cons_succ, List.getElem?_cons_zero, List.getElem?_cons_succ, List.getElem?_nil, Nat.reduceAdd, Nat.reduceSub, Nat.reduceEqDiff, Nat.reduceLeDiff, Nat.zero_add, if_true, if_false, Bool.not_true, Bool.not_false, Bool.false_eq_true, decide_true, decide_false, ite_true, ite_false, Option.some.injEq, reduceIte, e1, e2, c2t]
theorem bd3_2_ok {h : MH} {s n : Nat} {P : Plan} (k : P.Ok) (x2 x4 x5 x6 x7 x8 x9 x10 : Option MV) : bd3_2 (Ev s n x2 (some (planM P)) x4 x5 x6 x7 x8 x9 x10) h = .nx (Ev s n x2 (some (planM P)) x4 (some (.ref h.length)) x6 x7 x8 x9 x10) (h ++ [promO P]) := by
  unfold bd3_2
  simp only [Mv.mDef, Mv.mSeq, Mv.mSet, Mv.mRet, Mv.mRetN, Mv.mIfS, Mv.mVar, Mv.mC, Mv.mBin, Mv.mChain, Mv.mCall, Mv.mDo, Mv.mCons, Mv.mNil, Mv.mAndV, Mv.mOrV, Mv.mNotV, Mv.mAsB, Mv.mAndT, Mv.mOrT, Mv.mNotT, Mv.mIf, Mv.mTup, Mv.mLst, Mv.mNext, Mv.mBad, Mv.mDrop, Mv.mPar, Mv.mAsg, Mv.mStore, Mv.mNeg, Mv.fNeg, Mv.mYes, Mv.mNoP, Mv.mPart, Mv.mSl, Mv.fI, Mv.fAdd, Mv.fSub, Mv.fMul, Mv.fMod, Mv.fDiv, Mv.fPow, Mv.fLt, Mv.fLe, Mv.fGt, Mv.fGe, Mv.yes2, Mv.fIsN, Mv.fNotN, Mv.isNon, Mv.fIx, Mv.items_tup, Mv.items_new, Mv.list_new, Mv.lstOf_new, Mv.fEq_int, Mv.fNe_int, Mv.fLen_tup, Mv.fMax2, Mv.fMin2, Mv.fInt, Mv.fAbs, Mv.mIsi, Mv.isT, Mv.gN, Mv.gT, Mv.setAll, Mv.wipeM, Mv.R.bind_ok, Mv.R.bind_bad, Mv.R.noX_ok, Mv.R.andS_ok, Mv.R.andS_bad, Mv.S.andS_nx, Mv.S.andS_rt, Mv.S.andS_bad, Mv.S.andS_bk, Mv.S.andS_ct, List.map_cons, List.map_nil, List.cons_append, List.nil_append, List.append_nil, List.replicate_succ, List.replicate_zero, List.length_cons, List.length_nil, List.set_cons_zero, List.set_cons_succ, List.getElem?_cons_zero, List.getElem?_cons_succ, List.getElem?_nil, Nat.reduceAdd, Nat.reduceSub, Nat.reduceEqDiff, Nat.reduceLeDiff, Nat.zero_add, if_true, if_false, Bool.not_true, Bool.not_false, Bool.false_eq_true, decide_true, decide_false, ite_true, ite_false, Option.some.injEq, reduceIte, F_l_promise_eq k]
theorem bd3_3_ok {h : MH} {s n o : Nat} {P : Plan} (k : P.Ok) (e : HasP h o P) (x2 x4 x6 x7 x8 x9 x10 : Option MV) : bd3_3 (Ev s n x2 (some (planM P)) x4 (some (.ref o)) x6 x7 x8 x9 x10) h = .nx (Ev s n x2 (some (planM P)) x4 (some (.ref o)) x6 x7 x8 x9 x10) h := by
  unfold bd3_3
  have e1 : fNe (.tup [.int P.far, .int P.least, .tup [.int P.p, .int P.q], .int P.many]) (planM P) h = .ok (.bl false) h := ne_planM h P
  refine if_no (or_no (h1 := h) ?_ ?_)
  · simp only [Mv.mDef, Mv.mSeq, Mv.mSet, Mv.mRet, Mv.mRetN, Mv.mIfS, Mv.mVar, Mv.mC, Mv.mBin, Mv.mChain, Mv.mCall, Mv.mDo, Mv.mCons, Mv.mNil, Mv.mAndV, Mv.mOrV, Mv.mNotV, Mv.mAsB, Mv.mAndT, Mv.mOrT, Mv.mNotT, Mv.mIf, Mv.mTup, Mv.mLst, Mv.mNext, Mv.mBad, Mv.mDrop, Mv.mPar, Mv.mAsg, Mv.mStore, Mv.mNeg, Mv.fNeg, Mv.mYes, Mv.mNoP, Mv.mPart, Mv.mSl, Mv.fI, Mv.fAdd, Mv.fSub, Mv.fMul, Mv.fMod, Mv.fDiv, Mv.fPow, Mv.fLt, Mv.fLe, Mv.fGt, Mv.fGe, Mv.yes2, Mv.fIsN, Mv.fNotN, Mv.isNon, Mv.fIx, Mv.items_tup, Mv.items_new, Mv.list_new, Mv.lstOf_new, Mv.fEq_int, Mv.fNe_int, Mv.fLen_tup, Mv.fMax2, Mv.fMin2, Mv.fInt, Mv.fAbs, Mv.mIsi, Mv.isT, Mv.gN, Mv.gT, Mv.setAll, Mv.wipeM, Mv.R.bind_ok, Mv.R.bind_bad, Mv.R.noX_ok, Mv.R.andS_ok, Mv.R.andS_bad, Mv.S.andS_nx, Mv.S.andS_rt, Mv.S.andS_bad, Mv.S.andS_bk, Mv.S.andS_ct, List.map_cons, List.map_nil, List.cons_append, List.nil_append, List.append_nil, List.replicate_succ, List.replicate_zero, List.length_cons, List.length_nil, List.set_cons_zero, List.set_cons_succ, List.getElem?_cons_zero, List.getElem?_cons_succ, List.getElem?_nil, Nat.reduceAdd, Nat.reduceSub, Nat.reduceEqDiff, Nat.reduceLeDiff, Nat.zero_add, if_true, if_false, Bool.not_true, Bool.not_false, Bool.false_eq_true, decide_true, decide_false, ite_true, ite_false, Option.some.injEq, reduceIte, Mv.mFld, Mv.mIsC, Mv.mMeth, Mv.mMake, Mv.mMakeK, Mv.mEqB, Mv.boolR, Mv.mRev, List.lookup_cons, List.lookup_nil, Nat.reduceBEq, beq_self_eq_true, Mv.ins_new, Mv.set_new, e.ins, F_Promise_reach_eq e, F_Promise_base_eq e, F_Promise_share_eq e, F_Promise_copies_eq e, c4t, e1]
  · simp only [Mv.mDef, Mv.mSeq, Mv.mSet, Mv.mRet, Mv.mRetN, Mv.mIfS, Mv.mVar, Mv.mC, Mv.mBin, Mv.mChain, Mv.mCall, Mv.mDo, Mv.mCons, Mv.mNil, Mv.mAndV, Mv.mOrV, Mv.mNotV, Mv.mAsB, Mv.mAndT, Mv.mOrT, Mv.mNotT, Mv.mIf, Mv.mTup, Mv.mLst, Mv.mNext, Mv.mBad, Mv.mDrop, Mv.mPar, Mv.mAsg, Mv.mStore, Mv.mNeg, Mv.fNeg, Mv.mYes, Mv.mNoP, Mv.mPart, Mv.mSl, Mv.fI, Mv.fAdd, Mv.fSub, Mv.fMul, Mv.fMod, Mv.fDiv, Mv.fPow, Mv.fLt, Mv.fLe, Mv.fGt, Mv.fGe, Mv.yes2, Mv.fIsN, Mv.fNotN, Mv.isNon, Mv.fIx, Mv.items_tup, Mv.items_new, Mv.list_new, Mv.lstOf_new, Mv.fEq_int, Mv.fNe_int, Mv.fLen_tup, Mv.fMax2, Mv.fMin2, Mv.fInt, Mv.fAbs, Mv.mIsi, Mv.isT, Mv.gN, Mv.gT, Mv.setAll, Mv.wipeM, Mv.R.bind_ok, Mv.R.bind_bad, Mv.R.noX_ok, Mv.R.andS_ok, Mv.R.andS_bad, Mv.S.andS_nx, Mv.S.andS_rt, Mv.S.andS_bad, Mv.S.andS_bk, Mv.S.andS_ct, List.map_cons, List.map_nil, List.cons_append, List.nil_append, List.append_nil, List.replicate_succ, List.replicate_zero, List.length_cons, List.length_nil, List.set_cons_zero, List.set_cons_succ, List.getElem?_cons_zero, List.getElem?_cons_succ, List.getElem?_nil, Nat.reduceAdd, Nat.reduceSub, Nat.reduceEqDiff, Nat.reduceLeDiff, Nat.zero_add, if_true, if_false, Bool.not_true, Bool.not_false, Bool.false_eq_true, decide_true, decide_false, ite_true, ite_false, Option.some.injEq, reduceIte, Mv.mFld, Mv.mIsC, Mv.mMeth, Mv.mMake, Mv.mMakeK, Mv.mEqB, Mv.boolR, Mv.mRev, List.lookup_cons, List.lookup_nil, Nat.reduceBEq, beq_self_eq_true, Mv.ins_new, Mv.set_new, e.ins, F_Promise_horizon_eq e k, F_l_horizon_eq k]
theorem slacks_comp {h : MH} {P : Plan} (k : P.Ok) {env : MEnv} {tg : MG} {el : ME} {own : List Nat} (step : ∀ a, 0 ≤ a → a ≤ P.far → ∃ env', tg (.int a) (wipeM env own) = some env' ∧ el env' h = .ok (.int (slack P a)) h) :
    compGo (itR 0 1 (P.far + 1).toNat) tg mYes el own fuel 0 env h [] = .ok (.ref h.length) (h ++ [.lst (ivs ((agesL P).map (slack P)))]) := by
  rw [comp_pure (l := agesL P) (enc := MV.int) (cb := fun _ => true) (f := fun a => MV.int (slack P a)) (fun i => itR_nx _ _ _ i h) (ages_cap k)]
  · rw [filter_yes]
    unfold ivs
    rw [List.map_map]
    rfl
  · intro a ha
    obtain ⟨i, hi, e⟩ := mem_prog.mp ha
    have := k.f0
    obtain ⟨env', e1, e2⟩ := step a (by omega) (by omega)
    exact ⟨env', e1, rfl, fun _ => e2⟩
theorem bd3_4_ok {h : MH} {s n o : Nat} {P : Plan} (k : P.Ok) (e : HasP h o P) (x2 x4 x6 x7 x8 x9 x10 : Option MV) : ∃ g, bd3_4 (Ev s n x2 (some (planM P)) x4 (some (.ref o)) x6 x7 x8 x9 x10) h = .nx (Ev s n x2 (some (planM P)) x4 (some (.ref o)) x6 x7 x8 x9 x10) (h ++ g) := by
  unfold bd3_4
  have g1 := slacks_comp (h := h) k (env := Ev s n x2 (some (planM P)) x4 (some (.ref o)) x6 x7 x8 x9 x10) (tg := gN 10) (el := mMeth [(0, (F_Promise_slack F_is_integer F_slack_at))] 2 (mVar 5) (mCons (mVar 10) (mNil))) (own := [10]) fun a h0 h1 => ⟨_, rfl, by simp only [Mv.mDef, Mv.mSeq, Mv.mSet, Mv.mRet, Mv.mRetN, Mv.mIfS, Mv.mVar, Mv.mC, Mv.mBin, Mv.mChain, Mv.mCall, Mv.mDo, Mv.mCons, Mv.mNil, Mv.mAndV, Mv.mOrV, Mv.mNotV, Mv.mAsB, Mv.mAndT, Mv.mOrT, Mv.mNotT, Mv.mIf, Mv.mTup, Mv.mLst, Mv.mNext, Mv.mBad, Mv.mDrop, Mv.mPar, Mv.mAsg, Mv.mStore, Mv.mNeg, Mv.fNeg, Mv.mYes, Mv.mNoP, Mv.mPart, Mv.mSl, Mv.fI, Mv.fAdd, Mv.fSub, Mv.fMul, Mv.fMod, Mv.fDiv, Mv.fPow, Mv.fLt, Mv.fLe, Mv.fGt, Mv.fGe, Mv.yes2, Mv.fIsN, Mv.fNotN, Mv.isNon, Mv.fIx, Mv.items_tup, Mv.items_new, Mv.list_new, Mv.lstOf_new, Mv.fEq_int, Mv.fNe_int, Mv.fLen_tup, Mv.fMax2, Mv.fMin2, Mv.fInt, Mv.fAbs, Mv.mIsi, Mv.isT, Mv.gN, Mv.gT, Mv.setAll, Mv.wipeM, Mv.R.bind_ok, Mv.R.bind_bad, Mv.R.noX_ok, Mv.R.andS_ok, Mv.R.andS_bad, Mv.S.andS_nx, Mv.S.andS_rt, Mv.S.andS_bad, Mv.S.andS_bk, Mv.S.andS_ct, List.map_cons, List.map_nil, List.cons_append, List.nil_append, List.append_nil, List.replicate_succ, List.replicate_zero, List.length_cons, List.length_nil, List.set_cons_zero, List.set_cons_succ, List.getElem?_cons_zero, List.getElem?_cons_succ, List.getElem?_nil, Nat.reduceAdd, Nat.reduceSub, Nat.reduceEqDiff, Nat.reduceLeDiff, Nat.zero_add, if_true, if_false, Bool.not_true, Bool.not_false, Bool.false_eq_true, decide_true, decide_false, ite_true, ite_false, Option.some.injEq, reduceIte, Mv.mFld, Mv.mIsC, Mv.mMeth, Mv.mMake, Mv.mMakeK, Mv.mEqB, Mv.boolR, Mv.mRev, List.lookup_cons, List.lookup_nil, Nat.reduceBEq, beq_self_eq_true, Mv.ins_new, Mv.set_new, e.ins, F_Promise_slack_eq e k h0 h1]⟩
  have g2 := slacks_comp (h := h ++ [.lst (ivs ((agesL P).map (slack P)))]) k (env := Ev s n x2 (some (planM P)) x4 (some (.ref o)) x6 x7 x8 x9 x10) (tg := gN 10) (el := mDo 2 F_l_slack (mCons (mVar 3) (mCons (mVar 10) (mNil)))) (own := [10]) fun a h0 h1 => ⟨_, rfl, by simp only [Mv.mDef, Mv.mSeq, Mv.mSet, Mv.mRet, Mv.mRetN, Mv.mIfS, Mv.mVar, Mv.mC, Mv.mBin, Mv.mChain, Mv.mCall, Mv.mDo, Mv.mCons, Mv.mNil, Mv.mAndV, Mv.mOrV, Mv.mNotV, Mv.mAsB, Mv.mAndT, Mv.mOrT, Mv.mNotT, Mv.mIf, Mv.mTup, Mv.mLst, Mv.mNext, Mv.mBad, Mv.mDrop, Mv.mPar, Mv.mAsg, Mv.mStore, Mv.mNeg, Mv.fNeg, Mv.mYes, Mv.mNoP, Mv.mPart, Mv.mSl, Mv.fI, Mv.fAdd, Mv.fSub, Mv.fMul, Mv.fMod, Mv.fDiv, Mv.fPow, Mv.fLt, Mv.fLe, Mv.fGt, Mv.fGe, Mv.yes2, Mv.fIsN, Mv.fNotN, Mv.isNon, Mv.fIx, Mv.items_tup, Mv.items_new, Mv.list_new, Mv.lstOf_new, Mv.fEq_int, Mv.fNe_int, Mv.fLen_tup, Mv.fMax2, Mv.fMin2, Mv.fInt, Mv.fAbs, Mv.mIsi, Mv.isT, Mv.gN, Mv.gT, Mv.setAll, Mv.wipeM, Mv.R.bind_ok, Mv.R.bind_bad, Mv.R.noX_ok, Mv.R.andS_ok, Mv.R.andS_bad, Mv.S.andS_nx, Mv.S.andS_rt, Mv.S.andS_bad, Mv.S.andS_bk, Mv.S.andS_ct, List.map_cons, List.map_nil, List.cons_append, List.nil_append, List.append_nil, List.replicate_succ, List.replicate_zero, List.length_cons, List.length_nil, List.set_cons_zero, List.set_cons_succ, List.getElem?_cons_zero, List.getElem?_cons_succ, List.getElem?_nil, Nat.reduceAdd, Nat.reduceSub, Nat.reduceEqDiff, Nat.reduceLeDiff, Nat.zero_add, if_true, if_false, Bool.not_true, Bool.not_false, Bool.false_eq_true, decide_true, decide_false, ite_true, ite_false, Option.some.injEq, reduceIte, Mv.mFld, Mv.mIsC, Mv.mMeth, Mv.mMake, Mv.mMakeK, Mv.mEqB, Mv.boolR, Mv.mRev, List.lookup_cons, List.lookup_nil, Nat.reduceBEq, beq_self_eq_true, Mv.ins_new, Mv.set_new, F_l_slack_eq k h0 (show a ≤ 100 by have := k.f6; omega)]⟩
  have hn := fNe_lints (h := h ++ [MO.lst (ivs ((agesL P).map (slack P)))] ++ [MO.lst (ivs ((agesL P).map (slack P)))]) (look_app (look_new h (MO.lst (ivs ((agesL P).map (slack P)))))) (look_new _ _)
  rw [decide_eq_true rfl] at hn
  refine ⟨[.lst (ivs ((agesL P).map (slack P)))] ++ [.lst (ivs ((agesL P).map (slack P)))], if_no ?_⟩
  simp only [Mv.mDef, Mv.mSeq, Mv.mSet, Mv.mRet, Mv.mRetN, Mv.mIfS, Mv.mVar, Mv.mC, Mv.mBin, Mv.mChain, Mv.mCall, Mv.mDo, Mv.mCons, Mv.mNil, Mv.mAndV, Mv.mOrV, Mv.mNotV, Mv.mAsB, Mv.mAndT, Mv.mOrT, Mv.mNotT, Mv.mIf, Mv.mTup, Mv.mLst, Mv.mNext, Mv.mBad, Mv.mDrop, Mv.mPar, Mv.mAsg, Mv.mStore, Mv.mNeg, Mv.fNeg, Mv.mYes, Mv.mNoP, Mv.mPart, Mv.mSl, Mv.fI, Mv.fAdd, Mv.fSub, Mv.fMul, Mv.fMod, Mv.fDiv, Mv.fPow, Mv.fLt, Mv.fLe, Mv.fGt, Mv.fGe, Mv.yes2, Mv.fIsN, Mv.fNotN, Mv.isNon, Mv.items_tup, Mv.items_new, Mv.list_new, Mv.lstOf_new, Mv.fEq_int, Mv.fNe_int, Mv.fLen_tup, Mv.fMax2, Mv.fMin2, Mv.fInt, Mv.fAbs, Mv.mIsi, Mv.isT, Mv.gN, Mv.gT, Mv.setAll, Mv.wipeM, Mv.R.bind_ok, Mv.R.bind_bad, Mv.R.noX_ok, Mv.R.andS_ok, Mv.R.andS_bad, Mv.S.andS_nx, Mv.S.andS_rt, Mv.S.andS_bad, Mv.S.andS_bk, Mv.S.andS_ct, List.map_cons, List.map_nil, List.cons_append, List.nil_append, List.append_nil, List.replicate_succ, List.replicate_zero, List.length_cons, List.length_nil, List.set_cons_zero, List.set_cons_succ, List.getElem?_cons_zero, List.getElem?_cons_succ, List.getElem?_nil, Nat.reduceAdd, Nat.reduceSub, Nat.reduceEqDiff, Nat.reduceLeDiff, Nat.zero_add, if_true, if_false, Bool.not_true, Bool.not_false, Bool.false_eq_true, decide_true, decide_false, ite_true, ite_false, Option.some.injEq, reduceIte, mLc, mRng1, pl0, far_in k, g1, g2, hn]
  rw [List.append_assoc]
  rfl
theorem bd3_5_ok {h : MH} {s n o : Nat} {P : Plan} (k : P.Ok) (e : HasP h o P) (x2 x4 x6 x7 x8 x9 x10 : Option MV) : ∃ g, bd3_5 (Ev s n x2 (some (planM P)) x4 (some (.ref o)) x6 x7 x8 x9 x10) h = .nx (Ev s n x2 (some (planM P)) x4 (some (.ref o)) x6 x7 x8 x9 x10) (h ++ g) := by
  unfold bd3_5
  have e1 : HasP (h ++ [promO P]) o P := e.app
  have e2 : HasP (h ++ [promO P]) h.length P := look_new h _
  obtain ⟨g1, q1⟩ := F_Promise_eq_eq e1 e2
  rw [(eqv_plan P P).mpr rfl] at q1
  let Q : Plan := ⟨P.far, P.least, P.p, P.q, 3 - P.many⟩
  have kQ : Q.Ok := ⟨k.f0, k.f6, k.b0, k.b3, k.p0, k.p4, k.q1, k.q4, k.hor, by show 1 ≤ 3 - P.many; have := k.m2; omega, by show 3 - P.many ≤ 2; have := k.m1; omega⟩
  have nPQ : PyData.eqv (.list (planD P)) (.list (planD Q)) = false := by
    cases w : PyData.eqv (.list (planD P)) (.list (planD Q)) with
    | false => rfl
    | true =>
      have := congrArg Plan.many ((eqv_plan P Q).mp w)
      have : P.many = 3 - P.many := this
      omega
  have e3 : HasP (h ++ [promO P] ++ g1 ++ [promO Q]) o P := e1.app.app
  have e4 : HasP (h ++ [promO P] ++ g1 ++ [promO Q]) (h ++ [promO P] ++ g1).length Q := look_new _ _
  obtain ⟨g2, q2⟩ := F_Promise_eq_eq e3 e4
  rw [nPQ] at q2
  have nq : newIns 0 G_Promise_init [.int P.far, .int P.least, .tup [.int P.p, .int P.q], .int (3 - P.many)] (h ++ [promO P] ++ g1) = .ok (.ref (h ++ [promO P] ++ g1).length) (h ++ [promO P] ++ g1 ++ [promO Q]) := new_promise kQ _
  have a1 : atI [MV.int P.far, .int P.least, .tup [.int P.p, .int P.q], .int P.many] 1 = some (.int P.least) := rfl
  have a2 : atI [MV.int P.far, .int P.least, .tup [.int P.p, .int P.q], .int P.many] 2 = some (.tup [.int P.p, .int P.q]) := rfl
  have a3 : atI [MV.int P.far, .int P.least, .tup [.int P.p, .int P.q], .int P.many] 3 = some (.int P.many) := rfl
  refine ⟨[promO P] ++ g1 ++ [promO Q] ++ g2, if_no (or_no (h1 := h ++ [promO P] ++ g1) ?_ ?_)⟩
  · simp only [Mv.mDef, Mv.mSeq, Mv.mSet, Mv.mRet, Mv.mRetN, Mv.mIfS, Mv.mVar, Mv.mC, Mv.mBin, Mv.mChain, Mv.mCall, Mv.mDo, Mv.mCons, Mv.mNil, Mv.mAndV, Mv.mOrV, Mv.mNotV, Mv.mAsB, Mv.mAndT, Mv.mOrT, Mv.mNotT, Mv.mIf, Mv.mTup, Mv.mLst, Mv.mNext, Mv.mBad, Mv.mDrop, Mv.mPar, Mv.mAsg, Mv.mStore, Mv.mNeg, Mv.fNeg, Mv.mYes, Mv.mNoP, Mv.mPart, Mv.mSl, Mv.fI, Mv.fAdd, Mv.fSub, Mv.fMul, Mv.fMod, Mv.fDiv, Mv.fPow, Mv.fLt, Mv.fLe, Mv.fGt, Mv.fGe, Mv.yes2, Mv.fIsN, Mv.fNotN, Mv.isNon, Mv.fIx, Mv.items_tup, Mv.items_new, Mv.list_new, Mv.lstOf_new, Mv.fEq_int, Mv.fNe_int, Mv.fLen_tup, Mv.fMax2, Mv.fMin2, Mv.fInt, Mv.fAbs, Mv.mIsi, Mv.isT, Mv.gN, Mv.gT, Mv.setAll, Mv.wipeM, Mv.R.bind_ok, Mv.R.bind_bad, Mv.R.noX_ok, Mv.R.andS_ok, Mv.R.andS_bad, Mv.S.andS_nx, Mv.S.andS_rt, Mv.S.andS_bad, Mv.S.andS_bk, Mv.S.andS_ct, List.map_cons, List.map_nil, List.cons_append, List.nil_append, List.append_nil, List.replicate_succ, List.replicate_zero, List.length_cons, List.length_nil, List.set_cons_zero, List.set_cons_succ, List.getElem?_cons_zero, List.getElem?_cons_succ, List.getElem?_nil, Nat.reduceAdd, Nat.reduceSub, Nat.reduceEqDiff, Nat.reduceLeDiff, Nat.zero_add, if_true, if_false, Bool.not_true, Bool.not_false, Bool.false_eq_true, decide_true, decide_false, ite_true, ite_false, Option.some.injEq, reduceIte, Mv.mFld, Mv.mIsC, Mv.mMeth, Mv.mMake, Mv.mMakeK, Mv.mEqB, Mv.boolR, Mv.mRev, List.lookup_cons, List.lookup_nil, Nat.reduceBEq, beq_self_eq_true, Mv.ins_new, Mv.set_new, Mv.mNeB, F_l_promise_eq k, e1.ins, e2.ins, q1, Mv.notR, List.mem_singleton]
  · unfold planM
    simp only [Mv.mDef, Mv.mSeq, Mv.mSet, Mv.mRet, Mv.mRetN, Mv.mIfS, Mv.mVar, Mv.mC, Mv.mBin, Mv.mChain, Mv.mCall, Mv.mDo, Mv.mCons, Mv.mNil, Mv.mAndV, Mv.mOrV, Mv.mNotV, Mv.mAsB, Mv.mAndT, Mv.mOrT, Mv.mNotT, Mv.mIf, Mv.mTup, Mv.mLst, Mv.mNext, Mv.mBad, Mv.mDrop, Mv.mPar, Mv.mAsg, Mv.mStore, Mv.mNeg, Mv.fNeg, Mv.mYes, Mv.mNoP, Mv.mPart, Mv.mSl, Mv.fI, Mv.fAdd, Mv.fSub, Mv.fMul, Mv.fMod, Mv.fDiv, Mv.fPow, Mv.fLt, Mv.fLe, Mv.fGt, Mv.fGe, Mv.yes2, Mv.fIsN, Mv.fNotN, Mv.isNon, Mv.fIx, Mv.items_tup, Mv.items_new, Mv.list_new, Mv.lstOf_new, Mv.fEq_int, Mv.fNe_int, Mv.fLen_tup, Mv.fMax2, Mv.fMin2, Mv.fInt, Mv.fAbs, Mv.mIsi, Mv.isT, Mv.gN, Mv.gT, Mv.setAll, Mv.wipeM, Mv.R.bind_ok, Mv.R.bind_bad, Mv.R.noX_ok, Mv.R.andS_ok, Mv.R.andS_bad, Mv.S.andS_nx, Mv.S.andS_rt, Mv.S.andS_bad, Mv.S.andS_bk, Mv.S.andS_ct, List.map_cons, List.map_nil, List.cons_append, List.nil_append, List.append_nil, List.replicate_succ, List.replicate_zero, List.length_cons, List.length_nil, List.set_cons_zero, List.set_cons_succ, List.getElem?_cons_zero, List.getElem?_cons_succ, List.getElem?_nil, Nat.reduceAdd, Nat.reduceSub, Nat.reduceEqDiff, Nat.reduceLeDiff, Nat.zero_add, if_true, if_false, Bool.not_true, Bool.not_false, Bool.false_eq_true, decide_true, decide_false, ite_true, ite_false, Option.some.injEq, reduceIte, Mv.mFld, Mv.mIsC, Mv.mMeth, Mv.mMake, Mv.mMakeK, Mv.mEqB, Mv.boolR, Mv.mRev, List.lookup_cons, List.lookup_nil, Nat.reduceBEq, beq_self_eq_true, Mv.ins_new, Mv.set_new, at_zero, a1, a2, a3, nq, e3.ins, e4.ins, q2, List.mem_singleton, and_self]
    simp only [List.append_assoc]
    rfl
theorem bd3_6_ok {h : MH} {s n o : Nat} {P : Plan} (k : P.Ok) (e : HasP h o P) {m : Int} (m0 : 0 ≤ m) (m5 : m < 5) (x2 x6 x7 x8 x9 x10 : Option MV) : ∃ g, bd3_6 (Ev s n x2 (some (planM P)) (some (.int m)) (some (.ref o)) x6 x7 x8 x9 x10) h = .nx (Ev s n x2 (some (planM P)) (some (.int m)) (some (.ref o)) x6 x7 x8 x9 x10) (h ++ g) := by
  unfold bd3_6
  have hn := fNe_rows (h := h ++ [MO.lst (rowsM (sortS ((partsL m (agesH P)).filter (isGood P))))] ++ [MO.lst (rowsM ((sortS (partsL m (agesH P))).filter (isGood P)))]) (look_app (look_new h (MO.lst (rowsM (sortS ((partsL m (agesH P)).filter (isGood P))))))) (look_new _ _)
  rw [decide_eq_true (sortS_filter _ _)] at hn
  refine ⟨[MO.lst (rowsM (sortS ((partsL m (agesH P)).filter (isGood P))))] ++ [MO.lst (rowsM ((sortS (partsL m (agesH P))).filter (isGood P)))], if_no ?_⟩
  simp only [Mv.mDef, Mv.mSeq, Mv.mSet, Mv.mRet, Mv.mRetN, Mv.mIfS, Mv.mVar, Mv.mC, Mv.mBin, Mv.mChain, Mv.mCall, Mv.mDo, Mv.mCons, Mv.mNil, Mv.mAndV, Mv.mOrV, Mv.mNotV, Mv.mAsB, Mv.mAndT, Mv.mOrT, Mv.mNotT, Mv.mIf, Mv.mTup, Mv.mLst, Mv.mNext, Mv.mBad, Mv.mDrop, Mv.mPar, Mv.mAsg, Mv.mStore, Mv.mNeg, Mv.fNeg, Mv.mYes, Mv.mNoP, Mv.mPart, Mv.mSl, Mv.fI, Mv.fAdd, Mv.fSub, Mv.fMul, Mv.fMod, Mv.fDiv, Mv.fPow, Mv.fLt, Mv.fLe, Mv.fGt, Mv.fGe, Mv.yes2, Mv.fIsN, Mv.fNotN, Mv.isNon, Mv.fIx, Mv.items_tup, Mv.items_new, Mv.list_new, Mv.lstOf_new, Mv.fEq_int, Mv.fNe_int, Mv.fLen_tup, Mv.fMax2, Mv.fMin2, Mv.fInt, Mv.fAbs, Mv.mIsi, Mv.isT, Mv.gN, Mv.gT, Mv.setAll, Mv.wipeM, Mv.R.bind_ok, Mv.R.bind_bad, Mv.R.noX_ok, Mv.R.andS_ok, Mv.R.andS_bad, Mv.S.andS_nx, Mv.S.andS_rt, Mv.S.andS_bad, Mv.S.andS_bk, Mv.S.andS_ct, List.map_cons, List.map_nil, List.cons_append, List.nil_append, List.append_nil, List.replicate_succ, List.replicate_zero, List.length_cons, List.length_nil, List.set_cons_zero, List.set_cons_succ, List.getElem?_cons_zero, List.getElem?_cons_succ, List.getElem?_nil, Nat.reduceAdd, Nat.reduceSub, Nat.reduceEqDiff, Nat.reduceLeDiff, Nat.zero_add, if_true, if_false, Bool.not_true, Bool.not_false, Bool.false_eq_true, decide_true, decide_false, ite_true, ite_false, Option.some.injEq, reduceIte, G_states_eq e k m0 (show m ≤ 5 by omega), G_l_states_eq k m, hn]
  rw [List.append_assoc]
  rfl
/-! ### states drawn -/
/-- what a draw keeps -/
theorem Ext.hasP {n o : Nat} {h h' : MH} {P : Plan} (e : Ext n h h') (q : HasP h o P) (ne : o ≠ n) : HasP h' o P := e.look q ne
theorem draw_comp {h0 : MH} {s n : Nat} {it : MIt} {l : List Int} {x2 x3 x4 x5 x6 x7 x8 x9 x10 : Option MV} (hl : l.length ≤ cap) (hd : HasD h0 n) (hit : ∀ i h, Ext n h0 h → it i h = nxOf (ivs l)[i]?) :
    ∃ (sub : List Int) (h' : MH), sub.Sublist l ∧ (Ext n h0 h' ∧ HasD h' n) ∧ compGo it (gN 10) (mAsB (mBin fEq (mDo 2 F_l_take (mCons (mVar 1) (mCons (mC (.int 2)) (mNil)))) (mC (.int 0)))) (mVar 10) [10] fuel 0 (Ev s n x2 x3 x4 x5 x6 x7 x8 x9 x10) h0 [] = .ok (.ref h'.length) (h' ++ [.lst (ivs sub)]) := by
  refine comp_ind (I := fun h => Ext n h0 h ∧ HasD h n) l MV.int MV.int (fun i h hI => hit i h hI.1) hl (fun a _ h hI => ?_) ⟨Ext.refl, hd⟩
  obtain ⟨z, h2, e1, x1, d1, z0, z1⟩ := F_l_take_eq hI.2 (b := 2) (by decide)
  refine ⟨_, rfl, decide (z = 0), h2, ?_, ⟨hI.1.trans x1, d1⟩, fun _ => ⟨h2, ?_, hI.1.trans x1, d1⟩⟩
  · simp only [Mv.mDef, Mv.mSeq, Mv.mSet, Mv.mRet, Mv.mRetN, Mv.mIfS, Mv.mVar, Mv.mC, Mv.mBin, Mv.mChain, Mv.mCall, Mv.mDo, Mv.mCons, Mv.mNil, Mv.mAndV, Mv.mOrV, Mv.mNotV, Mv.mAsB, Mv.mAndT, Mv.mOrT, Mv.mNotT, Mv.mIf, Mv.mTup, Mv.mLst, Mv.mNext, Mv.mBad, Mv.mDrop, Mv.mPar, Mv.mAsg, Mv.mStore, Mv.mNeg, Mv.fNeg, Mv.mYes, Mv.mNoP, Mv.mPart, Mv.mSl, Mv.fI, Mv.fAdd, Mv.fSub, Mv.fMul, Mv.fMod, Mv.fDiv, Mv.fPow, Mv.fLt, Mv.fLe, Mv.fGt, Mv.fGe, Mv.yes2, Mv.fIsN, Mv.fNotN, Mv.isNon, Mv.fIx, Mv.items_tup, Mv.items_new, Mv.list_new, Mv.lstOf_new, Mv.fEq_int, Mv.fNe_int, Mv.fLen_tup, Mv.fMax2, Mv.fMin2, Mv.fInt, Mv.fAbs, Mv.mIsi, Mv.isT, Mv.gN, Mv.gT, Mv.setAll, Mv.wipeM, Mv.R.bind_ok, Mv.R.bind_bad, Mv.R.noX_ok, Mv.R.andS_ok, Mv.R.andS_bad, Mv.S.andS_nx, Mv.S.andS_rt, Mv.S.andS_bad, Mv.S.andS_bk, Mv.S.andS_ct, List.map_cons, List.map_nil, List.cons_append, List.nil_append, List.append_nil, List.replicate_succ, List.replicate_zero, List.length_cons, List.length_nil, List.set_cons_zero, List.set_cons_succ, List.getElem?_cons_zero, List.getElem?_cons_succ, List.getElem?_nil, Nat.reduceAdd, Nat.reduceSub, Nat.reduceEqDiff, Nat.reduceLeDiff, Nat.zero_add, if_true, if_false, Bool.not_true, Bool.not_false, Bool.false_eq_true, decide_true, decide_false, ite_true, ite_false, Option.some.injEq, reduceIte, e1]
  · simp only [Mv.mDef, Mv.mSeq, Mv.mSet, Mv.mRet, Mv.mRetN, Mv.mIfS, Mv.mVar, Mv.mC, Mv.mBin, Mv.mChain, Mv.mCall, Mv.mDo, Mv.mCons, Mv.mNil, Mv.mAndV, Mv.mOrV, Mv.mNotV, Mv.mAsB, Mv.mAndT, Mv.mOrT, Mv.mNotT, Mv.mIf, Mv.mTup, Mv.mLst, Mv.mNext, Mv.mBad, Mv.mDrop, Mv.mPar, Mv.mAsg, Mv.mStore, Mv.mNeg, Mv.fNeg, Mv.mYes, Mv.mNoP, Mv.mPart, Mv.mSl, Mv.fI, Mv.fAdd, Mv.fSub, Mv.fMul, Mv.fMod, Mv.fDiv, Mv.fPow, Mv.fLt, Mv.fLe, Mv.fGt, Mv.fGe, Mv.yes2, Mv.fIsN, Mv.fNotN, Mv.isNon, Mv.fIx, Mv.items_tup, Mv.items_new, Mv.list_new, Mv.lstOf_new, Mv.fEq_int, Mv.fNe_int, Mv.fLen_tup, Mv.fMax2, Mv.fMin2, Mv.fInt, Mv.fAbs, Mv.mIsi, Mv.isT, Mv.gN, Mv.gT, Mv.setAll, Mv.wipeM, Mv.R.bind_ok, Mv.R.bind_bad, Mv.R.noX_ok, Mv.R.andS_ok, Mv.R.andS_bad, Mv.S.andS_nx, Mv.S.andS_rt, Mv.S.andS_bad, Mv.S.andS_bk, Mv.S.andS_ct, List.map_cons, List.map_nil, List.cons_append, List.nil_append, List.append_nil, List.replicate_succ, List.replicate_zero, List.length_cons, List.length_nil, List.set_cons_zero, List.set_cons_succ, List.getElem?_cons_zero, List.getElem?_cons_succ, List.getElem?_nil, Nat.reduceAdd, Nat.reduceSub, Nat.reduceEqDiff, Nat.reduceLeDiff, Nat.zero_add, if_true, if_false, Bool.not_true, Bool.not_false, Bool.false_eq_true, decide_true, decide_false, ite_true, ite_false, Option.some.injEq, reduceIte]
theorem HasP.ne {h : MH} {n o : Nat} {P : Plan} (e : HasP h o P) (d : HasD h n) : o ≠ n := fun z => by
  obtain ⟨D, _, q⟩ := d
  unfold HasP promO at e
  rw [z, q] at e
  cases e
abbrev hrange (P : Plan) : MIt := itR 0 1 (horizon P + 1).toNat
theorem bd3_7_1_ok {h : MH} {s n : Nat} {P : Plan} (k : P.Ok) (d : HasD h n) (x2 x4 x5 x6 x7 x8 x9 x10 : Option MV) : ∃ st h', bd3_7_1 (Ev s n x2 (some (planM P)) x4 x5 x6 x7 x8 x9 x10) h = .nx (Ev s n x2 (some (planM P)) x4 x5 x6 (some (rowM st)) x8 x9 x10) h' ∧ IsSt P st ∧ HasD h' n ∧ Ext n h h' := by
  have h9 := k.hor9
  have h0 := k.hor0
  obtain ⟨st, h1, hs, ⟨x1, d1⟩, e1⟩ := draw_comp (s := s) (it := hrange P) (l := agesH P) (x2 := x2) (x3 := some (planM P)) (x4 := x4) (x5 := x5) (x6 := x6) (x7 := x7) (x8 := x8) (x9 := x9) (x10 := x10) (Nat.le_trans (agesH_len k) (by decide)) d fun i h' _ => itR_nx _ _ _ i h'
  refine ⟨st, h1 ++ [.lst (ivs st)], ?_, (IsSt.range (P := P) (horizon P + 1).toNat (by omega)).sub hs, d1.app, x1.app⟩
  unfold bd3_7_1
  have hb : inR (horizon P + 1) = true := inR_of (by omega)
  simp only [Mv.mDef, Mv.mSeq, Mv.mSet, Mv.mRet, Mv.mRetN, Mv.mIfS, Mv.mVar, Mv.mC, Mv.mBin, Mv.mChain, Mv.mCall, Mv.mDo, Mv.mCons, Mv.mNil, Mv.mAndV, Mv.mOrV, Mv.mNotV, Mv.mAsB, Mv.mAndT, Mv.mOrT, Mv.mNotT, Mv.mIf, Mv.mTup, Mv.mLst, Mv.mNext, Mv.mBad, Mv.mDrop, Mv.mPar, Mv.mAsg, Mv.mStore, Mv.mNeg, Mv.fNeg, Mv.mYes, Mv.mNoP, Mv.mPart, Mv.mSl, Mv.fI, Mv.fAdd, Mv.fSub, Mv.fMul, Mv.fMod, Mv.fDiv, Mv.fPow, Mv.fLt, Mv.fLe, Mv.fGt, Mv.fGe, Mv.yes2, Mv.fIsN, Mv.fNotN, Mv.isNon, Mv.fIx, Mv.items_tup, Mv.items_new, Mv.list_new, Mv.lstOf_new, Mv.fEq_int, Mv.fNe_int, Mv.fLen_tup, Mv.fMax2, Mv.fMin2, Mv.fInt, Mv.fAbs, Mv.mIsi, Mv.isT, Mv.gN, Mv.gT, Mv.setAll, Mv.wipeM, Mv.R.bind_ok, Mv.R.bind_bad, Mv.R.noX_ok, Mv.R.andS_ok, Mv.R.andS_bad, Mv.S.andS_nx, Mv.S.andS_rt, Mv.S.andS_bad, Mv.S.andS_bk, Mv.S.andS_ct, List.map_cons, List.map_nil, List.cons_append, List.nil_append, List.append_nil, List.replicate_succ, List.replicate_zero, List.length_cons, List.length_nil, List.set_cons_zero, List.set_cons_succ, List.getElem?_cons_zero, List.getElem?_cons_succ, List.getElem?_nil, Nat.reduceAdd, Nat.reduceSub, Nat.reduceEqDiff, Nat.reduceLeDiff, Nat.zero_add, if_true, if_false, Bool.not_true, Bool.not_false, Bool.false_eq_true, decide_true, decide_false, ite_true, ite_false, Option.some.injEq, reduceIte, mLc, mRng1, F_l_horizon_eq k, hb, e1, fTuple_at (items_new h1 (ivs st))]
theorem ne_bool (b : Bool) (h : MH) : fNe (.bl b) (.bl b) h = .ok (.bl false) h := by cases b <;> rfl
theorem bd3_7_2_ok {h : MH} {s n o : Nat} {P : Plan} (k : P.Ok) (e : HasP h o P) {st : List Int} (hs : IsSt P st) (x2 x4 x6 x8 x9 x10 : Option MV) : ∃ g, bd3_7_2 (Ev s n x2 (some (planM P)) x4 (some (.ref o)) x6 (some (rowM st)) x8 x9 x10) h = .nx (Ev s n x2 (some (planM P)) x4 (some (.ref o)) x6 (some (rowM st)) x8 x9 x10) (h ++ g) := by
  unfold bd3_7_2
  have hc : st.length ≤ cap := by have := hs.len k; unfold cap; omega
  have hn := fNe_lints (h := h ++ [MO.lst (ivs (brokenL P st))] ++ [MO.lst (ivs (brokenL P st))]) (look_app (look_new h (MO.lst (ivs (brokenL P st))))) (look_new _ _)
  rw [decide_eq_true rfl] at hn
  have e2 : HasP (h ++ [MO.lst (ivs (brokenL P st))] ++ [MO.lst (ivs (brokenL P st))]) o P := e.app.app
  refine ⟨[MO.lst (ivs (brokenL P st))] ++ [MO.lst (ivs (brokenL P st))] ++ [MO.lst (ivs (brokenL P st))] ++ [MO.lst []], if_no (or_no (h1 := h ++ [MO.lst (ivs (brokenL P st))] ++ [MO.lst (ivs (brokenL P st))]) ?_ ?_)⟩
  · simp only [Mv.mDef, Mv.mSeq, Mv.mSet, Mv.mRet, Mv.mRetN, Mv.mIfS, Mv.mVar, Mv.mC, Mv.mBin, Mv.mChain, Mv.mCall, Mv.mDo, Mv.mCons, Mv.mNil, Mv.mAndV, Mv.mOrV, Mv.mNotV, Mv.mAsB, Mv.mAndT, Mv.mOrT, Mv.mNotT, Mv.mIf, Mv.mTup, Mv.mLst, Mv.mNext, Mv.mBad, Mv.mDrop, Mv.mPar, Mv.mAsg, Mv.mStore, Mv.mNeg, Mv.fNeg, Mv.mYes, Mv.mNoP, Mv.mPart, Mv.mSl, Mv.fI, Mv.fAdd, Mv.fSub, Mv.fMul, Mv.fMod, Mv.fDiv, Mv.fPow, Mv.fLt, Mv.fLe, Mv.fGt, Mv.fGe, Mv.yes2, Mv.fIsN, Mv.fNotN, Mv.isNon, Mv.fIx, Mv.items_tup, Mv.items_new, Mv.list_new, Mv.lstOf_new, Mv.fEq_int, Mv.fNe_int, Mv.fLen_tup, Mv.fMax2, Mv.fMin2, Mv.fInt, Mv.fAbs, Mv.mIsi, Mv.isT, Mv.gN, Mv.gT, Mv.setAll, Mv.wipeM, Mv.R.bind_ok, Mv.R.bind_bad, Mv.R.noX_ok, Mv.R.andS_ok, Mv.R.andS_bad, Mv.S.andS_nx, Mv.S.andS_rt, Mv.S.andS_bad, Mv.S.andS_bk, Mv.S.andS_ct, List.map_cons, List.map_nil, List.cons_append, List.nil_append, List.append_nil, List.replicate_succ, List.replicate_zero, List.length_cons, List.length_nil, List.set_cons_zero, List.set_cons_succ, List.getElem?_cons_zero, List.getElem?_cons_succ, List.getElem?_nil, Nat.reduceAdd, Nat.reduceSub, Nat.reduceEqDiff, Nat.reduceLeDiff, Nat.zero_add, if_true, if_false, Bool.not_true, Bool.not_false, Bool.false_eq_true, decide_true, decide_false, ite_true, ite_false, Option.some.injEq, reduceIte, G_broken_eq e k st hs, G_l_broken_eq k st hc, hn]
  · simp only [Mv.mDef, Mv.mSeq, Mv.mSet, Mv.mRet, Mv.mRetN, Mv.mIfS, Mv.mVar, Mv.mC, Mv.mBin, Mv.mChain, Mv.mCall, Mv.mDo, Mv.mCons, Mv.mNil, Mv.mAndV, Mv.mOrV, Mv.mNotV, Mv.mAsB, Mv.mAndT, Mv.mOrT, Mv.mNotT, Mv.mIf, Mv.mTup, Mv.mLst, Mv.mNext, Mv.mBad, Mv.mDrop, Mv.mPar, Mv.mAsg, Mv.mStore, Mv.mNeg, Mv.fNeg, Mv.mYes, Mv.mNoP, Mv.mPart, Mv.mSl, Mv.fI, Mv.fAdd, Mv.fSub, Mv.fMul, Mv.fMod, Mv.fDiv, Mv.fPow, Mv.fLt, Mv.fLe, Mv.fGt, Mv.fGe, Mv.yes2, Mv.fIsN, Mv.fNotN, Mv.isNon, Mv.fIx, Mv.items_tup, Mv.items_new, Mv.list_new, Mv.lstOf_new, Mv.fEq_int, Mv.fNe_int, Mv.fLen_tup, Mv.fMax2, Mv.fMin2, Mv.fInt, Mv.fAbs, Mv.mIsi, Mv.isT, Mv.gN, Mv.gT, Mv.setAll, Mv.wipeM, Mv.R.bind_ok, Mv.R.bind_bad, Mv.R.noX_ok, Mv.R.andS_ok, Mv.R.andS_bad, Mv.S.andS_nx, Mv.S.andS_rt, Mv.S.andS_bad, Mv.S.andS_bk, Mv.S.andS_ct, List.map_cons, List.map_nil, List.cons_append, List.nil_append, List.append_nil, List.replicate_succ, List.replicate_zero, List.length_cons, List.length_nil, List.set_cons_zero, List.set_cons_succ, List.getElem?_cons_zero, List.getElem?_cons_succ, List.getElem?_nil, Nat.reduceAdd, Nat.reduceSub, Nat.reduceEqDiff, Nat.reduceLeDiff, Nat.zero_add, if_true, if_false, Bool.not_true, Bool.not_false, Bool.false_eq_true, decide_true, decide_false, ite_true, ite_false, Option.some.injEq, reduceIte, G_keeps_eq e2 k st hs, G_l_broken_eq k st hc, c0t, fEq_nil, ne_bool]
    simp only [List.append_assoc]
    rfl
theorem bd3_7_3_ok {h : MH} {s n : Nat} {P : Plan} (k : P.Ok) {st : List Int} (hs : IsSt P st) (x2 x4 x5 x6 x8 x9 x10 : Option MV) : bd3_7_3 (Ev s n x2 (some (planM P)) x4 x5 x6 (some (rowM st)) x8 x9 x10) h = .nx (Ev s n x2 (some (planM P)) x4 x5 x6 (some (rowM st)) (some (.ref h.length)) x9 x10) (h ++ [.lst (ivs (agedL P st))]) := by
  unfold bd3_7_3
  have := hs.len k
  simp only [Mv.mDef, Mv.mSeq, Mv.mSet, Mv.mRet, Mv.mRetN, Mv.mIfS, Mv.mVar, Mv.mC, Mv.mBin, Mv.mChain, Mv.mCall, Mv.mDo, Mv.mCons, Mv.mNil, Mv.mAndV, Mv.mOrV, Mv.mNotV, Mv.mAsB, Mv.mAndT, Mv.mOrT, Mv.mNotT, Mv.mIf, Mv.mTup, Mv.mLst, Mv.mNext, Mv.mBad, Mv.mDrop, Mv.mPar, Mv.mAsg, Mv.mStore, Mv.mNeg, Mv.fNeg, Mv.mYes, Mv.mNoP, Mv.mPart, Mv.mSl, Mv.fI, Mv.fAdd, Mv.fSub, Mv.fMul, Mv.fMod, Mv.fDiv, Mv.fPow, Mv.fLt, Mv.fLe, Mv.fGt, Mv.fGe, Mv.yes2, Mv.fIsN, Mv.fNotN, Mv.isNon, Mv.fIx, Mv.items_tup, Mv.items_new, Mv.list_new, Mv.lstOf_new, Mv.fEq_int, Mv.fNe_int, Mv.fLen_tup, Mv.fMax2, Mv.fMin2, Mv.fInt, Mv.fAbs, Mv.mIsi, Mv.isT, Mv.gN, Mv.gT, Mv.setAll, Mv.wipeM, Mv.R.bind_ok, Mv.R.bind_bad, Mv.R.noX_ok, Mv.R.andS_ok, Mv.R.andS_bad, Mv.S.andS_nx, Mv.S.andS_rt, Mv.S.andS_bad, Mv.S.andS_bk, Mv.S.andS_ct, List.map_cons, List.map_nil, List.cons_append, List.nil_append, List.append_nil, List.replicate_succ, List.replicate_zero, List.length_cons, List.length_nil, List.set_cons_zero, List.set_cons_succ, List.getElem?_cons_zero, List.getElem?_cons_succ, List.getElem?_nil, Nat.reduceAdd, Nat.reduceSub, Nat.reduceEqDiff, Nat.reduceLeDiff, Nat.zero_add, if_true, if_false, Bool.not_true, Bool.not_false, Bool.false_eq_true, decide_true, decide_false, ite_true, ite_false, Option.some.injEq, reduceIte, G_l_grown_eq k st (show st.length ≤ 1000 by omega)]
theorem bd3_7_4_ok {h : MH} {s n a : Nat} {P : Plan} (k : P.Ok) (d : HasD h n) {st : List Int} (hs : IsSt P st) (ea : h[a]? = some (.lst (ivs (agedL P st)))) (na : a ≠ n) (x2 x3 x4 x5 x6 x7 x9 x10 : Option MV) : ∃ kept h', bd3_7_4 (Ev s n x2 x3 x4 x5 x6 x7 (some (.ref a)) x9 x10) h = .nx (Ev s n x2 x3 x4 x5 x6 x7 (some (.ref a)) (some (rowM kept)) x10) h' ∧ kept.Sublist (agedL P st) ∧ HasD h' n ∧ Ext n h h' := by
  have hl := (hs.aged k).len k
  obtain ⟨kept, h1, hk, ⟨x1, d1⟩, e1⟩ := draw_comp (s := s) (it := itL a) (l := agedL P st) (x2 := x2) (x3 := x3) (x4 := x4) (x5 := x5) (x6 := x6) (x7 := x7) (x8 := some (.ref a)) (x9 := x9) (x10 := x10) (Nat.le_trans hl (by decide)) d fun i h' x => itL_nx (x.look ea na) i
  refine ⟨kept, h1 ++ [.lst (ivs kept)], ?_, hk, d1.app, x1.app⟩
  unfold bd3_7_4
  simp only [Mv.mDef, Mv.mSeq, Mv.mSet, Mv.mRet, Mv.mRetN, Mv.mIfS, Mv.mVar, Mv.mC, Mv.mBin, Mv.mChain, Mv.mCall, Mv.mDo, Mv.mCons, Mv.mNil, Mv.mAndV, Mv.mOrV, Mv.mNotV, Mv.mAsB, Mv.mAndT, Mv.mOrT, Mv.mNotT, Mv.mIf, Mv.mTup, Mv.mLst, Mv.mNext, Mv.mBad, Mv.mDrop, Mv.mPar, Mv.mAsg, Mv.mStore, Mv.mNeg, Mv.fNeg, Mv.mYes, Mv.mNoP, Mv.mPart, Mv.mSl, Mv.fI, Mv.fAdd, Mv.fSub, Mv.fMul, Mv.fMod, Mv.fDiv, Mv.fPow, Mv.fLt, Mv.fLe, Mv.fGt, Mv.fGe, Mv.yes2, Mv.fIsN, Mv.fNotN, Mv.isNon, Mv.fIx, Mv.items_tup, Mv.items_new, Mv.list_new, Mv.lstOf_new, Mv.fEq_int, Mv.fNe_int, Mv.fLen_tup, Mv.fMax2, Mv.fMin2, Mv.fInt, Mv.fAbs, Mv.mIsi, Mv.isT, Mv.gN, Mv.gT, Mv.setAll, Mv.wipeM, Mv.R.bind_ok, Mv.R.bind_bad, Mv.R.noX_ok, Mv.R.andS_ok, Mv.R.andS_bad, Mv.S.andS_nx, Mv.S.andS_rt, Mv.S.andS_bad, Mv.S.andS_bk, Mv.S.andS_ct, List.map_cons, List.map_nil, List.cons_append, List.nil_append, List.append_nil, List.replicate_succ, List.replicate_zero, List.length_cons, List.length_nil, List.set_cons_zero, List.set_cons_succ, List.getElem?_cons_zero, List.getElem?_cons_succ, List.getElem?_nil, Nat.reduceAdd, Nat.reduceSub, Nat.reduceEqDiff, Nat.reduceLeDiff, Nat.zero_add, if_true, if_false, Bool.not_true, Bool.not_false, Bool.false_eq_true, decide_true, decide_false, ite_true, ite_false, Option.some.injEq, reduceIte, mLc, mItV, items_at ea, e1, fTuple_at (items_new h1 (ivs kept))]
theorem bd3_7_5_ok {h : MH} {s n o a : Nat} {P : Plan} (k : P.Ok) (e : HasP h o P) {st kept : List Int} (hs : IsSt P st) (hk : kept.Sublist (agedL P st)) (ea : h[a]? = some (.lst (ivs (agedL P st)))) (x2 x3 x4 x6 x10 : Option MV) : ∃ g, bd3_7_5 (Ev s n x2 x3 x4 (some (.ref o)) x6 (some (rowM st)) (some (.ref a)) (some (rowM kept)) x10) h = .nx (Ev s n x2 x3 x4 (some (.ref o)) x6 (some (rowM st)) (some (.ref a)) (some (rowM kept)) x10) (h ++ g) := by
  unfold bd3_7_5
  obtain ⟨g, eg⟩ := F_after_eq e k st kept hs hk
  have n1 : fNe (rowM (agedL P st)) (.tup (ivs (agedL P st))) h = .ok (.bl false) h := by rw [fNe_tints, decide_eq_true rfl]; rfl
  have n2 : fNe (rowM kept) (rowM kept) (h ++ g) = .ok (.bl false) (h ++ g) := by rw [fNe_tints, decide_eq_true rfl]; rfl
  refine ⟨g, if_no (or_no (h1 := h) ?_ ?_)⟩
  · simp only [Mv.mDef, Mv.mSeq, Mv.mSet, Mv.mRet, Mv.mRetN, Mv.mIfS, Mv.mVar, Mv.mC, Mv.mBin, Mv.mChain, Mv.mCall, Mv.mDo, Mv.mCons, Mv.mNil, Mv.mAndV, Mv.mOrV, Mv.mNotV, Mv.mAsB, Mv.mAndT, Mv.mOrT, Mv.mNotT, Mv.mIf, Mv.mTup, Mv.mLst, Mv.mNext, Mv.mBad, Mv.mDrop, Mv.mPar, Mv.mAsg, Mv.mStore, Mv.mNeg, Mv.fNeg, Mv.mYes, Mv.mNoP, Mv.mPart, Mv.mSl, Mv.fI, Mv.fAdd, Mv.fSub, Mv.fMul, Mv.fMod, Mv.fDiv, Mv.fPow, Mv.fLt, Mv.fLe, Mv.fGt, Mv.fGe, Mv.yes2, Mv.fIsN, Mv.fNotN, Mv.isNon, Mv.fIx, Mv.items_tup, Mv.items_new, Mv.list_new, Mv.lstOf_new, Mv.fEq_int, Mv.fNe_int, Mv.fLen_tup, Mv.fMax2, Mv.fMin2, Mv.fInt, Mv.fAbs, Mv.mIsi, Mv.isT, Mv.gN, Mv.gT, Mv.setAll, Mv.wipeM, Mv.R.bind_ok, Mv.R.bind_bad, Mv.R.noX_ok, Mv.R.andS_ok, Mv.R.andS_bad, Mv.S.andS_nx, Mv.S.andS_rt, Mv.S.andS_bad, Mv.S.andS_bk, Mv.S.andS_ct, List.map_cons, List.map_nil, List.cons_append, List.nil_append, List.append_nil, List.replicate_succ, List.replicate_zero, List.length_cons, List.length_nil, List.set_cons_zero, List.set_cons_succ, List.getElem?_cons_zero, List.getElem?_cons_succ, List.getElem?_nil, Nat.reduceAdd, Nat.reduceSub, Nat.reduceEqDiff, Nat.reduceLeDiff, Nat.zero_add, if_true, if_false, Bool.not_true, Bool.not_false, Bool.false_eq_true, decide_true, decide_false, ite_true, ite_false, Option.some.injEq, reduceIte, G_grown_eq e k st hs, fTuple_at (items_at ea), n1]
  · simp only [Mv.mDef, Mv.mSeq, Mv.mSet, Mv.mRet, Mv.mRetN, Mv.mIfS, Mv.mVar, Mv.mC, Mv.mBin, Mv.mChain, Mv.mCall, Mv.mDo, Mv.mCons, Mv.mNil, Mv.mAndV, Mv.mOrV, Mv.mNotV, Mv.mAsB, Mv.mAndT, Mv.mOrT, Mv.mNotT, Mv.mIf, Mv.mTup, Mv.mLst, Mv.mNext, Mv.mBad, Mv.mDrop, Mv.mPar, Mv.mAsg, Mv.mStore, Mv.mNeg, Mv.fNeg, Mv.mYes, Mv.mNoP, Mv.mPart, Mv.mSl, Mv.fI, Mv.fAdd, Mv.fSub, Mv.fMul, Mv.fMod, Mv.fDiv, Mv.fPow, Mv.fLt, Mv.fLe, Mv.fGt, Mv.fGe, Mv.yes2, Mv.fIsN, Mv.fNotN, Mv.isNon, Mv.fIx, Mv.items_tup, Mv.items_new, Mv.list_new, Mv.lstOf_new, Mv.fEq_int, Mv.fNe_int, Mv.fLen_tup, Mv.fMax2, Mv.fMin2, Mv.fInt, Mv.fAbs, Mv.mIsi, Mv.isT, Mv.gN, Mv.gT, Mv.setAll, Mv.wipeM, Mv.R.bind_ok, Mv.R.bind_bad, Mv.R.noX_ok, Mv.R.andS_ok, Mv.R.andS_bad, Mv.S.andS_nx, Mv.S.andS_rt, Mv.S.andS_bad, Mv.S.andS_bk, Mv.S.andS_ct, List.map_cons, List.map_nil, List.cons_append, List.nil_append, List.append_nil, List.replicate_succ, List.replicate_zero, List.length_cons, List.length_nil, List.set_cons_zero, List.set_cons_succ, List.getElem?_cons_zero, List.getElem?_cons_succ, List.getElem?_nil, Nat.reduceAdd, Nat.reduceSub, Nat.reduceEqDiff, Nat.reduceLeDiff, Nat.zero_add, if_true, if_false, Bool.not_true, Bool.not_false, Bool.false_eq_true, decide_true, decide_false, ite_true, ite_false, Option.some.injEq, reduceIte, eg, n2]
theorem bd3_7_6_ok {h : MH} {s n o : Nat} {P : Plan} (k : P.Ok) (e : HasP h o P) {m : Int} (m0 : 0 ≤ m) (m5 : m < 5) {st : List Int} (hs : IsSt P st) (x2 x6 x8 x9 x10 : Option MV) : ∃ g, bd3_7_6 (Ev s n x2 (some (planM P)) (some (.int m)) (some (.ref o)) x6 (some (rowM st)) x8 x9 x10) h = .nx (Ev s n x2 (some (planM P)) (some (.int m)) (some (.ref o)) x6 (some (rowM st)) x8 x9 x10) (h ++ g) := by
  unfold bd3_7_6
  have hn := fNe_rows (h := h ++ [MO.lst (rowsM (sortS ((partsL m (agedL P st)).filter (isGood P))))] ++ [MO.lst (rowsM ((sortS (partsL m (agedL P st))).filter (isGood P)))]) (look_app (look_new h (MO.lst (rowsM (sortS ((partsL m (agedL P st)).filter (isGood P))))))) (look_new _ _)
  rw [decide_eq_true (sortS_filter _ _)] at hn
  refine ⟨[MO.lst (rowsM (sortS ((partsL m (agedL P st)).filter (isGood P))))] ++ [MO.lst (rowsM ((sortS (partsL m (agedL P st))).filter (isGood P)))], if_no ?_⟩
  simp only [Mv.mDef, Mv.mSeq, Mv.mSet, Mv.mRet, Mv.mRetN, Mv.mIfS, Mv.mVar, Mv.mC, Mv.mBin, Mv.mChain, Mv.mCall, Mv.mDo, Mv.mCons, Mv.mNil, Mv.mAndV, Mv.mOrV, Mv.mNotV, Mv.mAsB, Mv.mAndT, Mv.mOrT, Mv.mNotT, Mv.mIf, Mv.mTup, Mv.mLst, Mv.mNext, Mv.mBad, Mv.mDrop, Mv.mPar, Mv.mAsg, Mv.mStore, Mv.mNeg, Mv.fNeg, Mv.mYes, Mv.mNoP, Mv.mPart, Mv.mSl, Mv.fI, Mv.fAdd, Mv.fSub, Mv.fMul, Mv.fMod, Mv.fDiv, Mv.fPow, Mv.fLt, Mv.fLe, Mv.fGt, Mv.fGe, Mv.yes2, Mv.fIsN, Mv.fNotN, Mv.isNon, Mv.fIx, Mv.items_tup, Mv.items_new, Mv.list_new, Mv.lstOf_new, Mv.fEq_int, Mv.fNe_int, Mv.fLen_tup, Mv.fMax2, Mv.fMin2, Mv.fInt, Mv.fAbs, Mv.mIsi, Mv.isT, Mv.gN, Mv.gT, Mv.setAll, Mv.wipeM, Mv.R.bind_ok, Mv.R.bind_bad, Mv.R.noX_ok, Mv.R.andS_ok, Mv.R.andS_bad, Mv.S.andS_nx, Mv.S.andS_rt, Mv.S.andS_bad, Mv.S.andS_bk, Mv.S.andS_ct, List.map_cons, List.map_nil, List.cons_append, List.nil_append, List.append_nil, List.replicate_succ, List.replicate_zero, List.length_cons, List.length_nil, List.set_cons_zero, List.set_cons_succ, List.getElem?_cons_zero, List.getElem?_cons_succ, List.getElem?_nil, Nat.reduceAdd, Nat.reduceSub, Nat.reduceEqDiff, Nat.reduceLeDiff, Nat.zero_add, if_true, if_false, Bool.not_true, Bool.not_false, Bool.false_eq_true, decide_true, decide_false, ite_true, ite_false, Option.some.injEq, reduceIte, G_choices_eq e k m0 (show m ≤ 5 by omega) st hs, G_l_choices_eq k m st (hs.len k), hn]
  rw [List.append_assoc]
  rfl
theorem bd3_7_ok {h : MH} {s n o : Nat} {P : Plan} (k : P.Ok) (e : HasP h o P) (d : HasD h n) {m : Int} (m0 : 0 ≤ m) (m5 : m < 5) (x2 x6 x7 x8 x9 x10 : Option MV) : ∃ y6 y7 y8 y9 y10 h', bd3_7 (Ev s n x2 (some (planM P)) (some (.int m)) (some (.ref o)) x6 x7 x8 x9 x10) h = .nx (Ev s n x2 (some (planM P)) (some (.int m)) (some (.ref o)) y6 y7 y8 y9 y10) h' ∧ HasD h' n := by
  unfold bd3_7
  have r4 : inR 4 = true := inR_of (by decide)
  simp only [Mv.mDef, Mv.mSeq, Mv.mSet, Mv.mRet, Mv.mRetN, Mv.mIfS, Mv.mVar, Mv.mC, Mv.mBin, Mv.mChain, Mv.mCall, Mv.mDo, Mv.mCons, Mv.mNil, Mv.mAndV, Mv.mOrV, Mv.mNotV, Mv.mAsB, Mv.mAndT, Mv.mOrT, Mv.mNotT, Mv.mIf, Mv.mTup, Mv.mLst, Mv.mNext, Mv.mBad, Mv.mDrop, Mv.mPar, Mv.mAsg, Mv.mStore, Mv.mNeg, Mv.fNeg, Mv.mYes, Mv.mNoP, Mv.mPart, Mv.mSl, Mv.fI, Mv.fAdd, Mv.fSub, Mv.fMul, Mv.fMod, Mv.fDiv, Mv.fPow, Mv.fLt, Mv.fLe, Mv.fGt, Mv.fGe, Mv.yes2, Mv.fIsN, Mv.fNotN, Mv.isNon, Mv.fIx, Mv.items_tup, Mv.items_new, Mv.list_new, Mv.lstOf_new, Mv.fEq_int, Mv.fNe_int, Mv.fLen_tup, Mv.fMax2, Mv.fMin2, Mv.fInt, Mv.fAbs, Mv.mIsi, Mv.isT, Mv.gN, Mv.gT, Mv.setAll, Mv.wipeM, Mv.R.bind_ok, Mv.R.bind_bad, Mv.R.noX_ok, Mv.R.andS_ok, Mv.R.andS_bad, Mv.S.andS_nx, Mv.S.andS_rt, Mv.S.andS_bad, Mv.S.andS_bk, Mv.S.andS_ct, List.map_cons, List.map_nil, List.cons_append, List.nil_append, List.append_nil, List.replicate_succ, List.replicate_zero, List.length_cons, List.length_nil, List.set_cons_zero, List.set_cons_succ, List.getElem?_cons_zero, List.getElem?_cons_succ, List.getElem?_nil, Nat.reduceAdd, Nat.reduceSub, Nat.reduceEqDiff, Nat.reduceLeDiff, Nat.zero_add, if_true, if_false, Bool.not_true, Bool.not_false, Bool.false_eq_true, decide_true, decide_false, ite_true, ite_false, Option.some.injEq, reduceIte, mFor, mRng1, r4]
  refine for_ind (it := itR 0 1 (4 : Int).toNat) (xs := ivs (prog 0 1 4)) (P := fun z => ∃ y6 y7 y8 y9 y10 h', z = .nx (Ev s n x2 (some (planM P)) (some (.int m)) (some (.ref o)) y6 y7 y8 y9 y10) h' ∧ HasD h' n)
    (fun i env h' => HasP h' o P ∧ HasD h' n ∧ ∃ y6 y7 y8 y9 y10, env = Ev s n x2 (some (planM P)) (some (.int m)) (some (.ref o)) y6 y7 y8 y9 y10)
    (fun i env h' _ => itR_nx _ _ _ i h') ?_ ?_ fuel 0 _ h ⟨e, d, _, _, _, _, _, rfl⟩ (Nat.zero_le _) (by have := fuel_ge; rw [ints_length, prog_length]; omega)
  · rintro env h' ⟨e, d, y6, y7, y8, y9, y10, rfl⟩
    exact ⟨_, _, _, _, _, h', rfl, d⟩
  · rintro i x env h' hx ⟨e, d, y6, y7, y8, y9, y10, rfl⟩
    refine ⟨Ev s n x2 (some (planM P)) (some (.int m)) (some (.ref o)) (some x) y7 y8 y9 y10, rfl, ?_⟩
    have ne := e.ne d
    obtain ⟨st, h1, q1, hs, d1, x1⟩ := bd3_7_1_ok (s := s) (h := h') k d x2 (some (.int m)) (some (.ref o)) (some x) y7 y8 y9 y10
    have e1 := x1.hasP e ne
    obtain ⟨g2, q2⟩ := bd3_7_2_ok (s := s) (n := n) k e1 hs x2 (some (.int m)) (some x) y8 y9 y10
    have e2 : HasP (h1 ++ g2) o P := e1.app
    have d2 : HasD (h1 ++ g2) n := d1.app
    have q3 := bd3_7_3_ok (h := h1 ++ g2) (s := s) (n := n) k hs x2 (some (.int m)) (some (.ref o)) (some x) y8 y9 y10
    have ea : (h1 ++ g2 ++ [MO.lst (ivs (agedL P st))])[(h1 ++ g2).length]? = some (.lst (ivs (agedL P st))) := look_new _ _
    have na : (h1 ++ g2).length ≠ n := fun z => by
      obtain ⟨D, _, q⟩ := d2
      have := (List.getElem?_eq_some_iff.mp q).1
      omega
    obtain ⟨kept, h4, q4, hk, d4, x4⟩ := bd3_7_4_ok (s := s) k d2.app hs ea na x2 (some (planM P)) (some (.int m)) (some (.ref o)) (some x) (some (rowM st)) y9 y10
    have e4 : HasP h4 o P := x4.hasP e2.app ne
    have ea4 := x4.look ea na
    obtain ⟨g5, q5⟩ := bd3_7_5_ok (s := s) (n := n) k e4 hs hk ea4 x2 (some (planM P)) (some (.int m)) (some x) y10
    obtain ⟨g6, q6⟩ := bd3_7_6_ok (s := s) (n := n) k (e4.app (g := g5)) m0 m5 hs x2 (some x) (some (.ref (h1 ++ g2).length)) (some (rowM kept)) y10
    rw [seq_nx q1, seq_nx q2, seq_nx q3, seq_nx q4, seq_nx q5, q6]
    exact ⟨(e4.app (g := g5)).app, d4.app.app, _, _, _, _, _, rfl⟩
noncomputable def K01 : List MV → MH → R MV := F_law (F_l_pool (F_l_digits (F_l_cell_at F_l_draw) F_l_draw)) F_l_take (F_l_plan F_l_take) (F_l_promise G_Promise_init) F_Promise_copies F_Promise_share F_Promise_base F_Promise_reach (F_Promise_horizon (F_horizon_of F_slack_at)) (F_l_horizon F_l_slack) (F_Promise_slack F_is_integer F_slack_at) F_l_slack (F_Promise_eq F_Promise_all_parts) G_Promise_init G_states G_l_states G_broken G_l_broken G_keeps G_l_grown G_grown (F_after G_check_state G_is_state G_aged) G_choices G_l_choices
theorem K01_eq {h : MH} {s : Nat} {ns : List Int} (q : HasScript h s ns) (hl : ns.length ≤ 63) (hb : ∀ z ∈ ns, Sm 1048576 z) : ∃ h', K01 [.ref s] h = .ok (.bl true) h' := by
  unfold K01 F_law
  rw [body_is]
  -- the script's first numbers
  obtain ⟨ms, em, hml, hmb⟩ : ∃ ms : List Int, cutM (ivs ns) none (some 63) = ivs ms ∧ ms.length ≤ 63 ∧ ∀ z ∈ ms, z ∈ ns := by
    refine ⟨(ns.drop (HT.sIx (ivs ns).length 0 none)).take (HT.sIx (ivs ns).length (ivs ns).length (some 63) - HT.sIx (ivs ns).length 0 none), ?_, ?_, fun z hz => List.drop_subset _ _ (List.take_subset _ _ hz)⟩
    · unfold cutM ivs
      rw [List.map_take, List.map_drop]
    · rw [List.length_take, List.length_drop]
      omega
  have hsl : fSl (.ref s) none (some 63) h = .ok (.ref h.length) (h ++ [.lst (ivs ms)]) := by
    unfold fSl
    simp only [q.items]
    rw [if_pos (by rw [ints_length]; unfold cap; omega), em]
  have q1 : bd1 (some (.ref s) :: List.replicate 10 none) h = .nx (some (.ref h.length) :: List.replicate 10 none) (h ++ [.lst (ivs ms)]) := by
    unfold bd1
    simp only [Mv.mDef, Mv.mSeq, Mv.mSet, Mv.mRet, Mv.mRetN, Mv.mIfS, Mv.mVar, Mv.mC, Mv.mBin, Mv.mChain, Mv.mCall, Mv.mDo, Mv.mCons, Mv.mNil, Mv.mAndV, Mv.mOrV, Mv.mNotV, Mv.mAsB, Mv.mAndT, Mv.mOrT, Mv.mNotT, Mv.mIf, Mv.mTup, Mv.mLst, Mv.mNext, Mv.mBad, Mv.mDrop, Mv.mPar, Mv.mAsg, Mv.mStore, Mv.mNeg, Mv.fNeg, Mv.mYes, Mv.mNoP, Mv.mPart, Mv.mSl, Mv.fI, Mv.fAdd, Mv.fSub, Mv.fMul, Mv.fMod, Mv.fDiv, Mv.fPow, Mv.fLt, Mv.fLe, Mv.fGt, Mv.fGe, Mv.yes2, Mv.fIsN, Mv.fNotN, Mv.isNon, Mv.fIx, Mv.items_tup, Mv.items_new, Mv.list_new, Mv.lstOf_new, Mv.fEq_int, Mv.fNe_int, Mv.fLen_tup, Mv.fMax2, Mv.fMin2, Mv.fInt, Mv.fAbs, Mv.mIsi, Mv.isT, Mv.gN, Mv.gT, Mv.setAll, Mv.wipeM, Mv.R.bind_ok, Mv.R.bind_bad, Mv.R.noX_ok, Mv.R.andS_ok, Mv.R.andS_bad, Mv.S.andS_nx, Mv.S.andS_rt, Mv.S.andS_bad, Mv.S.andS_bk, Mv.S.andS_ct, List.map_cons, List.map_nil, List.cons_append, List.nil_append, List.append_nil, List.replicate_succ, List.replicate_zero, List.length_cons, List.length_nil, List.set_cons_zero, List.set_cons_succ, List.getElem?_cons_zero, List.getElem?_cons_succ, List.getElem?_nil, Nat.reduceAdd, Nat.reduceSub, Nat.reduceEqDiff, Nat.reduceLeDiff, Nat.zero_add, if_true, if_false, Bool.not_true, Bool.not_false, Bool.false_eq_true, decide_true, decide_false, ite_true, ite_false, Option.some.injEq, reduceIte, hsl]
  have qs : HasScript (h ++ [.lst (ivs ms)]) h.length ms := .inl (look_new _ _)
  obtain ⟨D, g, n, ep, en, hD, hn⟩ := F_l_pool_eq qs hml fun z hz => hb z (hmb z hz)
  have c3 : (3 ≤ cap) = True := eq_true (by decide)
  have q2 : bd2 (some (.ref h.length) :: List.replicate 10 none) (h ++ [.lst (ivs ms)]) = .nx (Ev h.length n none none none none none none none none none) (h ++ [.lst (ivs ms)] ++ g) := by
    unfold bd2
    simp only [Mv.mDef, Mv.mSeq, Mv.mSet, Mv.mRet, Mv.mRetN, Mv.mIfS, Mv.mVar, Mv.mC, Mv.mBin, Mv.mChain, Mv.mCall, Mv.mDo, Mv.mCons, Mv.mNil, Mv.mAndV, Mv.mOrV, Mv.mNotV, Mv.mAsB, Mv.mAndT, Mv.mOrT, Mv.mNotT, Mv.mIf, Mv.mTup, Mv.mLst, Mv.mNext, Mv.mBad, Mv.mDrop, Mv.mPar, Mv.mAsg, Mv.mStore, Mv.mNeg, Mv.fNeg, Mv.mYes, Mv.mNoP, Mv.mPart, Mv.mSl, Mv.fI, Mv.fAdd, Mv.fSub, Mv.fMul, Mv.fMod, Mv.fDiv, Mv.fPow, Mv.fLt, Mv.fLe, Mv.fGt, Mv.fGe, Mv.yes2, Mv.fIsN, Mv.fNotN, Mv.isNon, Mv.fIx, Mv.items_tup, Mv.items_new, Mv.list_new, Mv.lstOf_new, Mv.fEq_int, Mv.fNe_int, Mv.fLen_tup, Mv.fMax2, Mv.fMin2, Mv.fInt, Mv.fAbs, Mv.mIsi, Mv.isT, Mv.gN, Mv.gT, Mv.setAll, Mv.wipeM, Mv.R.bind_ok, Mv.R.bind_bad, Mv.R.noX_ok, Mv.R.andS_ok, Mv.R.andS_bad, Mv.S.andS_nx, Mv.S.andS_rt, Mv.S.andS_bad, Mv.S.andS_bk, Mv.S.andS_ct, List.map_cons, List.map_nil, List.cons_append, List.nil_append, List.append_nil, List.replicate_succ, List.replicate_zero, List.length_cons, List.length_nil, List.set_cons_zero, List.set_cons_succ, List.getElem?_cons_zero, List.getElem?_cons_succ, List.getElem?_nil, Nat.reduceAdd, Nat.reduceSub, Nat.reduceEqDiff, Nat.reduceLeDiff, Nat.zero_add, if_true, if_false, Bool.not_true, Bool.not_false, Bool.false_eq_true, decide_true, decide_false, ite_true, ite_false, Option.some.injEq, reduceIte, c3, ep]
  have q3 : ∃ env h', bd3 (Ev h.length n none none none none none none none none none) (h ++ [.lst (ivs ms)] ++ g) = .nx env h' := by
    unfold bd3
    have r5 : inR 5 = true := inR_of (by decide)
    simp only [Mv.mDef, Mv.mSeq, Mv.mSet, Mv.mRet, Mv.mRetN, Mv.mIfS, Mv.mVar, Mv.mC, Mv.mBin, Mv.mChain, Mv.mCall, Mv.mDo, Mv.mCons, Mv.mNil, Mv.mAndV, Mv.mOrV, Mv.mNotV, Mv.mAsB, Mv.mAndT, Mv.mOrT, Mv.mNotT, Mv.mIf, Mv.mTup, Mv.mLst, Mv.mNext, Mv.mBad, Mv.mDrop, Mv.mPar, Mv.mAsg, Mv.mStore, Mv.mNeg, Mv.fNeg, Mv.mYes, Mv.mNoP, Mv.mPart, Mv.mSl, Mv.fI, Mv.fAdd, Mv.fSub, Mv.fMul, Mv.fMod, Mv.fDiv, Mv.fPow, Mv.fLt, Mv.fLe, Mv.fGt, Mv.fGe, Mv.yes2, Mv.fIsN, Mv.fNotN, Mv.isNon, Mv.fIx, Mv.items_tup, Mv.items_new, Mv.list_new, Mv.lstOf_new, Mv.fEq_int, Mv.fNe_int, Mv.fLen_tup, Mv.fMax2, Mv.fMin2, Mv.fInt, Mv.fAbs, Mv.mIsi, Mv.isT, Mv.gN, Mv.gT, Mv.setAll, Mv.wipeM, Mv.R.bind_ok, Mv.R.bind_bad, Mv.R.noX_ok, Mv.R.andS_ok, Mv.R.andS_bad, Mv.S.andS_nx, Mv.S.andS_rt, Mv.S.andS_bad, Mv.S.andS_bk, Mv.S.andS_ct, List.map_cons, List.map_nil, List.cons_append, List.nil_append, List.append_nil, List.replicate_succ, List.replicate_zero, List.length_cons, List.length_nil, List.set_cons_zero, List.set_cons_succ, List.getElem?_cons_zero, List.getElem?_cons_succ, List.getElem?_nil, Nat.reduceAdd, Nat.reduceSub, Nat.reduceEqDiff, Nat.reduceLeDiff, Nat.zero_add, if_true, if_false, Bool.not_true, Bool.not_false, Bool.false_eq_true, decide_true, decide_false, ite_true, ite_false, Option.some.injEq, reduceIte, mFor, mRng1, r5]
    refine for_ind (it := itR 0 1 (5 : Int).toNat) (xs := ivs (prog 0 1 5)) (P := fun z => ∃ env h', z = .nx env h')
      (fun i env h' => HasD h' n ∧ ∃ y2 y3 y4 y5 y6 y7 y8 y9 y10, env = Ev h.length n y2 y3 y4 y5 y6 y7 y8 y9 y10)
      (fun i env h' _ => itR_nx _ _ _ i h') ?_ ?_ fuel 0 _ _ ⟨⟨D, hD, en⟩, _, _, _, _, _, _, _, _, _, rfl⟩ (Nat.zero_le _) (by have := fuel_ge; rw [ints_length, prog_length]; omega)
    · rintro env h' _
      exact ⟨_, _, rfl⟩
    · rintro i x env h' hx ⟨d, y2, y3, y4, y5, y6, y7, y8, y9, y10, rfl⟩
      refine ⟨Ev h.length n (some x) y3 y4 y5 y6 y7 y8 y9 y10, rfl, ?_⟩
      obtain ⟨P, m, h1, t1, k, m0, m5, d1, _⟩ := bd3_1_ok (s := h.length) d (some x) y3 y4 y5 y6 y7 y8 y9 y10
      have t2 := bd3_2_ok (h := h1) (s := h.length) (n := n) k (some x) (some (.int m)) y5 y6 y7 y8 y9 y10
      have e2 : HasP (h1 ++ [promO P]) h1.length P := look_new h1 _
      have t3 := bd3_3_ok (s := h.length) (n := n) k e2 (some x) (some (.int m)) y6 y7 y8 y9 y10
      obtain ⟨g4, t4⟩ := bd3_4_ok (s := h.length) (n := n) k e2 (some x) (some (.int m)) y6 y7 y8 y9 y10
      obtain ⟨g5, t5⟩ := bd3_5_ok (s := h.length) (n := n) k (e2.app (g := g4)) (some x) (some (.int m)) y6 y7 y8 y9 y10
      obtain ⟨g6, t6⟩ := bd3_6_ok (s := h.length) (n := n) k ((e2.app (g := g4)).app (g := g5)) m0 m5 (some x) y6 y7 y8 y9 y10
      obtain ⟨z6, z7, z8, z9, z10, h7, t7, d7⟩ := bd3_7_ok (s := h.length) k (((e2.app (g := g4)).app (g := g5)).app (g := g6)) (d1.app.app.app.app) m0 m5 (some x) y6 y7 y8 y9 y10
      rw [seq_nx t1, seq_nx t2, seq_nx t3, seq_nx t4, seq_nx t5, seq_nx t6, t7]
      exact ⟨d7, _, _, _, _, _, _, _, _, _, rfl⟩
  obtain ⟨env, h', q3⟩ := q3
  have q4 : bd4 env h' = .rt (.bl true) h' := by
    unfold bd4
    simp only [Mv.mDef, Mv.mSeq, Mv.mSet, Mv.mRet, Mv.mRetN, Mv.mIfS, Mv.mVar, Mv.mC, Mv.mBin, Mv.mChain, Mv.mCall, Mv.mDo, Mv.mCons, Mv.mNil, Mv.mAndV, Mv.mOrV, Mv.mNotV, Mv.mAsB, Mv.mAndT, Mv.mOrT, Mv.mNotT, Mv.mIf, Mv.mTup, Mv.mLst, Mv.mNext, Mv.mBad, Mv.mDrop, Mv.mPar, Mv.mAsg, Mv.mStore, Mv.mNeg, Mv.fNeg, Mv.mYes, Mv.mNoP, Mv.mPart, Mv.mSl, Mv.fI, Mv.fAdd, Mv.fSub, Mv.fMul, Mv.fMod, Mv.fDiv, Mv.fPow, Mv.fLt, Mv.fLe, Mv.fGt, Mv.fGe, Mv.yes2, Mv.fIsN, Mv.fNotN, Mv.isNon, Mv.fIx, Mv.items_tup, Mv.items_new, Mv.list_new, Mv.lstOf_new, Mv.fEq_int, Mv.fNe_int, Mv.fLen_tup, Mv.fMax2, Mv.fMin2, Mv.fInt, Mv.fAbs, Mv.mIsi, Mv.isT, Mv.gN, Mv.gT, Mv.setAll, Mv.wipeM, Mv.R.bind_ok, Mv.R.bind_bad, Mv.R.noX_ok, Mv.R.andS_ok, Mv.R.andS_bad, Mv.S.andS_nx, Mv.S.andS_rt, Mv.S.andS_bad, Mv.S.andS_bk, Mv.S.andS_ct, List.map_cons, List.map_nil, List.cons_append, List.nil_append, List.append_nil, List.replicate_succ, List.replicate_zero, List.length_cons, List.length_nil, List.set_cons_zero, List.set_cons_succ, List.getElem?_cons_zero, List.getElem?_cons_succ, List.getElem?_nil, Nat.reduceAdd, Nat.reduceSub, Nat.reduceEqDiff, Nat.reduceLeDiff, Nat.zero_add, if_true, if_false, Bool.not_true, Bool.not_false, Bool.false_eq_true, decide_true, decide_false, ite_true, ite_false, Option.some.injEq, reduceIte]
  refine ⟨h', ?_⟩
  unfold mDef
  rw [if_pos (show [MV.ref s].length = 1 from rfl)]
  show (match (mSeq bd1 (mSeq bd2 (mSeq bd3 bd4))) (some (.ref s) :: List.replicate 10 none) h with
    | .nx _ h' => R.ok MV.non h' | .rt v h' => .ok v h' | .exc x _ h' => .exc x h' | _ => .bad) = _
  rw [seq_nx q1, seq_nx q2, seq_nx q3, q4]
end Mv

set_option maxHeartbeats 4000000
namespace Mv
open PySem PySem.Spec L2
open PyProof.Rows hiding St
def top (i : Nat) : Stmt := PySem.Challenge.pw_thinsnaps_k01_whole_states.main.body.getD i (.Pass ⟨0, 0, 0, 0⟩)
/-- the built-in names that are read, the constants of the module, the classes -/
structure Glb (K : PySem.W.Frag) (mg : Str → Option Value) : Prop where
  b_abs : mg "abs" = none
  b_all : mg "all" = none
  b_bool : mg "bool" = none
  b_enumerate : mg "enumerate" = none
  b_int : mg "int" = none
  b_isinstance : mg "isinstance" = none
  b_len : mg "len" = none
  b_list : mg "list" = none
  b_range : mg "range" = none
  b_sorted : mg "sorted" = none
  b_sum : mg "sum" = none
  b_tuple : mg "tuple" = none
  b_zip : mg "zip" = none
  c_MAX_BASE : ∃ t, mg "MAX_BASE" = some (.int 3 t)
  c_MAX_HORIZON : ∃ t, mg "MAX_HORIZON" = some (.int 9 t)
  c_MAX_MOST : ∃ t, mg "MAX_MOST" = some (.int 5 t)
  c_MAX_PARTS : ∃ t, mg "MAX_PARTS" = some (.int 4 t)
  c_MAX_REACH : ∃ t, mg "MAX_REACH" = some (.int 6 t)
  f_far : FldF ⟨K, mg⟩ "far" [(0, 0)]
  f_least : FldF ⟨K, mg⟩ "least" [(0, 1)]
  f_many : FldF ⟨K, mg⟩ "many" [(0, 3)]
  f_parts : FldF ⟨K, mg⟩ "parts" [(0, 2)]
  i_Promise : IsiF ⟨K, mg⟩ "Promise" [(0, true)]
  ne_Promise : NeC ⟨K, mg⟩ 0
  q_Promise : NotSub ⟨K, mg⟩ 0 [0]
section
variable {P : Program} {w : World} {K : PySem.W.Frag} {mg : Str → Option Value} {base : Heap}
abbrev s_is_integer : Stmt := top 12
theorem sc_is_integer : FnScope ["value", "low", "high"] ["value", "low", "high"] (defScope s_is_integer) := ⟨rfl, rfl, rfl, by decide +kernel, rfl, by decide +kernel, by decide +kernel⟩
theorem w_is_integer {f : Addr} {fd : FuncData} (B : Glb K mg) (F : Fun K "is_integer" "is_integer" s_is_integer f fd) (hm : mg "is_integer" = some (.ref f)) : Def P w K mg base 1 "is_integer" 3 (F_is_integer) := by
  refine ⟨f, fd, ["value", "low", "high"], def_ok F sc_is_integer fun cdv A outer s H E hr => ?_, hm, F.kp, F.binds fun _ _ _ _ _ _ us hl => match us, hl with | [_, _, _], _ => rfl⟩
  exact ss_one (ss_ret (se_and (se_isi .int rfl B.b_isinstance rfl B.b_int (by decide +kernel) (se_var 0)) (se_and (se_not (se_isi .bool rfl B.b_isinstance rfl B.b_bool (by decide +kernel) (se_var 0))) (se_one (se_chain op_le os_le op_le os_le (se_var 1) (se_var 0) (se_var 2))))))
abbrev s_is_share : Stmt := top 13
theorem sc_is_share : FnScope ["value"] ["value"] (defScope s_is_share) := ⟨rfl, rfl, rfl, by decide +kernel, rfl, by decide +kernel, by decide +kernel⟩
theorem w_is_share {G_is_integer : List MV → MH → R MV} {f : Addr} {fd : FuncData} (B : Glb K mg) (D_is_integer : Def P w K mg base 1 "is_integer" 3 G_is_integer) (F : Fun K "is_share" "is_share" s_is_share f fd) (hm : mg "is_share" = some (.ref f)) : Def P w K mg base 2 "is_share" 1 (F_is_share G_is_integer) := by
  refine ⟨f, fd, ["value"], def_ok F sc_is_share fun cdv A outer s H E hr => ?_, hm, F.kp, F.binds fun _ _ _ _ _ _ us hl => match us, hl with | [_], _ => rfl⟩
  exact ss_cons (ss_if (st_w (sw_or (st_not (st_val (se_isi .tuple rfl B.b_isinstance rfl B.b_tuple (by decide +kernel) (se_var 0)))) (sw_or1 (st_cmp (op_neD hr.units) os_ne (se_callB call_lenU cs_len rfl B.b_len boot_len (sa_cons (se_var 0) (sa_nil))) (se_int))))) (ss_one (ss_ret (se_bl))) (ss_nil))
    (ss_one (ss_ret (se_and (se_do D_is_integer hr rfl (sa_cons (se_ix (se_var 0) (se_int)) (sa_cons (se_int) (sa_cons (se_globI rfl B.c_MAX_PARTS) (sa_nil))))) (se_one (se_do D_is_integer hr rfl (sa_cons (se_ix (se_var 0) (se_int)) (sa_cons (se_int) (sa_cons (se_globI rfl B.c_MAX_PARTS) (sa_nil)))))))))
abbrev s_Promise_init : Stmt := inClass (top 14) 0
theorem sc_Promise_init : FnScope ["self", "reach", "base", "share", "copies"] ["self", "reach", "base", "share", "copies"] (defScope s_Promise_init) := ⟨rfl, rfl, rfl, by decide +kernel, rfl, by decide +kernel, by decide +kernel⟩
theorem w_Promise_init {G_is_integer : List MV → MH → R MV} {G_is_share : List MV → MH → R MV} {f C : Addr} {fd : FuncData} {fl : List Str} (B : Glb K mg) (D_is_integer : Def P w K mg base 1 "is_integer" 3 G_is_integer) (D_is_share : Def P w K mg base 2 "is_share" 1 G_is_share) (F : Fun K "__init__" "Promise.__init__" s_Promise_init f fd) (ht : tab[0]? = some (("Promise" : Str), fl)) (hm : mg "Promise" = some (.ref C)) (cl : Cls K C) (M : Mk K C f) : KDef P w K mg base 3 0 3 ["share", "copies"] (F_Promise_init G_is_integer G_is_share) := by
  obtain ⟨oc, od, kV, doc, pm, an, cdv0, ct, osl, rfl, _⟩ := F.ex
  refine ⟨"Promise", fl, C, f, _, ["self", "reach", "base", "share", "copies"], ht, hm, cl, M, def_ok F sc_Promise_init fun cdv A outer s H E hr => ?_, fun z => (by cases z), ⟨fun s us ws _ h1 h2 => match us, ws, h1, h2 with | [_, _, _], [_, _], _, _ => .of_eq rfl, fun r1 r2 => Vals.append r1 r2⟩⟩
  exact ss_cons (ss_if (st_not (st_val (se_do D_is_integer hr rfl (sa_cons (se_var 1) (sa_cons (se_int) (sa_cons (se_globI rfl B.c_MAX_REACH) (sa_nil))))))) (ss_one (ss_never)) (ss_nil))
    (ss_cons (ss_if (st_not (st_val (se_do D_is_integer hr rfl (sa_cons (se_var 2) (sa_cons (se_int) (sa_cons (se_globI rfl B.c_MAX_BASE) (sa_nil))))))) (ss_one (ss_never)) (ss_nil))
    (ss_cons (ss_if (st_w (sw_or (st_not (st_val (se_do D_is_share hr rfl (sa_cons (se_var 3) (sa_nil))))) (sw_or1 (st_cmp op_gt os_gt (se_op op_addU os_add (se_op op_addU os_add (se_var 1) (se_var 2)) (se_op op_fdivW os_div (se_op op_mulB os_mul (se_var 1) (se_ix (se_var 3) (se_int))) (se_ix (se_var 3) (se_int)))) (se_globI rfl B.c_MAX_HORIZON))))) (ss_one (ss_never)) (ss_nil))
    (ss_cons (ss_if (st_not (st_val (se_do D_is_integer hr rfl (sa_cons (se_var 4) (sa_cons (se_int) (sa_cons (se_int) (sa_nil))))))) (ss_one (ss_never)) (ss_nil))
    (ss_cons (ss_fld B.f_far (se_var 0) (se_var 1))
    (ss_cons (ss_fld B.f_least (se_var 0) (se_var 2))
    (ss_cons (ss_fld B.f_parts (se_var 0) (se_var 3))
    (ss_one (ss_fld B.f_many (se_var 0) (se_var 4)))))))))
abbrev s_Promise_reach : Stmt := inClass (top 14) 1
theorem sc_Promise_reach : FnScope ["self"] ["self"] (defScope s_Promise_reach) := ⟨rfl, rfl, rfl, by decide +kernel, rfl, by decide +kernel, by decide +kernel⟩
theorem w_Promise_reach {f C : Addr} {fd : FuncData} {fl : List Str} (B : Glb K mg) (F : Fun K "reach" "Promise.reach" s_Promise_reach f fd) (ht : tab[0]? = some (("Promise" : Str), fl)) (hm : mg "Promise" = some (.ref C)) (cl : Cls K C) {p : Addr} (M : PropOf K C "reach" p f) : PDef P w K mg base 1 0 "reach" (F_Promise_reach) := by
  refine ⟨"Promise", fl, C, p, f, fd, ["self"], ht, hm, cl, M, def_ok F sc_Promise_reach fun cdv A outer s H E hr => ?_, F.binds fun _ _ _ _ _ _ us hl => match us, hl with | [_], _ => rfl⟩
  exact ss_one (ss_ret (se_fld B.f_far (se_var 0)))
abbrev s_Promise_base : Stmt := inClass (top 14) 2
theorem sc_Promise_base : FnScope ["self"] ["self"] (defScope s_Promise_base) := ⟨rfl, rfl, rfl, by decide +kernel, rfl, by decide +kernel, by decide +kernel⟩
theorem w_Promise_base {f C : Addr} {fd : FuncData} {fl : List Str} (B : Glb K mg) (F : Fun K "base" "Promise.base" s_Promise_base f fd) (ht : tab[0]? = some (("Promise" : Str), fl)) (hm : mg "Promise" = some (.ref C)) (cl : Cls K C) {p : Addr} (M : PropOf K C "base" p f) : PDef P w K mg base 1 0 "base" (F_Promise_base) := by
  refine ⟨"Promise", fl, C, p, f, fd, ["self"], ht, hm, cl, M, def_ok F sc_Promise_base fun cdv A outer s H E hr => ?_, F.binds fun _ _ _ _ _ _ us hl => match us, hl with | [_], _ => rfl⟩
  exact ss_one (ss_ret (se_fld B.f_least (se_var 0)))
abbrev s_Promise_share : Stmt := inClass (top 14) 3
theorem sc_Promise_share : FnScope ["self"] ["self"] (defScope s_Promise_share) := ⟨rfl, rfl, rfl, by decide +kernel, rfl, by decide +kernel, by decide +kernel⟩
theorem w_Promise_share {f C : Addr} {fd : FuncData} {fl : List Str} (B : Glb K mg) (F : Fun K "share" "Promise.share" s_Promise_share f fd) (ht : tab[0]? = some (("Promise" : Str), fl)) (hm : mg "Promise" = some (.ref C)) (cl : Cls K C) {p : Addr} (M : PropOf K C "share" p f) : PDef P w K mg base 1 0 "share" (F_Promise_share) := by
  refine ⟨"Promise", fl, C, p, f, fd, ["self"], ht, hm, cl, M, def_ok F sc_Promise_share fun cdv A outer s H E hr => ?_, F.binds fun _ _ _ _ _ _ us hl => match us, hl with | [_], _ => rfl⟩
  exact ss_one (ss_ret (se_fld B.f_parts (se_var 0)))
abbrev s_Promise_copies : Stmt := inClass (top 14) 4
theorem sc_Promise_copies : FnScope ["self"] ["self"] (defScope s_Promise_copies) := ⟨rfl, rfl, rfl, by decide +kernel, rfl, by decide +kernel, by decide +kernel⟩
theorem w_Promise_copies {f C : Addr} {fd : FuncData} {fl : List Str} (B : Glb K mg) (F : Fun K "copies" "Promise.copies" s_Promise_copies f fd) (ht : tab[0]? = some (("Promise" : Str), fl)) (hm : mg "Promise" = some (.ref C)) (cl : Cls K C) {p : Addr} (M : PropOf K C "copies" p f) : PDef P w K mg base 1 0 "copies" (F_Promise_copies) := by
  refine ⟨"Promise", fl, C, p, f, fd, ["self"], ht, hm, cl, M, def_ok F sc_Promise_copies fun cdv A outer s H E hr => ?_, F.binds fun _ _ _ _ _ _ us hl => match us, hl with | [_], _ => rfl⟩
  exact ss_one (ss_ret (se_fld B.f_many (se_var 0)))
abbrev s_Promise_all_parts : Stmt := inClass (top 14) 6
theorem sc_Promise_all_parts : FnScope ["self"] ["self"] (defScope s_Promise_all_parts) := ⟨rfl, rfl, rfl, by decide +kernel, rfl, by decide +kernel, by decide +kernel⟩
theorem w_Promise_all_parts {f C : Addr} {fd : FuncData} {fl : List Str} (B : Glb K mg) (F : Fun K "all_parts" "Promise.all_parts" s_Promise_all_parts f fd) (ht : tab[0]? = some (("Promise" : Str), fl)) (hm : mg "Promise" = some (.ref C)) (cl : Cls K C) (M : Meth K C "all_parts" f) (hn : ("all_parts" : Str) ∉ fl) : MDef P w K mg base 1 0 "all_parts" 1 (F_Promise_all_parts) := by
  refine ⟨"Promise", fl, C, f, fd, ["self"], ht, hm, cl, M, def_ok F sc_Promise_all_parts fun cdv A outer s H E hr => ?_, F.binds fun _ _ _ _ _ _ us hl => match us, hl with | [_], _ => rfl, hn⟩
  exact ss_one (ss_ret (se_lst (sa_cons (se_fld B.f_far (se_var 0)) (sa_cons (se_fld B.f_least (se_var 0)) (sa_cons (se_fld B.f_parts (se_var 0)) (sa_cons (se_fld B.f_many (se_var 0)) (sa_nil)))))))
abbrev s_Promise_eq : Stmt := inClass (top 14) 5
theorem sc_Promise_eq : FnScope ["self", "other"] ["self", "other"] (defScope s_Promise_eq) := ⟨rfl, rfl, rfl, by decide +kernel, rfl, by decide +kernel, by decide +kernel⟩
theorem w_Promise_eq {G_Promise_all_parts : List MV → MH → R MV} {f C : Addr} {fd : FuncData} {fl : List Str} (B : Glb K mg) (D_Promise_all_parts : MDef P w K mg base 1 0 "all_parts" 1 G_Promise_all_parts) (F : Fun K "__eq__" "Promise.__eq__" s_Promise_eq f fd) (ht : tab[0]? = some (("Promise" : Str), fl)) (hm : mg "Promise" = some (.ref C)) (cl : Cls K C) (M : Meth K C "__eq__" f) (hn : ("__eq__" : Str) ∉ fl) : MDef P w K mg base 2 0 "__eq__" 2 (F_Promise_eq G_Promise_all_parts) := by
  refine ⟨"Promise", fl, C, f, fd, ["self", "other"], ht, hm, cl, M, def_ok F sc_Promise_eq fun cdv A outer s H E hr => ?_, F.binds fun _ _ _ _ _ _ us hl => match us, hl with | [_, _], _ => rfl, hn⟩
  exact ss_one (ss_ret (se_and (se_isC B.i_Promise rfl B.b_isinstance rfl (se_var 1)) (se_one (se_cmp (op_eqD hr.units) os_eq (se_meth01 D_Promise_all_parts hr (se_var 0)) (se_meth01 D_Promise_all_parts hr (se_var 1))))))
abbrev s_slack_at : Stmt := top 15
theorem sc_slack_at : FnScope ["promise", "age"] ["promise", "age"] (defScope s_slack_at) := ⟨rfl, rfl, rfl, by decide +kernel, rfl, by decide +kernel, by decide +kernel⟩
theorem w_slack_at {f : Addr} {fd : FuncData} (B : Glb K mg) (F : Fun K "slack_at" "slack_at" s_slack_at f fd) (hm : mg "slack_at" = some (.ref f)) : Def P w K mg base 1 "slack_at" 2 (F_slack_at) := by
  refine ⟨f, fd, ["promise", "age"], def_ok F sc_slack_at fun cdv A outer s H E hr => ?_, hm, F.kp, F.binds fun _ _ _ _ _ _ us hl => match us, hl with | [_, _], _ => rfl⟩
  exact ss_one (ss_ret (se_op op_addU os_add (se_fld B.f_least (se_var 0)) (se_op op_fdivW os_div (se_op op_mulB os_mul (se_var 1) (se_ix (se_fld B.f_parts (se_var 0)) (se_int))) (se_ix (se_fld B.f_parts (se_var 0)) (se_int)))))
abbrev s_Promise_slack : Stmt := inClass (top 14) 7
theorem sc_Promise_slack : FnScope ["self", "age"] ["self", "age"] (defScope s_Promise_slack) := ⟨rfl, rfl, rfl, by decide +kernel, rfl, by decide +kernel, by decide +kernel⟩
theorem w_Promise_slack {G_is_integer : List MV → MH → R MV} {G_slack_at : List MV → MH → R MV} {f C : Addr} {fd : FuncData} {fl : List Str} (B : Glb K mg) (D_is_integer : Def P w K mg base 1 "is_integer" 3 G_is_integer) (D_slack_at : Def P w K mg base 1 "slack_at" 2 G_slack_at) (F : Fun K "slack" "Promise.slack" s_Promise_slack f fd) (ht : tab[0]? = some (("Promise" : Str), fl)) (hm : mg "Promise" = some (.ref C)) (cl : Cls K C) (M : Meth K C "slack" f) (hn : ("slack" : Str) ∉ fl) : MDef P w K mg base 2 0 "slack" 2 (F_Promise_slack G_is_integer G_slack_at) := by
  refine ⟨"Promise", fl, C, f, fd, ["self", "age"], ht, hm, cl, M, def_ok F sc_Promise_slack fun cdv A outer s H E hr => ?_, F.binds fun _ _ _ _ _ _ us hl => match us, hl with | [_, _], _ => rfl, hn⟩
  exact ss_cons (ss_if (st_not (st_val (se_do D_is_integer hr rfl (sa_cons (se_var 1) (sa_cons (se_int) (sa_cons (se_fld B.f_far (se_var 0)) (sa_nil))))))) (ss_one (ss_never)) (ss_nil))
    (ss_one (ss_ret (se_do D_slack_at hr rfl (sa_cons (se_var 0) (sa_cons (se_var 1) (sa_nil))))))
abbrev s_horizon_of : Stmt := top 16
theorem sc_horizon_of : FnScope ["promise"] ["promise"] (defScope s_horizon_of) := ⟨rfl, rfl, rfl, by decide +kernel, rfl, by decide +kernel, by decide +kernel⟩
theorem w_horizon_of {G_slack_at : List MV → MH → R MV} {f : Addr} {fd : FuncData} (B : Glb K mg) (D_slack_at : Def P w K mg base 1 "slack_at" 2 G_slack_at) (F : Fun K "horizon_of" "horizon_of" s_horizon_of f fd) (hm : mg "horizon_of" = some (.ref f)) : Def P w K mg base 2 "horizon_of" 1 (F_horizon_of G_slack_at) := by
  refine ⟨f, fd, ["promise"], def_ok F sc_horizon_of fun cdv A outer s H E hr => ?_, hm, F.kp, F.binds fun _ _ _ _ _ _ us hl => match us, hl with | [_], _ => rfl⟩
  exact ss_one (ss_ret (se_op op_addU os_add (se_fld B.f_far (se_var 0)) (se_do D_slack_at hr rfl (sa_cons (se_var 0) (sa_cons (se_fld B.f_far (se_var 0)) (sa_nil))))))
abbrev s_Promise_horizon : Stmt := inClass (top 14) 8
theorem sc_Promise_horizon : FnScope ["self"] ["self"] (defScope s_Promise_horizon) := ⟨rfl, rfl, rfl, by decide +kernel, rfl, by decide +kernel, by decide +kernel⟩
theorem w_Promise_horizon {G_horizon_of : List MV → MH → R MV} {f C : Addr} {fd : FuncData} {fl : List Str} (B : Glb K mg) (D_horizon_of : Def P w K mg base 2 "horizon_of" 1 G_horizon_of) (F : Fun K "horizon" "Promise.horizon" s_Promise_horizon f fd) (ht : tab[0]? = some (("Promise" : Str), fl)) (hm : mg "Promise" = some (.ref C)) (cl : Cls K C) (M : Meth K C "horizon" f) (hn : ("horizon" : Str) ∉ fl) : MDef P w K mg base 3 0 "horizon" 1 (F_Promise_horizon G_horizon_of) := by
  refine ⟨"Promise", fl, C, f, fd, ["self"], ht, hm, cl, M, def_ok F sc_Promise_horizon fun cdv A outer s H E hr => ?_, F.binds fun _ _ _ _ _ _ us hl => match us, hl with | [_], _ => rfl, hn⟩
  exact ss_one (ss_ret (se_do D_horizon_of hr rfl (sa_cons (se_var 0) (sa_nil))))
abbrev s_check_promise : Stmt := top 17
theorem sc_check_promise : FnScope ["promise"] ["promise"] (defScope s_check_promise) := ⟨rfl, rfl, rfl, by decide +kernel, rfl, by decide +kernel, by decide +kernel⟩
theorem w_check_promise {f : Addr} {fd : FuncData} (B : Glb K mg) (F : Fun K "check_promise" "check_promise" s_check_promise f fd) (hm : mg "check_promise" = some (.ref f)) : Def P w K mg base 1 "check_promise" 1 (F_check_promise) := by
  refine ⟨f, fd, ["promise"], def_ok F sc_check_promise fun cdv A outer s H E hr => ?_, hm, F.kp, F.binds fun _ _ _ _ _ _ us hl => match us, hl with | [_], _ => rfl⟩
  exact ss_one (ss_if (st_not (st_val (se_isC B.i_Promise rfl B.b_isinstance rfl (se_var 0)))) (ss_one (ss_never)) (ss_nil))
abbrev s_is_state : Stmt := top 20
theorem sc_is_state : FnScope ["promise", "value", "one", "other", "age"] ["promise", "value"] (defScope s_is_state) := ⟨rfl, rfl, rfl, by decide +kernel, rfl, by decide +kernel, by decide +kernel⟩
theorem w_is_state {G_horizon_of : List MV → MH → R MV} {G_is_integer : List MV → MH → R MV} {f : Addr} {fd : FuncData} (B : Glb K mg) (D_horizon_of : Def P w K mg base 2 "horizon_of" 1 G_horizon_of) (D_is_integer : Def P w K mg base 1 "is_integer" 3 G_is_integer) (F : Fun K "is_state" "is_state" s_is_state f fd) (hm : mg "is_state" = some (.ref f)) : Def P w K mg base 3 "is_state" 2 (F_is_state G_horizon_of G_is_integer) := by
  refine ⟨f, fd, ["promise", "value"], def_ok F sc_is_state fun cdv A outer s H E hr => ?_, hm, F.kp, F.binds fun _ _ _ _ _ _ us hl => match us, hl with | [_, _], _ => rfl⟩
  exact ss_cons (ss_if (st_w (sw_or (st_not (st_val (se_isi .tuple rfl B.b_isinstance rfl B.b_tuple (by decide +kernel) (se_var 1)))) (sw_or1 (st_not (st_val (se_callB (cr_all rfl) cs_all rfl B.b_all boot_all (sa_cons (se_lc rfl sc_is_state.nd (own := [("age", 4)]) (si_seq (se_var 1)) (blkOk_by (by kernel_rfl)) (fun _ _ _ _ _ => pg_name (i := 4) sc_is_state.nd rfl (by first | exact Or.inl rfl | exact Or.inr rfl)) (gok_N (i := 4) (by decide)) (fun _ _ _ _ _ => sts_nil) (fun _ _ _ _ _ => se_do D_is_integer hr rfl (sa_cons (se_var 4) (sa_cons (se_int) (sa_cons (se_do D_horizon_of hr rfl (sa_cons (se_var 0) (sa_nil))) (sa_nil)))))) (sa_nil)))))))) (ss_one (ss_ret (se_bl))) (ss_nil))
    (ss_one (ss_ret (se_callB (cr_all rfl) cs_all rfl B.b_all boot_all (sa_cons (se_lc rfl sc_is_state.nd (own := [("one", 2), ("other", 3)]) (si_zipV rfl B.b_zip (sa_cons (se_var 1) (sa_cons (se_slice (se_var 1) (so_some (se_int)) (so_none)) (sa_nil)))) (blkOk_by (by kernel_rfl)) (fun _ _ _ _ _ => pg_tup rfl (pgs_cons (pg_name (i := 2) sc_is_state.nd rfl (by first | exact Or.inl rfl | exact Or.inr rfl)) (pgs_cons (pg_name (i := 3) sc_is_state.nd rfl (by first | exact Or.inl rfl | exact Or.inr rfl)) (pgs_nil)))) (gok_T (is := [2, 3]) (by decide) rfl) (fun _ _ _ _ _ => sts_nil) (fun _ _ _ _ _ => se_cmp op_lt os_lt (se_var 2) (se_var 3))) (sa_nil)))))
abbrev s_check_state : Stmt := top 21
theorem sc_check_state : FnScope ["promise", "state"] ["promise", "state"] (defScope s_check_state) := ⟨rfl, rfl, rfl, by decide +kernel, rfl, by decide +kernel, by decide +kernel⟩
theorem w_check_state {G_check_promise : List MV → MH → R MV} {G_is_state : List MV → MH → R MV} {f : Addr} {fd : FuncData} (B : Glb K mg) (D_check_promise : Def P w K mg base 1 "check_promise" 1 G_check_promise) (D_is_state : Def P w K mg base 3 "is_state" 2 G_is_state) (F : Fun K "check_state" "check_state" s_check_state f fd) (hm : mg "check_state" = some (.ref f)) : Def P w K mg base 4 "check_state" 2 (F_check_state G_check_promise G_is_state) := by
  refine ⟨f, fd, ["promise", "state"], def_ok F sc_check_state fun cdv A outer s H E hr => ?_, hm, F.kp, F.binds fun _ _ _ _ _ _ us hl => match us, hl with | [_, _], _ => rfl⟩
  exact ss_cons (ss_expr (se_do D_check_promise hr rfl (sa_cons (se_var 0) (sa_nil))))
    (ss_one (ss_if (st_not (st_val (se_do D_is_state hr rfl (sa_cons (se_var 0) (sa_cons (se_var 1) (sa_nil)))))) (ss_one (ss_never)) (ss_nil)))
abbrev s_check_most : Stmt := top 22
theorem sc_check_most : FnScope ["promise", "most"] ["promise", "most"] (defScope s_check_most) := ⟨rfl, rfl, rfl, by decide +kernel, rfl, by decide +kernel, by decide +kernel⟩
theorem w_check_most {G_check_promise : List MV → MH → R MV} {G_is_integer : List MV → MH → R MV} {f : Addr} {fd : FuncData} (B : Glb K mg) (D_check_promise : Def P w K mg base 1 "check_promise" 1 G_check_promise) (D_is_integer : Def P w K mg base 1 "is_integer" 3 G_is_integer) (F : Fun K "check_most" "check_most" s_check_most f fd) (hm : mg "check_most" = some (.ref f)) : Def P w K mg base 2 "check_most" 2 (F_check_most G_check_promise G_is_integer) := by
  refine ⟨f, fd, ["promise", "most"], def_ok F sc_check_most fun cdv A outer s H E hr => ?_, hm, F.kp, F.binds fun _ _ _ _ _ _ us hl => match us, hl with | [_, _], _ => rfl⟩
  exact ss_cons (ss_expr (se_do D_check_promise hr rfl (sa_cons (se_var 0) (sa_nil))))
    (ss_one (ss_if (st_not (st_val (se_do D_is_integer hr rfl (sa_cons (se_var 1) (sa_cons (se_int) (sa_cons (se_globI rfl B.c_MAX_MOST) (sa_nil))))))) (ss_one (ss_never)) (ss_nil)))
abbrev s_holds_for : Stmt := top 23
theorem sc_holds_for : FnScope ["promise", "state", "age", "able", "one"] ["promise", "state", "age"] (defScope s_holds_for) := ⟨rfl, rfl, rfl, by decide +kernel, rfl, by decide +kernel, by decide +kernel⟩
theorem w_holds_for {G_slack_at : List MV → MH → R MV} {f : Addr} {fd : FuncData} (B : Glb K mg) (D_slack_at : Def P w K mg base 1 "slack_at" 2 G_slack_at) (F : Fun K "holds_for" "holds_for" s_holds_for f fd) (hm : mg "holds_for" = some (.ref f)) : Def P w K mg base 2 "holds_for" 3 (F_holds_for G_slack_at) := by
  refine ⟨f, fd, ["promise", "state", "age"], def_ok F sc_holds_for fun cdv A outer s H E hr => ?_, hm, F.kp, F.binds fun _ _ _ _ _ _ us hl => match us, hl with | [_, _, _], _ => rfl⟩
  exact ss_cons (ss_setLc (i := 3) rfl sc_holds_for.nd rfl rfl (sw_true rfl rfl rfl (by decide +kernel)) (own := [("one", 4)]) (si_seq (se_var 1)) (blkOk_by (by kernel_rfl)) (fun _ _ _ _ _ => pg_name (i := 4) sc_holds_for.nd rfl (by first | exact Or.inl rfl | exact Or.inr rfl)) (gok_N (i := 4) (by decide)) (fun _ _ _ _ _ => sts_one (st_chain op_le os_le op_le os_le (se_var 2) (se_var 4) (se_op op_addU os_add (se_var 2) (se_do D_slack_at hr rfl (sa_cons (se_var 0) (sa_cons (se_var 2) (sa_nil))))))) (fun _ _ _ _ _ => se_var 4))
    (ss_one (ss_ret (se_cmp op_ge os_ge (se_callB call_lenU cs_len rfl B.b_len boot_len (sa_cons (se_var 3) (sa_nil))) (se_fld B.f_many (se_var 0)))))
abbrev s_is_good : Stmt := top 24
theorem sc_is_good : FnScope ["promise", "state", "age"] ["promise", "state"] (defScope s_is_good) := ⟨rfl, rfl, rfl, by decide +kernel, rfl, by decide +kernel, by decide +kernel⟩
theorem w_is_good {G_holds_for : List MV → MH → R MV} {f : Addr} {fd : FuncData} (B : Glb K mg) (D_holds_for : Def P w K mg base 2 "holds_for" 3 G_holds_for) (F : Fun K "is_good" "is_good" s_is_good f fd) (hm : mg "is_good" = some (.ref f)) : Def P w K mg base 3 "is_good" 2 (F_is_good G_holds_for) := by
  refine ⟨f, fd, ["promise", "state"], def_ok F sc_is_good fun cdv A outer s H E hr => ?_, hm, F.kp, F.binds fun _ _ _ _ _ _ us hl => match us, hl with | [_, _], _ => rfl⟩
  exact ss_one (ss_ret (se_callB (cr_all rfl) cs_all rfl B.b_all boot_all (sa_cons (se_lc rfl sc_is_good.nd (own := [("age", 2)]) (si_range1 rfl B.b_range (sa_cons (se_op op_addU os_add (se_fld B.f_far (se_var 0)) (se_int)) (sa_nil))) (blkOk_by (by kernel_rfl)) (fun _ _ _ _ _ => pg_name (i := 2) sc_is_good.nd rfl (by first | exact Or.inl rfl | exact Or.inr rfl)) (gok_N (i := 2) (by decide)) (fun _ _ _ _ _ => sts_nil) (fun _ _ _ _ _ => se_do D_holds_for hr rfl (sa_cons (se_var 0) (sa_cons (se_var 1) (sa_cons (se_var 2) (sa_nil)))))) (sa_nil))))
abbrev s_aged : Stmt := top 25
theorem sc_aged : FnScope ["promise", "state", "age"] ["promise", "state"] (defScope s_aged) := ⟨rfl, rfl, rfl, by decide +kernel, rfl, by decide +kernel, by decide +kernel⟩
theorem w_aged {G_horizon_of : List MV → MH → R MV} {f : Addr} {fd : FuncData} (B : Glb K mg) (D_horizon_of : Def P w K mg base 2 "horizon_of" 1 G_horizon_of) (F : Fun K "aged" "aged" s_aged f fd) (hm : mg "aged" = some (.ref f)) : Def P w K mg base 3 "aged" 2 (F_aged G_horizon_of) := by
  refine ⟨f, fd, ["promise", "state"], def_ok F sc_aged fun cdv A outer s H E hr => ?_, hm, F.kp, F.binds fun _ _ _ _ _ _ us hl => match us, hl with | [_, _], _ => rfl⟩
  exact ss_one (ss_ret (se_tup (sa_cons (se_int) (sa_star (se_lc rfl sc_aged.nd (own := [("age", 2)]) (si_seq (se_var 1)) (blkOk_by (by kernel_rfl)) (fun _ _ _ _ _ => pg_name (i := 2) sc_aged.nd rfl (by first | exact Or.inl rfl | exact Or.inr rfl)) (gok_N (i := 2) (by decide)) (fun _ _ _ _ _ => sts_one (st_cmp op_lt os_lt (se_var 2) (se_do D_horizon_of hr rfl (sa_cons (se_var 0) (sa_nil))))) (fun _ _ _ _ _ => se_op op_addU os_add (se_var 2) (se_int))) (sa_nil)))))
abbrev s_choices_of : Stmt := top 26
theorem sc_choices_of : FnScope ["promise", "most", "state", "found", "age", "some"] ["promise", "most", "state"] (defScope s_choices_of) := ⟨rfl, rfl, rfl, by decide +kernel, rfl, by decide +kernel, by decide +kernel⟩
theorem w_choices_of {G_aged : List MV → MH → R MV} {G_is_good : List MV → MH → R MV} {f : Addr} {fd : FuncData} (B : Glb K mg) (D_aged : Def P w K mg base 3 "aged" 2 G_aged) (D_is_good : Def P w K mg base 3 "is_good" 2 G_is_good) (L : LamOk K mg base "choices_of" fd) (F : Fun K "choices_of" "choices_of" s_choices_of f fd) (hm : mg "choices_of" = some (.ref f)) : Def P w K mg base 4 "choices_of" 3 (F_choices_of G_aged G_is_good) := by
  refine ⟨f, fd, ["promise", "most", "state"], def_okL F L sc_choices_of fun c0 T0 L0 A outer s H E hr => ?_, hm, F.kp, F.binds fun _ _ _ _ _ _ us hl => match us, hl with | [_, _, _], _ => rfl⟩
  exact ss_cons (ss_set (i := 3) sc_choices_of.nd rfl (by first | exact Or.inl rfl | exact Or.inr rfl) (se_lst (sa_cons (se_tup (sa_nil)) (sa_nil))))
    (ss_cons (ss_for (own := [4]) PassesOwn.never rfl (si_seq (se_do D_aged hr rfl (sa_cons (se_var 0) (sa_cons (se_var 2) (sa_nil))))) (pg_name (i := 4) sc_choices_of.nd rfl (by first | exact Or.inl rfl | exact Or.inr rfl)) (gok_N (i := 4) (by decide)) (ss_one (ss_expr (se_extend (se_var 3) (sa_cons (se_lc rfl sc_choices_of.nd (own := [("some", 5)]) (si_seq (se_var 3)) (blkOk_by (by kernel_rfl)) (fun _ _ _ _ _ => pg_name (i := 5) sc_choices_of.nd rfl (by first | exact Or.inl rfl | exact Or.inr rfl)) (gok_N (i := 5) (by decide)) (fun _ _ _ _ _ => sts_one (st_cmp op_lt os_lt (se_callB call_lenU cs_len rfl B.b_len boot_len (sa_cons (se_var 5) (sa_nil))) (se_var 1))) (fun _ _ _ _ _ => se_tup (sa_star (se_var 5) (sa_cons (se_var 4) (sa_nil))))) (sa_nil))))))
    (ss_one (ss_ret (se_sortK (N := ["some"]) (fr := []) (js := []) (pn := "some") rfl rfl B.b_sorted (se_lc rfl sc_choices_of.nd (own := [("some", 5)]) (si_seq (se_var 3)) (blkOk_by (by kernel_rfl)) (fun _ _ _ _ _ => pg_name (i := 5) sc_choices_of.nd rfl (by first | exact Or.inl rfl | exact Or.inr rfl)) (gok_N (i := 5) (by decide)) (fun _ _ _ _ _ => sts_one (st_val (se_do D_is_good hr rfl (sa_cons (se_var 0) (sa_cons (se_var 5) (sa_nil)))))) (fun _ _ _ _ _ => se_var 5)) L0.TB rfl L0.hm L0.hu (NdefX.nscope_by (by decide +kernel)) (by kernel_rfl) rfl hr (fun _ _ _ _ _ _ _ _ hr => se_tup (sa_cons (se_callB call_lenU cs_len rfl B.b_len boot_len (sa_cons (se_var 0) (sa_nil))) (sa_cons (se_var 0) (sa_nil))))))))
abbrev s_good_states : Stmt := top 27
theorem sc_good_states : FnScope ["promise", "most", "found", "age", "some"] ["promise", "most"] (defScope s_good_states) := ⟨rfl, rfl, rfl, by decide +kernel, rfl, by decide +kernel, by decide +kernel⟩
theorem w_good_states {G_horizon_of : List MV → MH → R MV} {G_is_good : List MV → MH → R MV} {f : Addr} {fd : FuncData} (B : Glb K mg) (D_horizon_of : Def P w K mg base 2 "horizon_of" 1 G_horizon_of) (D_is_good : Def P w K mg base 3 "is_good" 2 G_is_good) (L : LamOk K mg base "good_states" fd) (F : Fun K "good_states" "good_states" s_good_states f fd) (hm : mg "good_states" = some (.ref f)) : Def P w K mg base 4 "good_states" 2 (F_good_states G_horizon_of G_is_good) := by
  refine ⟨f, fd, ["promise", "most"], def_okL F L sc_good_states fun c0 T0 L0 A outer s H E hr => ?_, hm, F.kp, F.binds fun _ _ _ _ _ _ us hl => match us, hl with | [_, _], _ => rfl⟩
  exact ss_cons (ss_set (i := 2) sc_good_states.nd rfl (by first | exact Or.inl rfl | exact Or.inr rfl) (se_lst (sa_cons (se_tup (sa_nil)) (sa_nil))))
    (ss_cons (ss_for (own := [3]) PassesOwn.never rfl (si_range1 rfl B.b_range (sa_cons (se_op op_addU os_add (se_do D_horizon_of hr rfl (sa_cons (se_var 0) (sa_nil))) (se_int)) (sa_nil))) (pg_name (i := 3) sc_good_states.nd rfl (by first | exact Or.inl rfl | exact Or.inr rfl)) (gok_N (i := 3) (by decide)) (ss_one (ss_expr (se_extend (se_var 2) (sa_cons (se_lc rfl sc_good_states.nd (own := [("some", 4)]) (si_seq (se_var 2)) (blkOk_by (by kernel_rfl)) (fun _ _ _ _ _ => pg_name (i := 4) sc_good_states.nd rfl (by first | exact Or.inl rfl | exact Or.inr rfl)) (gok_N (i := 4) (by decide)) (fun _ _ _ _ _ => sts_one (st_cmp op_lt os_lt (se_callB call_lenU cs_len rfl B.b_len boot_len (sa_cons (se_var 4) (sa_nil))) (se_var 1))) (fun _ _ _ _ _ => se_tup (sa_star (se_var 4) (sa_cons (se_var 3) (sa_nil))))) (sa_nil))))))
    (ss_one (ss_ret (se_sortK (N := ["some"]) (fr := []) (js := []) (pn := "some") rfl rfl B.b_sorted (se_lc rfl sc_good_states.nd (own := [("some", 4)]) (si_seq (se_var 2)) (blkOk_by (by kernel_rfl)) (fun _ _ _ _ _ => pg_name (i := 4) sc_good_states.nd rfl (by first | exact Or.inl rfl | exact Or.inr rfl)) (gok_N (i := 4) (by decide)) (fun _ _ _ _ _ => sts_one (st_val (se_do D_is_good hr rfl (sa_cons (se_var 0) (sa_cons (se_var 4) (sa_nil)))))) (fun _ _ _ _ _ => se_var 4)) L0.TB rfl L0.hm L0.hu (NdefX.nscope_by (by decide +kernel)) (by kernel_rfl) rfl hr (fun _ _ _ _ _ _ _ _ hr => se_tup (sa_cons (se_callB call_lenU cs_len rfl B.b_len boot_len (sa_cons (se_var 0) (sa_nil))) (sa_cons (se_var 0) (sa_nil))))))))
abbrev s_keeps : Stmt := top 28
theorem sc_keeps : FnScope ["promise", "state"] ["promise", "state"] (defScope s_keeps) := ⟨rfl, rfl, rfl, by decide +kernel, rfl, by decide +kernel, by decide +kernel⟩
theorem w_keeps {G_check_state : List MV → MH → R MV} {G_is_good : List MV → MH → R MV} {f : Addr} {fd : FuncData} (B : Glb K mg) (D_check_state : Def P w K mg base 4 "check_state" 2 G_check_state) (D_is_good : Def P w K mg base 3 "is_good" 2 G_is_good) (F : Fun K "keeps" "keeps" s_keeps f fd) (hm : mg "keeps" = some (.ref f)) : Def P w K mg base 5 "keeps" 2 (F_keeps G_check_state G_is_good) := by
  refine ⟨f, fd, ["promise", "state"], def_ok F sc_keeps fun cdv A outer s H E hr => ?_, hm, F.kp, F.binds fun _ _ _ _ _ _ us hl => match us, hl with | [_, _], _ => rfl⟩
  exact ss_cons (ss_expr (se_do D_check_state hr rfl (sa_cons (se_var 0) (sa_cons (se_var 1) (sa_nil)))))
    (ss_one (ss_ret (se_do D_is_good hr rfl (sa_cons (se_var 0) (sa_cons (se_var 1) (sa_nil))))))
abbrev s_broken : Stmt := top 29
theorem sc_broken : FnScope ["promise", "state", "age"] ["promise", "state"] (defScope s_broken) := ⟨rfl, rfl, rfl, by decide +kernel, rfl, by decide +kernel, by decide +kernel⟩
theorem w_broken {G_check_state : List MV → MH → R MV} {G_holds_for : List MV → MH → R MV} {f : Addr} {fd : FuncData} (B : Glb K mg) (D_check_state : Def P w K mg base 4 "check_state" 2 G_check_state) (D_holds_for : Def P w K mg base 2 "holds_for" 3 G_holds_for) (F : Fun K "broken" "broken" s_broken f fd) (hm : mg "broken" = some (.ref f)) : Def P w K mg base 5 "broken" 2 (F_broken G_check_state G_holds_for) := by
  refine ⟨f, fd, ["promise", "state"], def_ok F sc_broken fun cdv A outer s H E hr => ?_, hm, F.kp, F.binds fun _ _ _ _ _ _ us hl => match us, hl with | [_, _], _ => rfl⟩
  exact ss_cons (ss_expr (se_do D_check_state hr rfl (sa_cons (se_var 0) (sa_cons (se_var 1) (sa_nil)))))
    (ss_one (ss_ret (se_lc rfl sc_broken.nd (own := [("age", 2)]) (si_range1 rfl B.b_range (sa_cons (se_op op_addU os_add (se_fld B.f_far (se_var 0)) (se_int)) (sa_nil))) (blkOk_by (by kernel_rfl)) (fun _ _ _ _ _ => pg_name (i := 2) sc_broken.nd rfl (by first | exact Or.inl rfl | exact Or.inr rfl)) (gok_N (i := 2) (by decide)) (fun _ _ _ _ _ => sts_one (st_not (st_val (se_do D_holds_for hr rfl (sa_cons (se_var 0) (sa_cons (se_var 1) (sa_cons (se_var 2) (sa_nil)))))))) (fun _ _ _ _ _ => se_var 2))))
abbrev s_grown : Stmt := top 30
theorem sc_grown : FnScope ["promise", "state"] ["promise", "state"] (defScope s_grown) := ⟨rfl, rfl, rfl, by decide +kernel, rfl, by decide +kernel, by decide +kernel⟩
theorem w_grown {G_check_state : List MV → MH → R MV} {G_aged : List MV → MH → R MV} {f : Addr} {fd : FuncData} (B : Glb K mg) (D_check_state : Def P w K mg base 4 "check_state" 2 G_check_state) (D_aged : Def P w K mg base 3 "aged" 2 G_aged) (F : Fun K "grown" "grown" s_grown f fd) (hm : mg "grown" = some (.ref f)) : Def P w K mg base 5 "grown" 2 (F_grown G_check_state G_aged) := by
  refine ⟨f, fd, ["promise", "state"], def_ok F sc_grown fun cdv A outer s H E hr => ?_, hm, F.kp, F.binds fun _ _ _ _ _ _ us hl => match us, hl with | [_, _], _ => rfl⟩
  exact ss_cons (ss_expr (se_do D_check_state hr rfl (sa_cons (se_var 0) (sa_cons (se_var 1) (sa_nil)))))
    (ss_one (ss_ret (se_do D_aged hr rfl (sa_cons (se_var 0) (sa_cons (se_var 1) (sa_nil))))))
abbrev s_choices : Stmt := top 31
theorem sc_choices : FnScope ["promise", "most", "state"] ["promise", "most", "state"] (defScope s_choices) := ⟨rfl, rfl, rfl, by decide +kernel, rfl, by decide +kernel, by decide +kernel⟩
theorem w_choices {G_check_most : List MV → MH → R MV} {G_check_state : List MV → MH → R MV} {G_choices_of : List MV → MH → R MV} {f : Addr} {fd : FuncData} (B : Glb K mg) (D_check_most : Def P w K mg base 2 "check_most" 2 G_check_most) (D_check_state : Def P w K mg base 4 "check_state" 2 G_check_state) (D_choices_of : Def P w K mg base 4 "choices_of" 3 G_choices_of) (F : Fun K "choices" "choices" s_choices f fd) (hm : mg "choices" = some (.ref f)) : Def P w K mg base 5 "choices" 3 (F_choices G_check_most G_check_state G_choices_of) := by
  refine ⟨f, fd, ["promise", "most", "state"], def_ok F sc_choices fun cdv A outer s H E hr => ?_, hm, F.kp, F.binds fun _ _ _ _ _ _ us hl => match us, hl with | [_, _, _], _ => rfl⟩
  exact ss_cons (ss_expr (se_do D_check_most hr rfl (sa_cons (se_var 0) (sa_cons (se_var 1) (sa_nil)))))
    (ss_cons (ss_expr (se_do D_check_state hr rfl (sa_cons (se_var 0) (sa_cons (se_var 2) (sa_nil)))))
    (ss_one (ss_ret (se_do D_choices_of hr rfl (sa_cons (se_var 0) (sa_cons (se_var 1) (sa_cons (se_var 2) (sa_nil))))))))
abbrev s_after : Stmt := top 32
theorem sc_after : FnScope ["promise", "state", "kept", "age"] ["promise", "state", "kept"] (defScope s_after) := ⟨rfl, rfl, rfl, by decide +kernel, rfl, by decide +kernel, by decide +kernel⟩
theorem w_after {G_check_state : List MV → MH → R MV} {G_is_state : List MV → MH → R MV} {G_aged : List MV → MH → R MV} {f : Addr} {fd : FuncData} (B : Glb K mg) (D_check_state : Def P w K mg base 4 "check_state" 2 G_check_state) (D_is_state : Def P w K mg base 3 "is_state" 2 G_is_state) (D_aged : Def P w K mg base 3 "aged" 2 G_aged) (F : Fun K "after" "after" s_after f fd) (hm : mg "after" = some (.ref f)) : Def P w K mg base 5 "after" 3 (F_after G_check_state G_is_state G_aged) := by
  refine ⟨f, fd, ["promise", "state", "kept"], def_ok F sc_after fun cdv A outer s H E hr => ?_, hm, F.kp, F.binds fun _ _ _ _ _ _ us hl => match us, hl with | [_, _, _], _ => rfl⟩
  exact ss_cons (ss_expr (se_do D_check_state hr rfl (sa_cons (se_var 0) (sa_cons (se_var 1) (sa_nil)))))
    (ss_cons (ss_if (st_w (sw_or (st_not (st_val (se_isi .tuple rfl B.b_isinstance rfl B.b_tuple (by decide +kernel) (se_var 2)))) (sw_or1 (st_not (st_val (se_do D_is_state hr rfl (sa_cons (se_var 0) (sa_cons (se_var 2) (sa_nil))))))))) (ss_one (ss_never)) (ss_nil))
    (ss_cons (ss_if (st_not (st_val (se_callB (cr_all rfl) cs_all rfl B.b_all boot_all (sa_cons (se_lc rfl sc_after.nd (own := [("age", 3)]) (si_seq (se_var 2)) (blkOk_by (by kernel_rfl)) (fun _ _ _ _ _ => pg_name (i := 3) sc_after.nd rfl (by first | exact Or.inl rfl | exact Or.inr rfl)) (gok_N (i := 3) (by decide)) (fun _ _ _ _ _ => sts_nil) (fun _ _ _ _ _ => se_cmp op_in_seq os_inT (se_var 3) (se_do D_aged hr rfl (sa_cons (se_var 0) (sa_cons (se_var 1) (sa_nil)))))) (sa_nil))))) (ss_one (ss_never)) (ss_nil))
    (ss_one (ss_ret (se_var 2)))))
abbrev s_states : Stmt := top 33
theorem sc_states : FnScope ["promise", "most"] ["promise", "most"] (defScope s_states) := ⟨rfl, rfl, rfl, by decide +kernel, rfl, by decide +kernel, by decide +kernel⟩
theorem w_states {G_check_most : List MV → MH → R MV} {G_good_states : List MV → MH → R MV} {f : Addr} {fd : FuncData} (B : Glb K mg) (D_check_most : Def P w K mg base 2 "check_most" 2 G_check_most) (D_good_states : Def P w K mg base 4 "good_states" 2 G_good_states) (F : Fun K "states" "states" s_states f fd) (hm : mg "states" = some (.ref f)) : Def P w K mg base 5 "states" 2 (F_states G_check_most G_good_states) := by
  refine ⟨f, fd, ["promise", "most"], def_ok F sc_states fun cdv A outer s H E hr => ?_, hm, F.kp, F.binds fun _ _ _ _ _ _ us hl => match us, hl with | [_, _], _ => rfl⟩
  exact ss_cons (ss_expr (se_do D_check_most hr rfl (sa_cons (se_var 0) (sa_cons (se_var 1) (sa_nil)))))
    (ss_one (ss_ret (se_do D_good_states hr rfl (sa_cons (se_var 0) (sa_cons (se_var 1) (sa_nil))))))
abbrev s_l_draw : Stmt := top 35
theorem sc_l_draw : FnScope ["_law_cell", "_law_k", "_law_many", "_law_primes"] ["_law_cell", "_law_k", "_law_many"] (defScope s_l_draw) := ⟨rfl, rfl, rfl, by decide +kernel, rfl, by decide +kernel, by decide +kernel⟩
theorem w_l_draw {f : Addr} {fd : FuncData} (B : Glb K mg) (F : Fun K "_law_draw" "_law_draw" s_l_draw f fd) (hm : mg "_law_draw" = some (.ref f)) : Def P w K mg base 1 "_law_draw" 3 (F_l_draw) := by
  refine ⟨f, fd, ["_law_cell", "_law_k", "_law_many"], def_ok F sc_l_draw fun cdv A outer s H E hr => ?_, hm, F.kp, F.binds fun _ _ _ _ _ _ us hl => match us, hl with | [_, _, _], _ => rfl⟩
  exact ss_cons (ss_set (i := 3) sc_l_draw.nd rfl (by first | exact Or.inl rfl | exact Or.inr rfl) (se_tup (sa_cons (se_int) (sa_cons (se_int) (sa_cons (se_int) (sa_cons (se_int) (sa_cons (se_int) (sa_cons (se_int) (sa_cons (se_int) (sa_cons (se_int) (sa_cons (se_int) (sa_cons (se_int) (sa_cons (se_int) (sa_cons (se_int) (sa_cons (se_int) (sa_cons (se_int) (sa_cons (se_int) (sa_cons (se_int) (sa_nil)))))))))))))))))))
    (ss_one (ss_ret (se_op op_mod os_mod (se_op op_mod os_mod (se_callTy call_int1 cs_int rfl B.b_int (by decide +kernel) (sa_cons (se_op op_addU os_add (se_op op_mulB os_mul (se_var 0) (se_int)) (se_op op_mulB os_mul (se_var 1) (se_int))) (sa_nil))) (se_ix (se_var 3) (se_op op_mod os_mod (se_var 1) (se_int)))) (se_var 2))))
abbrev s_l_cell_at : Stmt := top 36
theorem sc_l_cell_at : FnScope ["_law_script", "_law_k"] ["_law_script", "_law_k"] (defScope s_l_cell_at) := ⟨rfl, rfl, rfl, by decide +kernel, rfl, by decide +kernel, by decide +kernel⟩
theorem w_l_cell_at {G_l_draw : List MV → MH → R MV} {f : Addr} {fd : FuncData} (B : Glb K mg) (D_l_draw : Def P w K mg base 1 "_law_draw" 3 G_l_draw) (F : Fun K "_law_cell_at" "_law_cell_at" s_l_cell_at f fd) (hm : mg "_law_cell_at" = some (.ref f)) : Def P w K mg base 2 "_law_cell_at" 2 (F_l_cell_at G_l_draw) := by
  refine ⟨f, fd, ["_law_script", "_law_k"], def_ok F sc_l_cell_at fun cdv A outer s H E hr => ?_, hm, F.kp, F.binds fun _ _ _ _ _ _ us hl => match us, hl with | [_, _], _ => rfl⟩
  exact ss_cons (ss_if (st_cmp op_lt os_lt (se_var 1) (se_callB call_lenU cs_len rfl B.b_len boot_len (sa_cons (se_var 0) (sa_nil)))) (ss_one (ss_ret (se_callB call_abs cs_abs rfl B.b_abs boot_abs (sa_cons (se_ix (se_var 0) (se_var 1)) (sa_nil))))) (ss_nil))
    (ss_one (ss_ret (se_do D_l_draw hr rfl (sa_cons (se_op op_addU os_add (se_callB call_abs cs_abs rfl B.b_abs boot_abs (sa_cons (se_callB (cr_sum rfl) cs_sum rfl B.b_sum boot_sum (sa_cons (se_var 0) (sa_nil))) (sa_nil))) (se_op op_mulB os_mul (se_int) (se_var 1))) (sa_cons (se_var 1) (sa_cons (se_int) (sa_nil)))))))
abbrev s_l_digits : Stmt := top 37
theorem sc_l_digits : FnScope ["_law_script", "_law_at", "_law_many", "_law_base", "_law_cell", "_law_found", "_law_remaining", "_law_turn", "_law_blend", "_law_more"] ["_law_script", "_law_at", "_law_many", "_law_base"] (defScope s_l_digits) := ⟨rfl, rfl, rfl, by decide +kernel, rfl, by decide +kernel, by decide +kernel⟩
theorem w_l_digits {G_l_cell_at : List MV → MH → R MV} {G_l_draw : List MV → MH → R MV} {f : Addr} {fd : FuncData} (B : Glb K mg) (D_l_cell_at : Def P w K mg base 2 "_law_cell_at" 2 G_l_cell_at) (D_l_draw : Def P w K mg base 1 "_law_draw" 3 G_l_draw) (F : Fun K "_law_digits" "_law_digits" s_l_digits f fd) (hm : mg "_law_digits" = some (.ref f)) : Def P w K mg base 3 "_law_digits" 4 (F_l_digits G_l_cell_at G_l_draw) := by
  refine ⟨f, fd, ["_law_script", "_law_at", "_law_many", "_law_base"], def_ok F sc_l_digits fun cdv A outer s H E hr => ?_, hm, F.kp, F.binds fun _ _ _ _ _ _ us hl => match us, hl with | [_, _, _, _], _ => rfl⟩
  exact ss_cons (ss_par (i := 4) (j := 5) rfl sc_l_digits.nd rfl rfl (by decide) rfl rfl (sa_cons (se_do D_l_cell_at hr rfl (sa_cons (se_var 0) (sa_cons (se_var 1) (sa_nil)))) (sa_cons (se_lst (sa_nil)) (sa_nil))) rfl)
    (ss_cons (ss_set (i := 6) sc_l_digits.nd rfl (by first | exact Or.inl rfl | exact Or.inr rfl) (se_op op_sub os_sub (se_var 4) (se_op op_pow os_pow (se_int) (se_int))))
    (ss_cons (ss_for (own := [7]) PassesOwn.never rfl (si_range1 rfl B.b_range (sa_cons (se_var 2) (sa_nil))) (pg_name (i := 7) sc_l_digits.nd rfl (by first | exact Or.inl rfl | exact Or.inr rfl)) (gok_N (i := 7) (by decide)) (ss_one (ss_if (st_cmp op_gt os_gt (se_var 6) (se_int)) (ss_cons (ss_expr (se_append (se_var 5) (sa_cons (se_op op_mod os_mod (se_callTy call_int1 cs_int rfl B.b_int (by decide +kernel) (sa_cons (se_var 6) (sa_nil))) (se_var 3)) (sa_nil))))
    (ss_one (ss_set (i := 6) sc_l_digits.nd rfl (by first | exact Or.inl rfl | exact Or.inr rfl) (se_op op_fdivW os_div (se_var 6) (se_var 3))))) (ss_cons (ss_set (i := 8) sc_l_digits.nd rfl (by first | exact Or.inl rfl | exact Or.inr rfl) (se_do D_l_draw hr rfl (sa_cons (se_op op_mulB os_mul (se_op op_addU os_add (se_var 4) (se_op op_mulB os_mul (se_int) (se_var 7))) (se_op op_addU os_add (se_op op_addU os_add (se_var 4) (se_op op_mulB os_mul (se_int) (se_var 7))) (se_int))) (sa_cons (se_op op_addU os_add (se_op op_mod os_mod (se_var 7) (se_int)) (se_int)) (sa_cons (se_int) (sa_nil))))))
    (ss_cons (ss_set (i := 9) sc_l_digits.nd rfl (by first | exact Or.inl rfl | exact Or.inr rfl) (se_do D_l_draw hr rfl (sa_cons (se_op op_addU os_add (se_op op_mulB os_mul (se_op op_addU os_add (se_var 4) (se_op op_mulB os_mul (se_int) (se_var 7))) (se_op op_addU os_add (se_var 4) (se_int))) (se_op op_mulB os_mul (se_int) (se_var 7))) (sa_cons (se_op op_addU os_add (se_op op_mod os_mod (se_var 7) (se_int)) (se_int)) (sa_cons (se_int) (sa_nil))))))
    (ss_one (ss_expr (se_append (se_var 5) (sa_cons (se_op op_mod os_mod (se_callTy call_int1 cs_int rfl B.b_int (by decide +kernel) (sa_cons (se_op op_addU os_add (se_op op_mulB os_mul (se_var 8) (se_int)) (se_var 9)) (sa_nil))) (se_var 3)) (sa_nil))))))))))
    (ss_one (ss_ret (se_var 5)))))
abbrev s_l_take : Stmt := top 38
theorem sc_l_take : FnScope ["_law_draws", "_law_many"] ["_law_draws", "_law_many"] (defScope s_l_take) := ⟨rfl, rfl, rfl, by decide +kernel, rfl, by decide +kernel, by decide +kernel⟩
theorem w_l_take {f : Addr} {fd : FuncData} (B : Glb K mg) (F : Fun K "_law_take" "_law_take" s_l_take f fd) (hm : mg "_law_take" = some (.ref f)) : Def P w K mg base 1 "_law_take" 2 (F_l_take) := by
  refine ⟨f, fd, ["_law_draws", "_law_many"], def_ok F sc_l_take fun cdv A outer s H E hr => ?_, hm, F.kp, F.binds fun _ _ _ _ _ _ us hl => match us, hl with | [_, _], _ => rfl⟩
  exact ss_one (ss_ret (se_if (st_cmp (op_neD hr.units) os_ne (se_var 0) (se_lst (sa_nil))) (se_op op_mod os_mod (se_callTy call_int1 cs_int rfl B.b_int (by decide +kernel) (sa_cons (se_popAt (se_var 0) (sa_cons (se_int) (sa_nil))) (sa_nil))) (se_var 1)) (se_int)))
abbrev s_l_pool : Stmt := top 39
theorem sc_l_pool : FnScope ["_law_script", "_law_bases", "_law_found", "_law_at", "_law_base_here"] ["_law_script", "_law_bases"] (defScope s_l_pool) := ⟨rfl, rfl, rfl, by decide +kernel, rfl, by decide +kernel, by decide +kernel⟩
theorem w_l_pool {G_l_digits : List MV → MH → R MV} {f : Addr} {fd : FuncData} (B : Glb K mg) (D_l_digits : Def P w K mg base 3 "_law_digits" 4 G_l_digits) (F : Fun K "_law_pool" "_law_pool" s_l_pool f fd) (hm : mg "_law_pool" = some (.ref f)) : Def P w K mg base 4 "_law_pool" 2 (F_l_pool G_l_digits) := by
  refine ⟨f, fd, ["_law_script", "_law_bases"], def_ok F sc_l_pool fun cdv A outer s H E hr => ?_, hm, F.kp, F.binds fun _ _ _ _ _ _ us hl => match us, hl with | [_, _], _ => rfl⟩
  exact ss_cons (ss_set (i := 2) sc_l_pool.nd rfl (by first | exact Or.inl rfl | exact Or.inr rfl) (se_lst (sa_nil)))
    (ss_cons (ss_for (own := [3, 4]) PassesOwn.never rfl (si_enumV rfl B.b_enumerate (sa_cons (se_var 1) (sa_nil))) (pg_tup rfl (pgs_cons (pg_name (i := 3) sc_l_pool.nd rfl (by first | exact Or.inl rfl | exact Or.inr rfl)) (pgs_cons (pg_name (i := 4) sc_l_pool.nd rfl (by first | exact Or.inl rfl | exact Or.inr rfl)) (pgs_nil)))) (gok_T (is := [3, 4]) (by decide) rfl) (ss_one (ss_set (i := 2) sc_l_pool.nd rfl (by first | exact Or.inl rfl | exact Or.inr rfl) (se_op op_addU os_add (se_var 2) (se_do D_l_digits hr rfl (sa_cons (se_var 0) (sa_cons (se_var 3) (sa_cons (se_int) (sa_cons (se_var 4) (sa_nil))))))))))
    (ss_one (ss_ret (se_var 2))))
abbrev s_l_plan : Stmt := top 40
theorem sc_l_plan : FnScope ["_law_draws", "_law_most", "_law_far", "_law_near", "_law_part"] ["_law_draws", "_law_most"] (defScope s_l_plan) := ⟨rfl, rfl, rfl, by decide +kernel, rfl, by decide +kernel, by decide +kernel⟩
theorem w_l_plan {G_l_take : List MV → MH → R MV} {f : Addr} {fd : FuncData} (B : Glb K mg) (D_l_take : Def P w K mg base 1 "_law_take" 2 G_l_take) (F : Fun K "_law_plan" "_law_plan" s_l_plan f fd) (hm : mg "_law_plan" = some (.ref f)) : Def P w K mg base 2 "_law_plan" 2 (F_l_plan G_l_take) := by
  refine ⟨f, fd, ["_law_draws", "_law_most"], def_ok F sc_l_plan fun cdv A outer s H E hr => ?_, hm, F.kp, F.binds fun _ _ _ _ _ _ us hl => match us, hl with | [_, _], _ => rfl⟩
  exact ss_cons (ss_par (i := 2) (j := 3) rfl sc_l_plan.nd rfl rfl (by decide) rfl rfl (sa_cons (se_do D_l_take hr rfl (sa_cons (se_var 0) (sa_cons (se_op op_addU os_add (se_var 1) (se_int)) (sa_nil)))) (sa_cons (se_do D_l_take hr rfl (sa_cons (se_var 0) (sa_cons (se_int) (sa_nil)))) (sa_nil))) rfl)
    (ss_cons (ss_set (i := 4) sc_l_plan.nd rfl (by first | exact Or.inl rfl | exact Or.inr rfl) (se_tup (sa_cons (se_do D_l_take hr rfl (sa_cons (se_var 0) (sa_cons (se_int) (sa_nil)))) (sa_cons (se_op op_addU os_add (se_int) (se_do D_l_take hr rfl (sa_cons (se_var 0) (sa_cons (se_int) (sa_nil))))) (sa_nil)))))
    (ss_cons (ss_while PassesOwn.never (st_cmp op_gt os_gt (se_op op_addU os_add (se_op op_addU os_add (se_var 2) (se_var 3)) (se_op op_fdivW os_div (se_op op_mulB os_mul (se_var 2) (se_ix (se_var 4) (se_int))) (se_ix (se_var 4) (se_int)))) (se_int)) (ss_one (ss_set (i := 4) sc_l_plan.nd rfl (by first | exact Or.inl rfl | exact Or.inr rfl) (se_tup (sa_cons (se_op op_sub os_sub (se_ix (se_var 4) (se_int)) (se_int)) (sa_cons (se_ix (se_var 4) (se_int)) (sa_nil)))))))
    (ss_one (ss_ret (se_tup (sa_cons (se_var 2) (sa_cons (se_var 3) (sa_cons (se_var 4) (sa_cons (se_if (st_cmp (op_eqD hr.units) os_eq (se_do D_l_take hr rfl (sa_cons (se_var 0) (sa_cons (se_int) (sa_nil)))) (se_int)) (se_int) (se_int)) (sa_nil))))))))))
abbrev s_l_promise : Stmt := top 41
theorem sc_l_promise : FnScope ["_law_plan_here"] ["_law_plan_here"] (defScope s_l_promise) := ⟨rfl, rfl, rfl, by decide +kernel, rfl, by decide +kernel, by decide +kernel⟩
theorem w_l_promise {G_Promise_init : List MV → MH → R MV} {f : Addr} {fd : FuncData} (B : Glb K mg) (D_Promise_init : KDef P w K mg base 3 0 3 ["share", "copies"] G_Promise_init) (F : Fun K "_law_promise" "_law_promise" s_l_promise f fd) (hm : mg "_law_promise" = some (.ref f)) : Def P w K mg base 5 "_law_promise" 1 (F_l_promise G_Promise_init) := by
  refine ⟨f, fd, ["_law_plan_here"], def_ok F sc_l_promise fun cdv A outer s H E hr => ?_, hm, F.kp, F.binds fun _ _ _ _ _ _ us hl => match us, hl with | [_], _ => rfl⟩
  exact ss_one (ss_ret (se_makeK D_Promise_init hr rfl (sa_cons (se_ix (se_var 0) (se_int)) (sa_cons (se_ix (se_var 0) (se_int)) (sa_nil))) (sk_cons (se_ix (se_var 0) (se_int)) (sk_cons (se_ix (se_var 0) (se_int)) (sk_nil)))))
abbrev s_l_slack : Stmt := top 42
theorem sc_l_slack : FnScope ["_law_plan_here", "_law_age"] ["_law_plan_here", "_law_age"] (defScope s_l_slack) := ⟨rfl, rfl, rfl, by decide +kernel, rfl, by decide +kernel, by decide +kernel⟩
theorem w_l_slack {f : Addr} {fd : FuncData} (B : Glb K mg) (F : Fun K "_law_slack" "_law_slack" s_l_slack f fd) (hm : mg "_law_slack" = some (.ref f)) : Def P w K mg base 1 "_law_slack" 2 (F_l_slack) := by
  refine ⟨f, fd, ["_law_plan_here", "_law_age"], def_ok F sc_l_slack fun cdv A outer s H E hr => ?_, hm, F.kp, F.binds fun _ _ _ _ _ _ us hl => match us, hl with | [_, _], _ => rfl⟩
  exact ss_one (ss_ret (se_op op_addU os_add (se_ix (se_var 0) (se_int)) (se_op op_fdivW os_div (se_op op_mulB os_mul (se_var 1) (se_ix (se_ix (se_var 0) (se_int)) (se_int))) (se_ix (se_ix (se_var 0) (se_int)) (se_int)))))
abbrev s_l_horizon : Stmt := top 43
theorem sc_l_horizon : FnScope ["_law_plan_here"] ["_law_plan_here"] (defScope s_l_horizon) := ⟨rfl, rfl, rfl, by decide +kernel, rfl, by decide +kernel, by decide +kernel⟩
theorem w_l_horizon {G_l_slack : List MV → MH → R MV} {f : Addr} {fd : FuncData} (B : Glb K mg) (D_l_slack : Def P w K mg base 1 "_law_slack" 2 G_l_slack) (F : Fun K "_law_horizon" "_law_horizon" s_l_horizon f fd) (hm : mg "_law_horizon" = some (.ref f)) : Def P w K mg base 2 "_law_horizon" 1 (F_l_horizon G_l_slack) := by
  refine ⟨f, fd, ["_law_plan_here"], def_ok F sc_l_horizon fun cdv A outer s H E hr => ?_, hm, F.kp, F.binds fun _ _ _ _ _ _ us hl => match us, hl with | [_], _ => rfl⟩
  exact ss_one (ss_ret (se_op op_addU os_add (se_ix (se_var 0) (se_int)) (se_do D_l_slack hr rfl (sa_cons (se_var 0) (sa_cons (se_ix (se_var 0) (se_int)) (sa_nil))))))
abbrev s_l_broken : Stmt := top 44
theorem sc_l_broken : FnScope ["_law_plan_here", "_law_state", "_law_found", "_law_age", "_law_one"] ["_law_plan_here", "_law_state"] (defScope s_l_broken) := ⟨rfl, rfl, rfl, by decide +kernel, rfl, by decide +kernel, by decide +kernel⟩
theorem w_l_broken {G_l_slack : List MV → MH → R MV} {f : Addr} {fd : FuncData} (B : Glb K mg) (D_l_slack : Def P w K mg base 1 "_law_slack" 2 G_l_slack) (F : Fun K "_law_broken" "_law_broken" s_l_broken f fd) (hm : mg "_law_broken" = some (.ref f)) : Def P w K mg base 2 "_law_broken" 2 (F_l_broken G_l_slack) := by
  refine ⟨f, fd, ["_law_plan_here", "_law_state"], def_ok F sc_l_broken fun cdv A outer s H E hr => ?_, hm, F.kp, F.binds fun _ _ _ _ _ _ us hl => match us, hl with | [_, _], _ => rfl⟩
  exact ss_cons (ss_set (i := 2) sc_l_broken.nd rfl (by first | exact Or.inl rfl | exact Or.inr rfl) (se_lst (sa_nil)))
    (ss_cons (ss_for (own := [3]) PassesOwn.never rfl (si_range1 rfl B.b_range (sa_cons (se_op op_addU os_add (se_ix (se_var 0) (se_int)) (se_int)) (sa_nil))) (pg_name (i := 3) sc_l_broken.nd rfl (by first | exact Or.inl rfl | exact Or.inr rfl)) (gok_N (i := 3) (by decide)) (ss_one (ss_if (st_cmp op_lt os_lt (se_callB call_lenU cs_len rfl B.b_len boot_len (sa_cons (se_lc rfl sc_l_broken.nd (own := [("_law_one", 4)]) (si_seq (se_var 1)) (blkOk_by (by kernel_rfl)) (fun _ _ _ _ _ => pg_name (i := 4) sc_l_broken.nd rfl (by first | exact Or.inl rfl | exact Or.inr rfl)) (gok_N (i := 4) (by decide)) (fun _ _ _ _ _ => sts_one (st_chain op_le os_le op_le os_le (se_var 3) (se_var 4) (se_op op_addU os_add (se_var 3) (se_do D_l_slack hr rfl (sa_cons (se_var 0) (sa_cons (se_var 3) (sa_nil))))))) (fun _ _ _ _ _ => se_var 4)) (sa_nil))) (se_ix (se_var 0) (se_int))) (ss_one (ss_expr (se_append (se_var 2) (sa_cons (se_var 3) (sa_nil))))) (ss_nil))))
    (ss_one (ss_ret (se_var 2))))
abbrev s_l_grown : Stmt := top 45
theorem sc_l_grown : FnScope ["_law_plan_here", "_law_state", "_law_age"] ["_law_plan_here", "_law_state"] (defScope s_l_grown) := ⟨rfl, rfl, rfl, by decide +kernel, rfl, by decide +kernel, by decide +kernel⟩
theorem w_l_grown {G_l_horizon : List MV → MH → R MV} {f : Addr} {fd : FuncData} (B : Glb K mg) (D_l_horizon : Def P w K mg base 2 "_law_horizon" 1 G_l_horizon) (F : Fun K "_law_grown" "_law_grown" s_l_grown f fd) (hm : mg "_law_grown" = some (.ref f)) : Def P w K mg base 3 "_law_grown" 2 (F_l_grown G_l_horizon) := by
  refine ⟨f, fd, ["_law_plan_here", "_law_state"], def_ok F sc_l_grown fun cdv A outer s H E hr => ?_, hm, F.kp, F.binds fun _ _ _ _ _ _ us hl => match us, hl with | [_, _], _ => rfl⟩
  exact ss_one (ss_ret (se_op op_addU os_add (se_lst (sa_cons (se_int) (sa_nil))) (se_lc rfl sc_l_grown.nd (own := [("_law_age", 2)]) (si_seq (se_var 1)) (blkOk_by (by kernel_rfl)) (fun _ _ _ _ _ => pg_name (i := 2) sc_l_grown.nd rfl (by first | exact Or.inl rfl | exact Or.inr rfl)) (gok_N (i := 2) (by decide)) (fun _ _ _ _ _ => sts_one (st_cmp op_le os_le (se_op op_addU os_add (se_var 2) (se_int)) (se_do D_l_horizon hr rfl (sa_cons (se_var 0) (sa_nil))))) (fun _ _ _ _ _ => se_op op_addU os_add (se_var 2) (se_int)))))
abbrev s_l_parts : Stmt := top 46
theorem sc_l_parts : FnScope ["_law_ages", "_law_most", "_law_found", "_law_age", "_law_many", "_law_some"] ["_law_ages", "_law_most"] (defScope s_l_parts) := ⟨rfl, rfl, rfl, by decide +kernel, rfl, by decide +kernel, by decide +kernel⟩
theorem w_l_parts {f : Addr} {fd : FuncData} (B : Glb K mg) (F : Fun K "_law_parts" "_law_parts" s_l_parts f fd) (hm : mg "_law_parts" = some (.ref f)) : Def P w K mg base 1 "_law_parts" 2 (F_l_parts) := by
  refine ⟨f, fd, ["_law_ages", "_law_most"], def_ok F sc_l_parts fun cdv A outer s H E hr => ?_, hm, F.kp, F.binds fun _ _ _ _ _ _ us hl => match us, hl with | [_, _], _ => rfl⟩
  exact ss_cons (ss_set (i := 2) sc_l_parts.nd rfl (by first | exact Or.inl rfl | exact Or.inr rfl) (se_lst (sa_cons (se_tup (sa_nil)) (sa_nil))))
    (ss_cons (ss_for (own := [3]) PassesOwn.never rfl (si_seq (se_var 0)) (pg_name (i := 3) sc_l_parts.nd rfl (by first | exact Or.inl rfl | exact Or.inr rfl)) (gok_N (i := 3) (by decide)) (ss_one (ss_set (i := 2) sc_l_parts.nd rfl (by first | exact Or.inl rfl | exact Or.inr rfl) (se_op op_addU os_add (se_var 2) (se_lc rfl sc_l_parts.nd (own := [("_law_some", 5)]) (si_seq (se_var 2)) (blkOk_by (by kernel_rfl)) (fun _ _ _ _ _ => pg_name (i := 5) sc_l_parts.nd rfl (by first | exact Or.inl rfl | exact Or.inr rfl)) (gok_N (i := 5) (by decide)) (fun _ _ _ _ _ => sts_one (st_cmp op_lt os_lt (se_callB call_lenU cs_len rfl B.b_len boot_len (sa_cons (se_var 5) (sa_nil))) (se_var 1))) (fun _ _ _ _ _ => se_op op_addU os_add (se_var 5) (se_tup (sa_cons (se_var 3) (sa_nil)))))))))
    (ss_one (ss_ret (se_lc rfl sc_l_parts.nd (own := [("_law_many", 4), ("_law_some", 5)]) (si_seq (se_callB (cr_sortedD (Nat.lt_of_succ_lt (hu65 hr))) cs_sorted rfl B.b_sorted (by rfl) (sa_cons (se_lc rfl sc_l_parts.nd (own := [("_law_some", 5)]) (si_seq (se_var 2)) (blkOk_by (by kernel_rfl)) (fun _ _ _ _ _ => pg_name (i := 5) sc_l_parts.nd rfl (by first | exact Or.inl rfl | exact Or.inr rfl)) (gok_N (i := 5) (by decide)) (fun _ _ _ _ _ => sts_nil) (fun _ _ _ _ _ => se_tup (sa_cons (se_callB call_lenU cs_len rfl B.b_len boot_len (sa_cons (se_var 5) (sa_nil))) (sa_cons (se_var 5) (sa_nil))))) (sa_nil)))) (blkOk_by (by kernel_rfl)) (fun _ _ _ _ _ => pg_tup rfl (pgs_cons (pg_name (i := 4) sc_l_parts.nd rfl (by first | exact Or.inl rfl | exact Or.inr rfl)) (pgs_cons (pg_name (i := 5) sc_l_parts.nd rfl (by first | exact Or.inl rfl | exact Or.inr rfl)) (pgs_nil)))) (gok_T (is := [4, 5]) (by decide) rfl) (fun _ _ _ _ _ => sts_nil) (fun _ _ _ _ _ => se_var 5)))))
abbrev s_l_choices : Stmt := top 47
theorem sc_l_choices : FnScope ["_law_plan_here", "_law_most", "_law_state", "_law_some"] ["_law_plan_here", "_law_most", "_law_state"] (defScope s_l_choices) := ⟨rfl, rfl, rfl, by decide +kernel, rfl, by decide +kernel, by decide +kernel⟩
theorem w_l_choices {G_l_grown : List MV → MH → R MV} {G_l_parts : List MV → MH → R MV} {G_l_broken : List MV → MH → R MV} {f : Addr} {fd : FuncData} (B : Glb K mg) (D_l_grown : Def P w K mg base 3 "_law_grown" 2 G_l_grown) (D_l_parts : Def P w K mg base 1 "_law_parts" 2 G_l_parts) (D_l_broken : Def P w K mg base 2 "_law_broken" 2 G_l_broken) (F : Fun K "_law_choices" "_law_choices" s_l_choices f fd) (hm : mg "_law_choices" = some (.ref f)) : Def P w K mg base 4 "_law_choices" 3 (F_l_choices G_l_grown G_l_parts G_l_broken) := by
  refine ⟨f, fd, ["_law_plan_here", "_law_most", "_law_state"], def_ok F sc_l_choices fun cdv A outer s H E hr => ?_, hm, F.kp, F.binds fun _ _ _ _ _ _ us hl => match us, hl with | [_, _, _], _ => rfl⟩
  exact ss_one (ss_ret (se_lc rfl sc_l_choices.nd (own := [("_law_some", 3)]) (si_seq (se_do D_l_parts hr rfl (sa_cons (se_do D_l_grown hr rfl (sa_cons (se_var 0) (sa_cons (se_var 2) (sa_nil)))) (sa_cons (se_var 1) (sa_nil))))) (blkOk_by (by kernel_rfl)) (fun _ _ _ _ _ => pg_name (i := 3) sc_l_choices.nd rfl (by first | exact Or.inl rfl | exact Or.inr rfl)) (gok_N (i := 3) (by decide)) (fun _ _ _ _ _ => sts_one (st_cmp (op_eqD hr.units) os_eq (se_do D_l_broken hr rfl (sa_cons (se_var 0) (sa_cons (se_var 3) (sa_nil)))) (se_lst (sa_nil)))) (fun _ _ _ _ _ => se_var 3)))
abbrev s_l_states : Stmt := top 48
theorem sc_l_states : FnScope ["_law_plan_here", "_law_most", "_law_some"] ["_law_plan_here", "_law_most"] (defScope s_l_states) := ⟨rfl, rfl, rfl, by decide +kernel, rfl, by decide +kernel, by decide +kernel⟩
theorem w_l_states {G_l_horizon : List MV → MH → R MV} {G_l_parts : List MV → MH → R MV} {G_l_broken : List MV → MH → R MV} {f : Addr} {fd : FuncData} (B : Glb K mg) (D_l_horizon : Def P w K mg base 2 "_law_horizon" 1 G_l_horizon) (D_l_parts : Def P w K mg base 1 "_law_parts" 2 G_l_parts) (D_l_broken : Def P w K mg base 2 "_law_broken" 2 G_l_broken) (F : Fun K "_law_states" "_law_states" s_l_states f fd) (hm : mg "_law_states" = some (.ref f)) : Def P w K mg base 3 "_law_states" 2 (F_l_states G_l_horizon G_l_parts G_l_broken) := by
  refine ⟨f, fd, ["_law_plan_here", "_law_most"], def_ok F sc_l_states fun cdv A outer s H E hr => ?_, hm, F.kp, F.binds fun _ _ _ _ _ _ us hl => match us, hl with | [_, _], _ => rfl⟩
  exact ss_one (ss_ret (se_lc rfl sc_l_states.nd (own := [("_law_some", 2)]) (si_seq (se_do D_l_parts hr rfl (sa_cons (se_lrg1 rfl rfl B.b_list rfl B.b_range (se_op op_addU os_add (se_do D_l_horizon hr rfl (sa_cons (se_var 0) (sa_nil))) (se_int))) (sa_cons (se_var 1) (sa_nil))))) (blkOk_by (by kernel_rfl)) (fun _ _ _ _ _ => pg_name (i := 2) sc_l_states.nd rfl (by first | exact Or.inl rfl | exact Or.inr rfl)) (gok_N (i := 2) (by decide)) (fun _ _ _ _ _ => sts_one (st_cmp (op_eqD hr.units) os_eq (se_do D_l_broken hr rfl (sa_cons (se_var 0) (sa_cons (se_var 2) (sa_nil)))) (se_lst (sa_nil)))) (fun _ _ _ _ _ => se_var 2)))
abbrev s_law : Stmt := top 49
theorem sc_law : FnScope ["_law_script", "_law_draws", "_law_turn", "_law_plan_here", "_law_most", "_law_one", "_law_more", "_law_state", "_law_ages", "_law_kept", "_law_age"] ["_law_script"] (defScope s_law) := ⟨rfl, rfl, rfl, by decide +kernel, rfl, by decide +kernel, by decide +kernel⟩
theorem f_law {G_l_pool : List MV → MH → R MV} {G_l_take : List MV → MH → R MV} {G_l_plan : List MV → MH → R MV} {G_l_promise : List MV → MH → R MV} {G_Promise_copies : List MV → MH → R MV} {G_Promise_share : List MV → MH → R MV} {G_Promise_base : List MV → MH → R MV} {G_Promise_reach : List MV → MH → R MV} {G_Promise_horizon : List MV → MH → R MV} {G_l_horizon : List MV → MH → R MV} {G_Promise_slack : List MV → MH → R MV} {G_l_slack : List MV → MH → R MV} {G_Promise_eq : List MV → MH → R MV} {G_Promise_init : List MV → MH → R MV} {G_states : List MV → MH → R MV} {G_l_states : List MV → MH → R MV} {G_broken : List MV → MH → R MV} {G_l_broken : List MV → MH → R MV} {G_keeps : List MV → MH → R MV} {G_l_grown : List MV → MH → R MV} {G_grown : List MV → MH → R MV} {G_after : List MV → MH → R MV} {G_choices : List MV → MH → R MV} {G_l_choices : List MV → MH → R MV} {f : Addr} {fd : FuncData} (B : Glb K mg) (D_l_pool : Def P w K mg base 4 "_law_pool" 2 G_l_pool) (D_l_take : Def P w K mg base 1 "_law_take" 2 G_l_take) (D_l_plan : Def P w K mg base 2 "_law_plan" 2 G_l_plan) (D_l_promise : Def P w K mg base 5 "_law_promise" 1 G_l_promise) (D_Promise_copies : PDef P w K mg base 1 0 "copies" G_Promise_copies) (D_Promise_share : PDef P w K mg base 1 0 "share" G_Promise_share) (D_Promise_base : PDef P w K mg base 1 0 "base" G_Promise_base) (D_Promise_reach : PDef P w K mg base 1 0 "reach" G_Promise_reach) (D_Promise_horizon : MDef P w K mg base 3 0 "horizon" 1 G_Promise_horizon) (D_l_horizon : Def P w K mg base 2 "_law_horizon" 1 G_l_horizon) (D_Promise_slack : MDef P w K mg base 2 0 "slack" 2 G_Promise_slack) (D_l_slack : Def P w K mg base 1 "_law_slack" 2 G_l_slack) (D_Promise_eq : MDef P w K mg base 2 0 "__eq__" 2 G_Promise_eq) (D_Promise_init : KDef P w K mg base 3 0 3 ["share", "copies"] G_Promise_init) (D_states : Def P w K mg base 5 "states" 2 G_states) (D_l_states : Def P w K mg base 3 "_law_states" 2 G_l_states) (D_broken : Def P w K mg base 5 "broken" 2 G_broken) (D_l_broken : Def P w K mg base 2 "_law_broken" 2 G_l_broken) (D_keeps : Def P w K mg base 5 "keeps" 2 G_keeps) (D_l_grown : Def P w K mg base 3 "_law_grown" 2 G_l_grown) (D_grown : Def P w K mg base 5 "grown" 2 G_grown) (D_after : Def P w K mg base 5 "after" 3 G_after) (D_choices : Def P w K mg base 5 "choices" 3 G_choices) (D_l_choices : Def P w K mg base 4 "_law_choices" 3 G_l_choices) (F : Fun K "law" "law" s_law f fd) : FnOk P w K mg base CX0 7 f fd ["_law_script"] (spM ⟨K, mg⟩ 1 (F_law G_l_pool G_l_take G_l_plan G_l_promise G_Promise_copies G_Promise_share G_Promise_base G_Promise_reach G_Promise_horizon G_l_horizon G_Promise_slack G_l_slack G_Promise_eq G_Promise_init G_states G_l_states G_broken G_l_broken G_keeps G_l_grown G_grown G_after G_choices G_l_choices)) := by
  refine def_ok F sc_law fun cdv A outer s H E hr => ?_
  exact ss_cons (ss_set (i := 0) sc_law.nd rfl (by first | exact Or.inl rfl | exact Or.inr rfl) (se_slice (se_var 0) (so_none) (so_some (se_int))))
    (ss_cons (ss_set (i := 1) sc_law.nd rfl (by first | exact Or.inl rfl | exact Or.inr rfl) (se_do D_l_pool hr rfl (sa_cons (se_var 0) (sa_cons (se_tup (sa_cons (se_int) (sa_cons (se_int) (sa_cons (se_int) (sa_nil))))) (sa_nil)))))
    (ss_cons (ss_for (own := [2]) PassesOwn.never rfl (si_range1 rfl B.b_range (sa_cons (se_int) (sa_nil))) (pg_name (i := 2) sc_law.nd rfl (by first | exact Or.inl rfl | exact Or.inr rfl)) (gok_N (i := 2) (by decide)) (ss_cons (ss_asg (own := [3, 4]) (se_tup (sa_cons (se_do D_l_plan hr rfl (sa_cons (se_var 1) (sa_cons (se_int) (sa_nil)))) (sa_cons (se_do D_l_take hr rfl (sa_cons (se_var 1) (sa_cons (se_int) (sa_nil)))) (sa_nil)))) (pg_tup rfl (pgs_cons (pg_name (i := 3) sc_law.nd rfl (by first | exact Or.inl rfl | exact Or.inr rfl)) (pgs_cons (pg_name (i := 4) sc_law.nd rfl (by first | exact Or.inl rfl | exact Or.inr rfl)) (pgs_nil)))) (gok_T (is := [3, 4]) (by decide) rfl))
    (ss_cons (ss_set (i := 5) sc_law.nd rfl (by first | exact Or.inl rfl | exact Or.inr rfl) (se_do D_l_promise hr rfl (sa_cons (se_var 3) (sa_nil))))
    (ss_cons (ss_if (st_w (sw_or (st_cmp (op_neD hr.units) os_ne (se_tup (sa_cons (se_prop D_Promise_reach hr (se_var 5) (by decide) pass0) (sa_cons (se_prop D_Promise_base hr (se_var 5) (by decide) pass0) (sa_cons (se_prop D_Promise_share hr (se_var 5) (by decide) pass0) (sa_cons (se_prop D_Promise_copies hr (se_var 5) (by decide) pass0) (sa_nil)))))) (se_var 3)) (sw_or1 (st_cmp (op_neD hr.units) os_ne (se_meth01 D_Promise_horizon hr (se_var 5)) (se_do D_l_horizon hr rfl (sa_cons (se_var 3) (sa_nil))))))) (ss_one (ss_ret (se_bl))) (ss_nil))
    (ss_cons (ss_if (st_cmp (op_neD hr.units) os_ne (se_lc rfl sc_law.nd (own := [("_law_age", 10)]) (si_range1 rfl B.b_range (sa_cons (se_op op_addU os_add (se_ix (se_var 3) (se_int)) (se_int)) (sa_nil))) (blkOk_by (by kernel_rfl)) (fun _ _ _ _ _ => pg_name (i := 10) sc_law.nd rfl (by first | exact Or.inl rfl | exact Or.inr rfl)) (gok_N (i := 10) (by decide)) (fun _ _ _ _ _ => sts_nil) (fun _ _ _ _ _ => se_meth1 D_Promise_slack hr (se_var 5) (sa_cons (se_var 10) (sa_nil)))) (se_lc rfl sc_law.nd (own := [("_law_age", 10)]) (si_range1 rfl B.b_range (sa_cons (se_op op_addU os_add (se_ix (se_var 3) (se_int)) (se_int)) (sa_nil))) (blkOk_by (by kernel_rfl)) (fun _ _ _ _ _ => pg_name (i := 10) sc_law.nd rfl (by first | exact Or.inl rfl | exact Or.inr rfl)) (gok_N (i := 10) (by decide)) (fun _ _ _ _ _ => sts_nil) (fun _ _ _ _ _ => se_do D_l_slack hr rfl (sa_cons (se_var 3) (sa_cons (se_var 10) (sa_nil)))))) (ss_one (ss_ret (se_bl))) (ss_nil))
    (ss_cons (ss_if (st_w (sw_or (st_neI D_Promise_eq B.q_Promise B.ne_Promise hr (se_var 5) (se_do D_l_promise hr rfl (sa_cons (se_var 3) (sa_nil)))) (sw_or1 (st_eqI D_Promise_eq B.q_Promise hr (se_var 5) (se_makeK D_Promise_init hr rfl (sa_cons (se_ix (se_var 3) (se_int)) (sa_cons (se_ix (se_var 3) (se_int)) (sa_nil))) (sk_cons (se_ix (se_var 3) (se_int)) (sk_cons (se_op op_sub os_sub (se_int) (se_ix (se_var 3) (se_int))) (sk_nil)))))))) (ss_one (ss_ret (se_bl))) (ss_nil))
    (ss_cons (ss_if (st_cmp (op_neD hr.units) os_ne (se_do D_states hr rfl (sa_cons (se_var 5) (sa_cons (se_var 4) (sa_nil)))) (se_do D_l_states hr rfl (sa_cons (se_var 3) (sa_cons (se_var 4) (sa_nil))))) (ss_one (ss_ret (se_bl))) (ss_nil))
    (ss_one (ss_for (own := [6]) PassesOwn.never rfl (si_range1 rfl B.b_range (sa_cons (se_int) (sa_nil))) (pg_name (i := 6) sc_law.nd rfl (by first | exact Or.inl rfl | exact Or.inr rfl)) (gok_N (i := 6) (by decide)) (ss_cons (ss_set (i := 7) sc_law.nd rfl (by first | exact Or.inl rfl | exact Or.inr rfl) (se_callTy call_tuple_of cs_tuple rfl B.b_tuple (by decide +kernel) (sa_cons (se_lc rfl sc_law.nd (own := [("_law_age", 10)]) (si_range1 rfl B.b_range (sa_cons (se_op op_addU os_add (se_do D_l_horizon hr rfl (sa_cons (se_var 3) (sa_nil))) (se_int)) (sa_nil))) (blkOk_by (by kernel_rfl)) (fun _ _ _ _ _ => pg_name (i := 10) sc_law.nd rfl (by first | exact Or.inl rfl | exact Or.inr rfl)) (gok_N (i := 10) (by decide)) (fun _ _ _ _ _ => sts_one (st_cmp (op_eqD hr.units) os_eq (se_do D_l_take hr rfl (sa_cons (se_var 1) (sa_cons (se_int) (sa_nil)))) (se_int))) (fun _ _ _ _ _ => se_var 10)) (sa_nil))))
    (ss_cons (ss_if (st_w (sw_or (st_cmp (op_neD hr.units) os_ne (se_do D_broken hr rfl (sa_cons (se_var 5) (sa_cons (se_var 7) (sa_nil)))) (se_do D_l_broken hr rfl (sa_cons (se_var 3) (sa_cons (se_var 7) (sa_nil))))) (sw_or1 (st_cmp (op_neD hr.units) os_ne (se_do D_keeps hr rfl (sa_cons (se_var 5) (sa_cons (se_var 7) (sa_nil)))) (se_cmp (op_eqD hr.units) os_eq (se_do D_l_broken hr rfl (sa_cons (se_var 3) (sa_cons (se_var 7) (sa_nil)))) (se_lst (sa_nil))))))) (ss_one (ss_ret (se_bl))) (ss_nil))
    (ss_cons (ss_set (i := 8) sc_law.nd rfl (by first | exact Or.inl rfl | exact Or.inr rfl) (se_do D_l_grown hr rfl (sa_cons (se_var 3) (sa_cons (se_var 7) (sa_nil)))))
    (ss_cons (ss_set (i := 9) sc_law.nd rfl (by first | exact Or.inl rfl | exact Or.inr rfl) (se_callTy call_tuple_of cs_tuple rfl B.b_tuple (by decide +kernel) (sa_cons (se_lc rfl sc_law.nd (own := [("_law_age", 10)]) (si_seq (se_var 8)) (blkOk_by (by kernel_rfl)) (fun _ _ _ _ _ => pg_name (i := 10) sc_law.nd rfl (by first | exact Or.inl rfl | exact Or.inr rfl)) (gok_N (i := 10) (by decide)) (fun _ _ _ _ _ => sts_one (st_cmp (op_eqD hr.units) os_eq (se_do D_l_take hr rfl (sa_cons (se_var 1) (sa_cons (se_int) (sa_nil)))) (se_int))) (fun _ _ _ _ _ => se_var 10)) (sa_nil))))
    (ss_cons (ss_if (st_w (sw_or (st_cmp (op_neD hr.units) os_ne (se_do D_grown hr rfl (sa_cons (se_var 5) (sa_cons (se_var 7) (sa_nil)))) (se_callTy call_tuple_of cs_tuple rfl B.b_tuple (by decide +kernel) (sa_cons (se_var 8) (sa_nil)))) (sw_or1 (st_cmp (op_neD hr.units) os_ne (se_do D_after hr rfl (sa_cons (se_var 5) (sa_cons (se_var 7) (sa_cons (se_var 9) (sa_nil))))) (se_var 9))))) (ss_one (ss_ret (se_bl))) (ss_nil))
    (ss_one (ss_if (st_cmp (op_neD hr.units) os_ne (se_do D_choices hr rfl (sa_cons (se_var 5) (sa_cons (se_var 4) (sa_cons (se_var 7) (sa_nil))))) (se_do D_l_choices hr rfl (sa_cons (se_var 3) (sa_cons (se_var 4) (sa_cons (se_var 7) (sa_nil)))))) (ss_one (ss_ret (se_bl))) (ss_nil)))))))))))))))))
    (ss_one (ss_ret (se_bl)))))
end
end Mv

set_option maxHeartbeats 4000000
namespace Mv
open PySem PySem.Spec L2
open PyProof.Rows hiding St
def noList (K : PySem.W.Frag) : Bool := K.all fun p => match p.2.cls with | .type n => !(n == "list") | _ => true
theorem noList_ne {K : PySem.W.Frag} (z : noList K = true) {a : Addr} {o : Obj} (e : K.lookup a = some o) : o.cls ≠ .type "list" := fun q => by
  have hm : ∀ (K : PySem.W.Frag), K.lookup a = some o → ∃ p ∈ K, p.2 = o := fun K => by
    induction K with
    | nil => intro e; cases e
    | cons x K ih =>
      intro e
      rw [List.lookup_cons] at e
      split at e
      · cases e
        exact ⟨x, List.mem_cons_self .., rfl⟩
      · obtain ⟨p, h1, h2⟩ := ih e
        exact ⟨p, List.mem_cons_of_mem _ h1, h2⟩
  obtain ⟨p, h1, h2⟩ := hm K e
  have := List.all_eq_true.mp z p h1
  rw [h2, q] at this
  cases this
theorem script_in {K : PySem.W.Frag} {mg : Str → Option Value} (z : noList K = true) {H : Hp} {a : Addr} {ns : List Int} (hl : ns.length ≤ 63) (hT : LamX.Tabs (tabsK K) H) (hS : SqL K H a (ns.map V.int)) : ∃ h0, HR ⟨K, mg⟩ [a] H h0 ∧ IsVs ⟨K, mg⟩ [a] H [.ref 0] [.ref a] ∧ HasScript h0 0 ns := by
  have hi : ∀ ns : List Int, IsVs ⟨K, mg⟩ [a] H (ivs ns) (ns.map V.int) := fun ns => by
    induction ns with
    | nil => exact .nil
    | cons n ns ih => exact .cons (.int n) ih
  have hz : (ivs ns).length ≤ sizeLine := by rw [ints_length]; exact Nat.le_trans hl (by decide)
  rcases hS with (q | ⟨o, q⟩) | ⟨o, _, _, q, c, _⟩
  · refine ⟨[.lst (ivs ns)], ⟨rfl, by simp, fun n b u e1 e2 => ?_, hT⟩, .cons (.ref rfl) .nil, .inl rfl⟩
    cases n with
    | zero =>
      cases e1
      cases e2
      exact ⟨hz, _, q, hi ns⟩
    | succ n => cases e1
  · refine ⟨[.frz (ivs ns)], ⟨rfl, by simp, fun n b u e1 e2 => ?_, hT⟩, .cons (.ref rfl) .nil, .inr rfl⟩
    cases n with
    | zero =>
      cases e1
      cases e2
      exact ⟨hz, o, _, q, hi ns⟩
    | succ n => cases e1
  · exact absurd c (noList_ne z q)
def lamsAll (K : PySem.W.Frag) (xs : List Str) : Bool := xs.all fun x => (PySem.W.tabIn K x).isSome
theorem lamsAll_at {K : PySem.W.Frag} {xs : List Str} (z : lamsAll K xs = true) {x : Str} (h : x ∈ xs) : ∃ c P, PySem.W.tabIn K x = some (c, P) := by
  obtain ⟨⟨c, P⟩, e⟩ := Option.isSome_iff_exists.mp (List.all_eq_true.mp z x h)
  exact ⟨c, P, e⟩
def spAny (K : PySem.W.Frag) (np : Nat) (F : List MV → MH → R MV) : Sp := fun vs H Q E => ∀ mg, spM ⟨K, mg⟩ np F vs H Q E
theorem all_mk {P : Program} {w : World} {K : PySem.W.Frag} {h : Heap} {mg : Str → Option Value} {fa : Addr} (X : K.In h) (G : h.Ns mainGlobals mg) (hfa : mg "law" = some (.ref fa)) (lz : lamsOk K = true) (la : lamsAll K ["choices_of", "good_states"] = true)
    {A_Promise : Addr}
    (aC_Promise : PySem.W.nsIn K mainGlobals "Promise" = some (some (.ref A_Promise)))
    (pg_Promise : PySem.W.plainGet K A_Promise Str.empty = true)
    (hd_Promise : PySem.W.hasDictIn K A_Promise = true)
    (po_Promise : PySem.W.plainOver K A_Promise = true)
    (sa_Promise : PySem.W.findIn K (.ref A_Promise) "__setattr__" = some (some (.builtin "object.__setattr__")))
    (mk_Promise : PySem.W.makesIn K A_Promise = true)
    (kc_Promise : PySem.W.keepIn K (.ref A_Promise) = true)
    {f0 : Addr}
    {od0 an0 : Option Addr}
    {sl0 : Array (Option Value)}
    {oc0 kV0 dc0 pm0 cd0 ct0 : Value}
    (a0 : PySem.W.nsIn K mainGlobals "is_integer" = some (some (.ref f0)))
    (l0 : K.lookup f0 = some ⟨oc0, od0, .func (PySem.W.fnOf "is_integer" "is_integer" (defArgs s_is_integer) (defBody s_is_integer) (defScope s_is_integer) .none kV0 dc0 pm0 an0 cd0 ct0), sl0⟩)
    (c0 : PySem.W.codeIn K cd0 "is_integer" = true)
    (k0 : PySem.W.keepIn K (.ref f0) = true)
    {f1 : Addr}
    {od1 an1 : Option Addr}
    {sl1 : Array (Option Value)}
    {oc1 kV1 dc1 pm1 cd1 ct1 : Value}
    (a1 : PySem.W.nsIn K mainGlobals "is_share" = some (some (.ref f1)))
    (l1 : K.lookup f1 = some ⟨oc1, od1, .func (PySem.W.fnOf "is_share" "is_share" (defArgs s_is_share) (defBody s_is_share) (defScope s_is_share) .none kV1 dc1 pm1 an1 cd1 ct1), sl1⟩)
    (c1 : PySem.W.codeIn K cd1 "is_share" = true)
    (k1 : PySem.W.keepIn K (.ref f1) = true)
    {f2 : Addr}
    {od2 an2 : Option Addr}
    {sl2 : Array (Option Value)}
    {oc2 kV2 dc2 pm2 cd2 ct2 : Value}
    (a2 : PySem.W.findIn K (.ref A_Promise) "__init__" = some (some (.ref f2)))
    (i2 : PySem.W.isFn K (.ref f2) = true)
    (l2 : K.lookup f2 = some ⟨oc2, od2, .func (PySem.W.fnOf "__init__" "Promise.__init__" (defArgs s_Promise_init) (defBody s_Promise_init) (defScope s_Promise_init) .none kV2 dc2 pm2 an2 cd2 ct2), sl2⟩)
    (c2 : PySem.W.codeIn K cd2 "Promise.__init__" = true)
    (k2 : PySem.W.keepIn K (.ref f2) = true)
    {f3 : Addr}
    {od3 an3 : Option Addr}
    {sl3 : Array (Option Value)}
    {oc3 kV3 dc3 pm3 cd3 ct3 : Value}
    {p3 : Addr}
    {rest3 : List Value}
    (a3 : PySem.W.findIn K (.ref A_Promise) "reach" = some (some (.ref p3)))
    (g3 : PySem.W.specialIn K (.ref p3) "__get__" = some (some (.builtin "property.__get__")))
    (t3 : PySem.W.takesIn K (.ref p3) = some true)
    (r3 : PySem.W.recIn K p3 "property" = some (.ref f3 :: rest3))
    (l3 : K.lookup f3 = some ⟨oc3, od3, .func (PySem.W.fnOf "reach" "Promise.reach" (defArgs s_Promise_reach) (defBody s_Promise_reach) (defScope s_Promise_reach) .none kV3 dc3 pm3 an3 cd3 ct3), sl3⟩)
    (c3 : PySem.W.codeIn K cd3 "Promise.reach" = true)
    (k3 : PySem.W.keepIn K (.ref f3) = true)
    {f4 : Addr}
    {od4 an4 : Option Addr}
    {sl4 : Array (Option Value)}
    {oc4 kV4 dc4 pm4 cd4 ct4 : Value}
    {p4 : Addr}
    {rest4 : List Value}
    (a4 : PySem.W.findIn K (.ref A_Promise) "base" = some (some (.ref p4)))
    (g4 : PySem.W.specialIn K (.ref p4) "__get__" = some (some (.builtin "property.__get__")))
    (t4 : PySem.W.takesIn K (.ref p4) = some true)
    (r4 : PySem.W.recIn K p4 "property" = some (.ref f4 :: rest4))
    (l4 : K.lookup f4 = some ⟨oc4, od4, .func (PySem.W.fnOf "base" "Promise.base" (defArgs s_Promise_base) (defBody s_Promise_base) (defScope s_Promise_base) .none kV4 dc4 pm4 an4 cd4 ct4), sl4⟩)
    (c4 : PySem.W.codeIn K cd4 "Promise.base" = true)
    (k4 : PySem.W.keepIn K (.ref f4) = true)
    {f5 : Addr}
    {od5 an5 : Option Addr}
    {sl5 : Array (Option Value)}
    {oc5 kV5 dc5 pm5 cd5 ct5 : Value}
    {p5 : Addr}
    {rest5 : List Value}
    (a5 : PySem.W.findIn K (.ref A_Promise) "share" = some (some (.ref p5)))
    (g5 : PySem.W.specialIn K (.ref p5) "__get__" = some (some (.builtin "property.__get__")))
    (t5 : PySem.W.takesIn K (.ref p5) = some true)
    (r5 : PySem.W.recIn K p5 "property" = some (.ref f5 :: rest5))
    (l5 : K.lookup f5 = some ⟨oc5, od5, .func (PySem.W.fnOf "share" "Promise.share" (defArgs s_Promise_share) (defBody s_Promise_share) (defScope s_Promise_share) .none kV5 dc5 pm5 an5 cd5 ct5), sl5⟩)
    (c5 : PySem.W.codeIn K cd5 "Promise.share" = true)
    (k5 : PySem.W.keepIn K (.ref f5) = true)
    {f6 : Addr}
    {od6 an6 : Option Addr}
    {sl6 : Array (Option Value)}
    {oc6 kV6 dc6 pm6 cd6 ct6 : Value}
    {p6 : Addr}
    {rest6 : List Value}
    (a6 : PySem.W.findIn K (.ref A_Promise) "copies" = some (some (.ref p6)))
    (g6 : PySem.W.specialIn K (.ref p6) "__get__" = some (some (.builtin "property.__get__")))
    (t6 : PySem.W.takesIn K (.ref p6) = some true)
    (r6 : PySem.W.recIn K p6 "property" = some (.ref f6 :: rest6))
    (l6 : K.lookup f6 = some ⟨oc6, od6, .func (PySem.W.fnOf "copies" "Promise.copies" (defArgs s_Promise_copies) (defBody s_Promise_copies) (defScope s_Promise_copies) .none kV6 dc6 pm6 an6 cd6 ct6), sl6⟩)
    (c6 : PySem.W.codeIn K cd6 "Promise.copies" = true)
    (k6 : PySem.W.keepIn K (.ref f6) = true)
    {f7 : Addr}
    {od7 an7 : Option Addr}
    {sl7 : Array (Option Value)}
    {oc7 kV7 dc7 pm7 cd7 ct7 : Value}
    (a7 : PySem.W.findIn K (.ref A_Promise) "all_parts" = some (some (.ref f7)))
    (i7 : PySem.W.isFn K (.ref f7) = true)
    (l7 : K.lookup f7 = some ⟨oc7, od7, .func (PySem.W.fnOf "all_parts" "Promise.all_parts" (defArgs s_Promise_all_parts) (defBody s_Promise_all_parts) (defScope s_Promise_all_parts) .none kV7 dc7 pm7 an7 cd7 ct7), sl7⟩)
    (c7 : PySem.W.codeIn K cd7 "Promise.all_parts" = true)
    (k7 : PySem.W.keepIn K (.ref f7) = true)
    {f8 : Addr}
    {od8 an8 : Option Addr}
    {sl8 : Array (Option Value)}
    {oc8 kV8 dc8 pm8 cd8 ct8 : Value}
    (a8 : PySem.W.findIn K (.ref A_Promise) "__eq__" = some (some (.ref f8)))
    (i8 : PySem.W.isFn K (.ref f8) = true)
    (l8 : K.lookup f8 = some ⟨oc8, od8, .func (PySem.W.fnOf "__eq__" "Promise.__eq__" (defArgs s_Promise_eq) (defBody s_Promise_eq) (defScope s_Promise_eq) .none kV8 dc8 pm8 an8 cd8 ct8), sl8⟩)
    (c8 : PySem.W.codeIn K cd8 "Promise.__eq__" = true)
    (k8 : PySem.W.keepIn K (.ref f8) = true)
    {f9 : Addr}
    {od9 an9 : Option Addr}
    {sl9 : Array (Option Value)}
    {oc9 kV9 dc9 pm9 cd9 ct9 : Value}
    (a9 : PySem.W.nsIn K mainGlobals "slack_at" = some (some (.ref f9)))
    (l9 : K.lookup f9 = some ⟨oc9, od9, .func (PySem.W.fnOf "slack_at" "slack_at" (defArgs s_slack_at) (defBody s_slack_at) (defScope s_slack_at) .none kV9 dc9 pm9 an9 cd9 ct9), sl9⟩)
    (c9 : PySem.W.codeIn K cd9 "slack_at" = true)
    (k9 : PySem.W.keepIn K (.ref f9) = true)
    {f10 : Addr}
    {od10 an10 : Option Addr}
    {sl10 : Array (Option Value)}
    {oc10 kV10 dc10 pm10 cd10 ct10 : Value}
    (a10 : PySem.W.findIn K (.ref A_Promise) "slack" = some (some (.ref f10)))
    (i10 : PySem.W.isFn K (.ref f10) = true)
    (l10 : K.lookup f10 = some ⟨oc10, od10, .func (PySem.W.fnOf "slack" "Promise.slack" (defArgs s_Promise_slack) (defBody s_Promise_slack) (defScope s_Promise_slack) .none kV10 dc10 pm10 an10 cd10 ct10), sl10⟩)
    (c10 : PySem.W.codeIn K cd10 "Promise.slack" = true)
    (k10 : PySem.W.keepIn K (.ref f10) = true)
    {f11 : Addr}
    {od11 an11 : Option Addr}
    {sl11 : Array (Option Value)}
    {oc11 kV11 dc11 pm11 cd11 ct11 : Value}
    (a11 : PySem.W.nsIn K mainGlobals "horizon_of" = some (some (.ref f11)))
    (l11 : K.lookup f11 = some ⟨oc11, od11, .func (PySem.W.fnOf "horizon_of" "horizon_of" (defArgs s_horizon_of) (defBody s_horizon_of) (defScope s_horizon_of) .none kV11 dc11 pm11 an11 cd11 ct11), sl11⟩)
    (c11 : PySem.W.codeIn K cd11 "horizon_of" = true)
    (k11 : PySem.W.keepIn K (.ref f11) = true)
    {f12 : Addr}
    {od12 an12 : Option Addr}
    {sl12 : Array (Option Value)}
    {oc12 kV12 dc12 pm12 cd12 ct12 : Value}
    (a12 : PySem.W.findIn K (.ref A_Promise) "horizon" = some (some (.ref f12)))
    (i12 : PySem.W.isFn K (.ref f12) = true)
    (l12 : K.lookup f12 = some ⟨oc12, od12, .func (PySem.W.fnOf "horizon" "Promise.horizon" (defArgs s_Promise_horizon) (defBody s_Promise_horizon) (defScope s_Promise_horizon) .none kV12 dc12 pm12 an12 cd12 ct12), sl12⟩)
    (c12 : PySem.W.codeIn K cd12 "Promise.horizon" = true)
    (k12 : PySem.W.keepIn K (.ref f12) = true)
    {f13 : Addr}
    {od13 an13 : Option Addr}
    {sl13 : Array (Option Value)}
    {oc13 kV13 dc13 pm13 cd13 ct13 : Value}
    (a13 : PySem.W.nsIn K mainGlobals "check_promise" = some (some (.ref f13)))
    (l13 : K.lookup f13 = some ⟨oc13, od13, .func (PySem.W.fnOf "check_promise" "check_promise" (defArgs s_check_promise) (defBody s_check_promise) (defScope s_check_promise) .none kV13 dc13 pm13 an13 cd13 ct13), sl13⟩)
    (c13 : PySem.W.codeIn K cd13 "check_promise" = true)
    (k13 : PySem.W.keepIn K (.ref f13) = true)
    {f14 : Addr}
    {od14 an14 : Option Addr}
    {sl14 : Array (Option Value)}
    {oc14 kV14 dc14 pm14 cd14 ct14 : Value}
    (a14 : PySem.W.nsIn K mainGlobals "is_state" = some (some (.ref f14)))
    (l14 : K.lookup f14 = some ⟨oc14, od14, .func (PySem.W.fnOf "is_state" "is_state" (defArgs s_is_state) (defBody s_is_state) (defScope s_is_state) .none kV14 dc14 pm14 an14 cd14 ct14), sl14⟩)
    (c14 : PySem.W.codeIn K cd14 "is_state" = true)
    (k14 : PySem.W.keepIn K (.ref f14) = true)
    {f15 : Addr}
    {od15 an15 : Option Addr}
    {sl15 : Array (Option Value)}
    {oc15 kV15 dc15 pm15 cd15 ct15 : Value}
    (a15 : PySem.W.nsIn K mainGlobals "check_state" = some (some (.ref f15)))
    (l15 : K.lookup f15 = some ⟨oc15, od15, .func (PySem.W.fnOf "check_state" "check_state" (defArgs s_check_state) (defBody s_check_state) (defScope s_check_state) .none kV15 dc15 pm15 an15 cd15 ct15), sl15⟩)
    (c15 : PySem.W.codeIn K cd15 "check_state" = true)
    (k15 : PySem.W.keepIn K (.ref f15) = true)
    {f16 : Addr}
    {od16 an16 : Option Addr}
    {sl16 : Array (Option Value)}
    {oc16 kV16 dc16 pm16 cd16 ct16 : Value}
    (a16 : PySem.W.nsIn K mainGlobals "check_most" = some (some (.ref f16)))
    (l16 : K.lookup f16 = some ⟨oc16, od16, .func (PySem.W.fnOf "check_most" "check_most" (defArgs s_check_most) (defBody s_check_most) (defScope s_check_most) .none kV16 dc16 pm16 an16 cd16 ct16), sl16⟩)
    (c16 : PySem.W.codeIn K cd16 "check_most" = true)
    (k16 : PySem.W.keepIn K (.ref f16) = true)
    {f17 : Addr}
    {od17 an17 : Option Addr}
    {sl17 : Array (Option Value)}
    {oc17 kV17 dc17 pm17 cd17 ct17 : Value}
    (a17 : PySem.W.nsIn K mainGlobals "holds_for" = some (some (.ref f17)))
    (l17 : K.lookup f17 = some ⟨oc17, od17, .func (PySem.W.fnOf "holds_for" "holds_for" (defArgs s_holds_for) (defBody s_holds_for) (defScope s_holds_for) .none kV17 dc17 pm17 an17 cd17 ct17), sl17⟩)
    (c17 : PySem.W.codeIn K cd17 "holds_for" = true)
    (k17 : PySem.W.keepIn K (.ref f17) = true)
    {f18 : Addr}
    {od18 an18 : Option Addr}
    {sl18 : Array (Option Value)}
    {oc18 kV18 dc18 pm18 cd18 ct18 : Value}
    (a18 : PySem.W.nsIn K mainGlobals "is_good" = some (some (.ref f18)))
    (l18 : K.lookup f18 = some ⟨oc18, od18, .func (PySem.W.fnOf "is_good" "is_good" (defArgs s_is_good) (defBody s_is_good) (defScope s_is_good) .none kV18 dc18 pm18 an18 cd18 ct18), sl18⟩)
    (c18 : PySem.W.codeIn K cd18 "is_good" = true)
    (k18 : PySem.W.keepIn K (.ref f18) = true)
    {f19 : Addr}
    {od19 an19 : Option Addr}
    {sl19 : Array (Option Value)}
    {oc19 kV19 dc19 pm19 cd19 ct19 : Value}
    (a19 : PySem.W.nsIn K mainGlobals "aged" = some (some (.ref f19)))
    (l19 : K.lookup f19 = some ⟨oc19, od19, .func (PySem.W.fnOf "aged" "aged" (defArgs s_aged) (defBody s_aged) (defScope s_aged) .none kV19 dc19 pm19 an19 cd19 ct19), sl19⟩)
    (c19 : PySem.W.codeIn K cd19 "aged" = true)
    (k19 : PySem.W.keepIn K (.ref f19) = true)
    {f20 : Addr}
    {od20 an20 : Option Addr}
    {sl20 : Array (Option Value)}
    {oc20 kV20 dc20 pm20 cd20 ct20 : Value}
    (a20 : PySem.W.nsIn K mainGlobals "choices_of" = some (some (.ref f20)))
    (l20 : K.lookup f20 = some ⟨oc20, od20, .func (PySem.W.fnOf "choices_of" "choices_of" (defArgs s_choices_of) (defBody s_choices_of) (defScope s_choices_of) .none kV20 dc20 pm20 an20 cd20 ct20), sl20⟩)
    (c20 : PySem.W.codeIn K cd20 "choices_of" = true)
    (k20 : PySem.W.keepIn K (.ref f20) = true)
    {f21 : Addr}
    {od21 an21 : Option Addr}
    {sl21 : Array (Option Value)}
    {oc21 kV21 dc21 pm21 cd21 ct21 : Value}
    (a21 : PySem.W.nsIn K mainGlobals "good_states" = some (some (.ref f21)))
    (l21 : K.lookup f21 = some ⟨oc21, od21, .func (PySem.W.fnOf "good_states" "good_states" (defArgs s_good_states) (defBody s_good_states) (defScope s_good_states) .none kV21 dc21 pm21 an21 cd21 ct21), sl21⟩)
    (c21 : PySem.W.codeIn K cd21 "good_states" = true)
    (k21 : PySem.W.keepIn K (.ref f21) = true)
    {f22 : Addr}
    {od22 an22 : Option Addr}
    {sl22 : Array (Option Value)}
    {oc22 kV22 dc22 pm22 cd22 ct22 : Value}
    (a22 : PySem.W.nsIn K mainGlobals "keeps" = some (some (.ref f22)))
    (l22 : K.lookup f22 = some ⟨oc22, od22, .func (PySem.W.fnOf "keeps" "keeps" (defArgs s_keeps) (defBody s_keeps) (defScope s_keeps) .none kV22 dc22 pm22 an22 cd22 ct22), sl22⟩)
    (c22 : PySem.W.codeIn K cd22 "keeps" = true)
    (k22 : PySem.W.keepIn K (.ref f22) = true)
    {f23 : Addr}
    {od23 an23 : Option Addr}
    {sl23 : Array (Option Value)}
    {oc23 kV23 dc23 pm23 cd23 ct23 : Value}
    (a23 : PySem.W.nsIn K mainGlobals "broken" = some (some (.ref f23)))
    (l23 : K.lookup f23 = some ⟨oc23, od23, .func (PySem.W.fnOf "broken" "broken" (defArgs s_broken) (defBody s_broken) (defScope s_broken) .none kV23 dc23 pm23 an23 cd23 ct23), sl23⟩)
    (c23 : PySem.W.codeIn K cd23 "broken" = true)
    (k23 : PySem.W.keepIn K (.ref f23) = true)
    {f24 : Addr}
    {od24 an24 : Option Addr}
    {sl24 : Array (Option Value)}
    {oc24 kV24 dc24 pm24 cd24 ct24 : Value}
    (a24 : PySem.W.nsIn K mainGlobals "grown" = some (some (.ref f24)))
    (l24 : K.lookup f24 = some ⟨oc24, od24, .func (PySem.W.fnOf "grown" "grown" (defArgs s_grown) (defBody s_grown) (defScope s_grown) .none kV24 dc24 pm24 an24 cd24 ct24), sl24⟩)
    (c24 : PySem.W.codeIn K cd24 "grown" = true)
    (k24 : PySem.W.keepIn K (.ref f24) = true)
    {f25 : Addr}
    {od25 an25 : Option Addr}
    {sl25 : Array (Option Value)}
    {oc25 kV25 dc25 pm25 cd25 ct25 : Value}
    (a25 : PySem.W.nsIn K mainGlobals "choices" = some (some (.ref f25)))
    (l25 : K.lookup f25 = some ⟨oc25, od25, .func (PySem.W.fnOf "choices" "choices" (defArgs s_choices) (defBody s_choices) (defScope s_choices) .none kV25 dc25 pm25 an25 cd25 ct25), sl25⟩)
    (c25 : PySem.W.codeIn K cd25 "choices" = true)
    (k25 : PySem.W.keepIn K (.ref f25) = true)
    {f26 : Addr}
    {od26 an26 : Option Addr}
    {sl26 : Array (Option Value)}
    {oc26 kV26 dc26 pm26 cd26 ct26 : Value}
    (a26 : PySem.W.nsIn K mainGlobals "after" = some (some (.ref f26)))
    (l26 : K.lookup f26 = some ⟨oc26, od26, .func (PySem.W.fnOf "after" "after" (defArgs s_after) (defBody s_after) (defScope s_after) .none kV26 dc26 pm26 an26 cd26 ct26), sl26⟩)
    (c26 : PySem.W.codeIn K cd26 "after" = true)
    (k26 : PySem.W.keepIn K (.ref f26) = true)
    {f27 : Addr}
    {od27 an27 : Option Addr}
    {sl27 : Array (Option Value)}
    {oc27 kV27 dc27 pm27 cd27 ct27 : Value}
    (a27 : PySem.W.nsIn K mainGlobals "states" = some (some (.ref f27)))
    (l27 : K.lookup f27 = some ⟨oc27, od27, .func (PySem.W.fnOf "states" "states" (defArgs s_states) (defBody s_states) (defScope s_states) .none kV27 dc27 pm27 an27 cd27 ct27), sl27⟩)
    (c27 : PySem.W.codeIn K cd27 "states" = true)
    (k27 : PySem.W.keepIn K (.ref f27) = true)
    {f28 : Addr}
    {od28 an28 : Option Addr}
    {sl28 : Array (Option Value)}
    {oc28 kV28 dc28 pm28 cd28 ct28 : Value}
    (a28 : PySem.W.nsIn K mainGlobals "_law_draw" = some (some (.ref f28)))
    (l28 : K.lookup f28 = some ⟨oc28, od28, .func (PySem.W.fnOf "_law_draw" "_law_draw" (defArgs s_l_draw) (defBody s_l_draw) (defScope s_l_draw) .none kV28 dc28 pm28 an28 cd28 ct28), sl28⟩)
    (c28 : PySem.W.codeIn K cd28 "_law_draw" = true)
    (k28 : PySem.W.keepIn K (.ref f28) = true)
    {f29 : Addr}
    {od29 an29 : Option Addr}
    {sl29 : Array (Option Value)}
    {oc29 kV29 dc29 pm29 cd29 ct29 : Value}
    (a29 : PySem.W.nsIn K mainGlobals "_law_cell_at" = some (some (.ref f29)))
    (l29 : K.lookup f29 = some ⟨oc29, od29, .func (PySem.W.fnOf "_law_cell_at" "_law_cell_at" (defArgs s_l_cell_at) (defBody s_l_cell_at) (defScope s_l_cell_at) .none kV29 dc29 pm29 an29 cd29 ct29), sl29⟩)
    (c29 : PySem.W.codeIn K cd29 "_law_cell_at" = true)
    (k29 : PySem.W.keepIn K (.ref f29) = true)
    {f30 : Addr}
    {od30 an30 : Option Addr}
    {sl30 : Array (Option Value)}
    {oc30 kV30 dc30 pm30 cd30 ct30 : Value}
    (a30 : PySem.W.nsIn K mainGlobals "_law_digits" = some (some (.ref f30)))
    (l30 : K.lookup f30 = some ⟨oc30, od30, .func (PySem.W.fnOf "_law_digits" "_law_digits" (defArgs s_l_digits) (defBody s_l_digits) (defScope s_l_digits) .none kV30 dc30 pm30 an30 cd30 ct30), sl30⟩)
    (c30 : PySem.W.codeIn K cd30 "_law_digits" = true)
    (k30 : PySem.W.keepIn K (.ref f30) = true)
    {f31 : Addr}
    {od31 an31 : Option Addr}
    {sl31 : Array (Option Value)}
    {oc31 kV31 dc31 pm31 cd31 ct31 : Value}
    (a31 : PySem.W.nsIn K mainGlobals "_law_take" = some (some (.ref f31)))
    (l31 : K.lookup f31 = some ⟨oc31, od31, .func (PySem.W.fnOf "_law_take" "_law_take" (defArgs s_l_take) (defBody s_l_take) (defScope s_l_take) .none kV31 dc31 pm31 an31 cd31 ct31), sl31⟩)
    (c31 : PySem.W.codeIn K cd31 "_law_take" = true)
    (k31 : PySem.W.keepIn K (.ref f31) = true)
    {f32 : Addr}
    {od32 an32 : Option Addr}
    {sl32 : Array (Option Value)}
    {oc32 kV32 dc32 pm32 cd32 ct32 : Value}
    (a32 : PySem.W.nsIn K mainGlobals "_law_pool" = some (some (.ref f32)))
    (l32 : K.lookup f32 = some ⟨oc32, od32, .func (PySem.W.fnOf "_law_pool" "_law_pool" (defArgs s_l_pool) (defBody s_l_pool) (defScope s_l_pool) .none kV32 dc32 pm32 an32 cd32 ct32), sl32⟩)
    (c32 : PySem.W.codeIn K cd32 "_law_pool" = true)
    (k32 : PySem.W.keepIn K (.ref f32) = true)
    {f33 : Addr}
    {od33 an33 : Option Addr}
    {sl33 : Array (Option Value)}
    {oc33 kV33 dc33 pm33 cd33 ct33 : Value}
    (a33 : PySem.W.nsIn K mainGlobals "_law_plan" = some (some (.ref f33)))
    (l33 : K.lookup f33 = some ⟨oc33, od33, .func (PySem.W.fnOf "_law_plan" "_law_plan" (defArgs s_l_plan) (defBody s_l_plan) (defScope s_l_plan) .none kV33 dc33 pm33 an33 cd33 ct33), sl33⟩)
    (c33 : PySem.W.codeIn K cd33 "_law_plan" = true)
    (k33 : PySem.W.keepIn K (.ref f33) = true)
    {f34 : Addr}
    {od34 an34 : Option Addr}
    {sl34 : Array (Option Value)}
    {oc34 kV34 dc34 pm34 cd34 ct34 : Value}
    (a34 : PySem.W.nsIn K mainGlobals "_law_promise" = some (some (.ref f34)))
    (l34 : K.lookup f34 = some ⟨oc34, od34, .func (PySem.W.fnOf "_law_promise" "_law_promise" (defArgs s_l_promise) (defBody s_l_promise) (defScope s_l_promise) .none kV34 dc34 pm34 an34 cd34 ct34), sl34⟩)
    (c34 : PySem.W.codeIn K cd34 "_law_promise" = true)
    (k34 : PySem.W.keepIn K (.ref f34) = true)
    {f35 : Addr}
    {od35 an35 : Option Addr}
    {sl35 : Array (Option Value)}
    {oc35 kV35 dc35 pm35 cd35 ct35 : Value}
    (a35 : PySem.W.nsIn K mainGlobals "_law_slack" = some (some (.ref f35)))
    (l35 : K.lookup f35 = some ⟨oc35, od35, .func (PySem.W.fnOf "_law_slack" "_law_slack" (defArgs s_l_slack) (defBody s_l_slack) (defScope s_l_slack) .none kV35 dc35 pm35 an35 cd35 ct35), sl35⟩)
    (c35 : PySem.W.codeIn K cd35 "_law_slack" = true)
    (k35 : PySem.W.keepIn K (.ref f35) = true)
    {f36 : Addr}
    {od36 an36 : Option Addr}
    {sl36 : Array (Option Value)}
    {oc36 kV36 dc36 pm36 cd36 ct36 : Value}
    (a36 : PySem.W.nsIn K mainGlobals "_law_horizon" = some (some (.ref f36)))
    (l36 : K.lookup f36 = some ⟨oc36, od36, .func (PySem.W.fnOf "_law_horizon" "_law_horizon" (defArgs s_l_horizon) (defBody s_l_horizon) (defScope s_l_horizon) .none kV36 dc36 pm36 an36 cd36 ct36), sl36⟩)
    (c36 : PySem.W.codeIn K cd36 "_law_horizon" = true)
    (k36 : PySem.W.keepIn K (.ref f36) = true)
    {f37 : Addr}
    {od37 an37 : Option Addr}
    {sl37 : Array (Option Value)}
    {oc37 kV37 dc37 pm37 cd37 ct37 : Value}
    (a37 : PySem.W.nsIn K mainGlobals "_law_broken" = some (some (.ref f37)))
    (l37 : K.lookup f37 = some ⟨oc37, od37, .func (PySem.W.fnOf "_law_broken" "_law_broken" (defArgs s_l_broken) (defBody s_l_broken) (defScope s_l_broken) .none kV37 dc37 pm37 an37 cd37 ct37), sl37⟩)
    (c37 : PySem.W.codeIn K cd37 "_law_broken" = true)
    (k37 : PySem.W.keepIn K (.ref f37) = true)
    {f38 : Addr}
    {od38 an38 : Option Addr}
    {sl38 : Array (Option Value)}
    {oc38 kV38 dc38 pm38 cd38 ct38 : Value}
    (a38 : PySem.W.nsIn K mainGlobals "_law_grown" = some (some (.ref f38)))
    (l38 : K.lookup f38 = some ⟨oc38, od38, .func (PySem.W.fnOf "_law_grown" "_law_grown" (defArgs s_l_grown) (defBody s_l_grown) (defScope s_l_grown) .none kV38 dc38 pm38 an38 cd38 ct38), sl38⟩)
    (c38 : PySem.W.codeIn K cd38 "_law_grown" = true)
    (k38 : PySem.W.keepIn K (.ref f38) = true)
    {f39 : Addr}
    {od39 an39 : Option Addr}
    {sl39 : Array (Option Value)}
    {oc39 kV39 dc39 pm39 cd39 ct39 : Value}
    (a39 : PySem.W.nsIn K mainGlobals "_law_parts" = some (some (.ref f39)))
    (l39 : K.lookup f39 = some ⟨oc39, od39, .func (PySem.W.fnOf "_law_parts" "_law_parts" (defArgs s_l_parts) (defBody s_l_parts) (defScope s_l_parts) .none kV39 dc39 pm39 an39 cd39 ct39), sl39⟩)
    (c39 : PySem.W.codeIn K cd39 "_law_parts" = true)
    (k39 : PySem.W.keepIn K (.ref f39) = true)
    {f40 : Addr}
    {od40 an40 : Option Addr}
    {sl40 : Array (Option Value)}
    {oc40 kV40 dc40 pm40 cd40 ct40 : Value}
    (a40 : PySem.W.nsIn K mainGlobals "_law_choices" = some (some (.ref f40)))
    (l40 : K.lookup f40 = some ⟨oc40, od40, .func (PySem.W.fnOf "_law_choices" "_law_choices" (defArgs s_l_choices) (defBody s_l_choices) (defScope s_l_choices) .none kV40 dc40 pm40 an40 cd40 ct40), sl40⟩)
    (c40 : PySem.W.codeIn K cd40 "_law_choices" = true)
    (k40 : PySem.W.keepIn K (.ref f40) = true)
    {f41 : Addr}
    {od41 an41 : Option Addr}
    {sl41 : Array (Option Value)}
    {oc41 kV41 dc41 pm41 cd41 ct41 : Value}
    (a41 : PySem.W.nsIn K mainGlobals "_law_states" = some (some (.ref f41)))
    (l41 : K.lookup f41 = some ⟨oc41, od41, .func (PySem.W.fnOf "_law_states" "_law_states" (defArgs s_l_states) (defBody s_l_states) (defScope s_l_states) .none kV41 dc41 pm41 an41 cd41 ct41), sl41⟩)
    (c41 : PySem.W.codeIn K cd41 "_law_states" = true)
    (k41 : PySem.W.keepIn K (.ref f41) = true)
    {f42 : Addr}
    {od42 an42 : Option Addr}
    {sl42 : Array (Option Value)}
    {oc42 kV42 dc42 pm42 cd42 ct42 : Value}
    (a42 : PySem.W.nsIn K mainGlobals "law" = some (some (.ref f42)))
    (l42 : K.lookup f42 = some ⟨oc42, od42, .func (PySem.W.fnOf "law" "law" (defArgs s_law) (defBody s_law) (defScope s_law) .none kV42 dc42 pm42 an42 cd42 ct42), sl42⟩)
    (c42 : PySem.W.codeIn K cd42 "law" = true)
    (k42 : PySem.W.keepIn K (.ref f42) = true)
    (nf_Promise_far : PySem.W.findIn K (.ref A_Promise) "far" = some none)
    (nf_Promise_least : PySem.W.findIn K (.ref A_Promise) "least" = some none)
    (nf_Promise_parts : PySem.W.findIn K (.ref A_Promise) "parts" = some none)
    (nf_Promise_many : PySem.W.findIn K (.ref A_Promise) "many" = some none)
    (mc_Promise : PySem.W.findIn K (.ref A_Promise) "__class__" = some (some (.builtin "object.__class__")))
    (mo_Promise : PySem.W.mroIn K A_Promise (.type "object") = some true)
    (hn_ : PySem.W.specialIn K (.builtin "object.__class__") "__get__" = some (some (.builtin "getset_descriptor.__get__")))
    (ht_ : PySem.W.takesIn K (.builtin "object.__class__") = some true)
    (kt_Promise_Promise : PySem.W.kitOne K (.ref A_Promise) (.ref A_Promise) = some true)
    (nq_Promise_Promise : PySem.W.notFirst K A_Promise (.ref A_Promise) = true)
    (ne_Promise : PySem.W.findIn K (.ref A_Promise) "__ne__" = some (some (.builtin "object.__ne__")))
    (no_Promise : PySem.W.mroIn K A_Promise (.type "object") = some true)
    (z_abs : PySem.W.nsIn K mainGlobals "abs" = some none)
    (z_all : PySem.W.nsIn K mainGlobals "all" = some none)
    (z_bool : PySem.W.nsIn K mainGlobals "bool" = some none)
    (z_enumerate : PySem.W.nsIn K mainGlobals "enumerate" = some none)
    (z_int : PySem.W.nsIn K mainGlobals "int" = some none)
    (z_isinstance : PySem.W.nsIn K mainGlobals "isinstance" = some none)
    (z_len : PySem.W.nsIn K mainGlobals "len" = some none)
    (z_list : PySem.W.nsIn K mainGlobals "list" = some none)
    (z_range : PySem.W.nsIn K mainGlobals "range" = some none)
    (z_sorted : PySem.W.nsIn K mainGlobals "sorted" = some none)
    (z_sum : PySem.W.nsIn K mainGlobals "sum" = some none)
    (z_tuple : PySem.W.nsIn K mainGlobals "tuple" = some none)
    (z_zip : PySem.W.nsIn K mainGlobals "zip" = some none)
    {t_MAX_BASE : Nat}
    (n_MAX_BASE : PySem.W.nsIn K mainGlobals "MAX_BASE" = some (some (.int 3 t_MAX_BASE)))
    {t_MAX_HORIZON : Nat}
    (n_MAX_HORIZON : PySem.W.nsIn K mainGlobals "MAX_HORIZON" = some (some (.int 9 t_MAX_HORIZON)))
    {t_MAX_MOST : Nat}
    (n_MAX_MOST : PySem.W.nsIn K mainGlobals "MAX_MOST" = some (some (.int 5 t_MAX_MOST)))
    {t_MAX_PARTS : Nat}
    (n_MAX_PARTS : PySem.W.nsIn K mainGlobals "MAX_PARTS" = some (some (.int 4 t_MAX_PARTS)))
    {t_MAX_REACH : Nat}
    (n_MAX_REACH : PySem.W.nsIn K mainGlobals "MAX_REACH" = some (some (.int 6 t_MAX_REACH)))
    : ∃ fd : FuncData, (∀ (s : Shared) (v : Value), BindsTo s fd ⟨[v], []⟩ [("_law_script", v)]) ∧ ∀ base : Heap, K.In base → base.Ns mainGlobals mg → (∀ p ∈ csK K, LamX.TabB base mg p.1 p.2) → FnOk P w K mg base CX0 7 fa fd ["_law_script"] (spAny K 1 (K01)) := by
  have e := hfa.symm.trans (PySem.W.mg_of X G a42)
  cases e
  have m_Promise := PySem.W.mg_of X G aC_Promise
  have cl_Promise : Cls K A_Promise := ⟨pg_Promise, hd_Promise, po_Promise, sa_Promise⟩
  have F_far : FldF ⟨K, mg⟩ "far" [(0, 0)] := by
    intro p hp
    simp only [List.mem_cons, List.not_mem_nil, or_false] at hp
    rcases hp with rfl
    · exact ⟨_, _, rfl, rfl, by decide +kernel, by decide, fun A hA => by
        have e := m_Promise.symm.trans hA
        cases e
        exact nf_Promise_far⟩
  have F_least : FldF ⟨K, mg⟩ "least" [(0, 1)] := by
    intro p hp
    simp only [List.mem_cons, List.not_mem_nil, or_false] at hp
    rcases hp with rfl
    · exact ⟨_, _, rfl, rfl, by decide +kernel, by decide, fun A hA => by
        have e := m_Promise.symm.trans hA
        cases e
        exact nf_Promise_least⟩
  have F_many : FldF ⟨K, mg⟩ "many" [(0, 3)] := by
    intro p hp
    simp only [List.mem_cons, List.not_mem_nil, or_false] at hp
    rcases hp with rfl
    · exact ⟨_, _, rfl, rfl, by decide +kernel, by decide, fun A hA => by
        have e := m_Promise.symm.trans hA
        cases e
        exact nf_Promise_many⟩
  have F_parts : FldF ⟨K, mg⟩ "parts" [(0, 2)] := by
    intro p hp
    simp only [List.mem_cons, List.not_mem_nil, or_false] at hp
    rcases hp with rfl
    · exact ⟨_, _, rfl, rfl, by decide +kernel, by decide, fun A hA => by
        have e := m_Promise.symm.trans hA
        cases e
        exact nf_Promise_parts⟩
  have I_Promise : IsiF ⟨K, mg⟩ "Promise" [(0, true)] := by
    refine ⟨⟨A_Promise, m_Promise, fun p hp => ?_⟩, hn_, ht_⟩
    simp only [List.mem_cons, List.not_mem_nil, or_false] at hp
    rcases hp with rfl
    · exact ⟨_, _, A_Promise, rfl, m_Promise, mc_Promise, mo_Promise, kt_Promise_Promise⟩
  have N_Promise : NeC ⟨K, mg⟩ 0 := ⟨_, _, A_Promise, rfl, m_Promise, by unfold PySem.W.neIn; rw [ne_Promise, no_Promise]; rfl⟩
  have Q_Promise : NotSub ⟨K, mg⟩ 0 [0] := by
    intro p hp
    simp only [List.mem_cons, List.not_mem_nil, or_false] at hp
    rcases hp with rfl
    · exact ⟨_, _, A_Promise, _, _, A_Promise, rfl, m_Promise, rfl, m_Promise, nq_Promise_Promise⟩
  have B : Glb K mg := ⟨PySem.W.mg_none_of X G z_abs, PySem.W.mg_none_of X G z_all, PySem.W.mg_none_of X G z_bool, PySem.W.mg_none_of X G z_enumerate, PySem.W.mg_none_of X G z_int, PySem.W.mg_none_of X G z_isinstance, PySem.W.mg_none_of X G z_len, PySem.W.mg_none_of X G z_list, PySem.W.mg_none_of X G z_range, PySem.W.mg_none_of X G z_sorted, PySem.W.mg_none_of X G z_sum, PySem.W.mg_none_of X G z_tuple, PySem.W.mg_none_of X G z_zip, ⟨_, PySem.W.mg_of X G n_MAX_BASE⟩, ⟨_, PySem.W.mg_of X G n_MAX_HORIZON⟩, ⟨_, PySem.W.mg_of X G n_MAX_MOST⟩, ⟨_, PySem.W.mg_of X G n_MAX_PARTS⟩, ⟨_, PySem.W.mg_of X G n_MAX_REACH⟩, F_far, F_least, F_many, F_parts, I_Promise, N_Promise, Q_Promise⟩
  refine ⟨PySem.W.fnOf "law" "law" (defArgs s_law) (defBody s_law) (defScope s_law) .none kV42 dc42 pm42 an42 cd42 ct42, fun s v => .of_eq rfl, fun base _ _ TBs => ?_⟩
  have D_is_integer : Def P w K mg base 1 "is_integer" 3 (F_is_integer) := w_is_integer B (fun_mk (st := s_is_integer) l0 c0 k0) (PySem.W.mg_of X G a0)
  have D_is_share : Def P w K mg base 2 "is_share" 1 (F_is_share F_is_integer) := w_is_share B D_is_integer (fun_mk (st := s_is_share) l1 c1 k1) (PySem.W.mg_of X G a1)
  have D_Promise_init : KDef P w K mg base 3 0 3 ["share", "copies"] (G_Promise_init) := w_Promise_init B D_is_integer D_is_share (fun_mk (st := s_Promise_init) l2 c2 k2) rfl m_Promise cl_Promise ⟨mk_Promise, a2, i2, kc_Promise⟩
  have D_Promise_reach : PDef P w K mg base 1 0 "reach" (F_Promise_reach) := w_Promise_reach B (fun_mk (st := s_Promise_reach) l3 c3 k3) rfl m_Promise cl_Promise ⟨a3, g3, t3, ⟨_, r3⟩⟩
  have D_Promise_base : PDef P w K mg base 1 0 "base" (F_Promise_base) := w_Promise_base B (fun_mk (st := s_Promise_base) l4 c4 k4) rfl m_Promise cl_Promise ⟨a4, g4, t4, ⟨_, r4⟩⟩
  have D_Promise_share : PDef P w K mg base 1 0 "share" (F_Promise_share) := w_Promise_share B (fun_mk (st := s_Promise_share) l5 c5 k5) rfl m_Promise cl_Promise ⟨a5, g5, t5, ⟨_, r5⟩⟩
  have D_Promise_copies : PDef P w K mg base 1 0 "copies" (F_Promise_copies) := w_Promise_copies B (fun_mk (st := s_Promise_copies) l6 c6 k6) rfl m_Promise cl_Promise ⟨a6, g6, t6, ⟨_, r6⟩⟩
  have D_Promise_all_parts : MDef P w K mg base 1 0 "all_parts" 1 (F_Promise_all_parts) := w_Promise_all_parts B (fun_mk (st := s_Promise_all_parts) l7 c7 k7) rfl m_Promise cl_Promise ⟨a7, i7, k7⟩ (by decide +kernel)
  have D_Promise_eq : MDef P w K mg base 2 0 "__eq__" 2 (F_Promise_eq F_Promise_all_parts) := w_Promise_eq B D_Promise_all_parts (fun_mk (st := s_Promise_eq) l8 c8 k8) rfl m_Promise cl_Promise ⟨a8, i8, k8⟩ (by decide +kernel)
  have D_slack_at : Def P w K mg base 1 "slack_at" 2 (F_slack_at) := w_slack_at B (fun_mk (st := s_slack_at) l9 c9 k9) (PySem.W.mg_of X G a9)
  have D_Promise_slack : MDef P w K mg base 2 0 "slack" 2 (F_Promise_slack F_is_integer F_slack_at) := w_Promise_slack B D_is_integer D_slack_at (fun_mk (st := s_Promise_slack) l10 c10 k10) rfl m_Promise cl_Promise ⟨a10, i10, k10⟩ (by decide +kernel)
  have D_horizon_of : Def P w K mg base 2 "horizon_of" 1 (F_horizon_of F_slack_at) := w_horizon_of B D_slack_at (fun_mk (st := s_horizon_of) l11 c11 k11) (PySem.W.mg_of X G a11)
  have D_Promise_horizon : MDef P w K mg base 3 0 "horizon" 1 (F_Promise_horizon (F_horizon_of F_slack_at)) := w_Promise_horizon B D_horizon_of (fun_mk (st := s_Promise_horizon) l12 c12 k12) rfl m_Promise cl_Promise ⟨a12, i12, k12⟩ (by decide +kernel)
  have D_check_promise : Def P w K mg base 1 "check_promise" 1 (F_check_promise) := w_check_promise B (fun_mk (st := s_check_promise) l13 c13 k13) (PySem.W.mg_of X G a13)
  have D_is_state : Def P w K mg base 3 "is_state" 2 (G_is_state) := (w_is_state B D_horizon_of D_is_integer (fun_mk (st := s_is_state) l14 c14 k14) (PySem.W.mg_of X G a14)).as fun xs h _ => sim_is_state xs h
  have D_check_state : Def P w K mg base 4 "check_state" 2 (G_check_state) := w_check_state B D_check_promise D_is_state (fun_mk (st := s_check_state) l15 c15 k15) (PySem.W.mg_of X G a15)
  have D_check_most : Def P w K mg base 2 "check_most" 2 (G_check_most) := w_check_most B D_check_promise D_is_integer (fun_mk (st := s_check_most) l16 c16 k16) (PySem.W.mg_of X G a16)
  have D_holds_for : Def P w K mg base 2 "holds_for" 3 (G_holds_for) := (w_holds_for B D_slack_at (fun_mk (st := s_holds_for) l17 c17 k17) (PySem.W.mg_of X G a17)).as fun xs h _ => sim_holds_for xs h
  have D_is_good : Def P w K mg base 3 "is_good" 2 (G_is_good) := (w_is_good B D_holds_for (fun_mk (st := s_is_good) l18 c18 k18) (PySem.W.mg_of X G a18)).as fun xs h _ => sim_is_good xs h
  have D_aged : Def P w K mg base 3 "aged" 2 (G_aged) := (w_aged B D_horizon_of (fun_mk (st := s_aged) l19 c19 k19) (PySem.W.mg_of X G a19)).as fun xs h _ => sim_aged xs h
  obtain ⟨lc20, lP20, le20⟩ := lamsAll_at la (x := "choices_of") (by decide)
  have D_choices_of : Def P w K mg base 4 "choices_of" 3 (G_choices_of) := (w_choices_of B D_aged D_is_good (lamOk_mk lz (by decide) a20 l20 le20 TBs) (fun_mk (st := s_choices_of) l20 c20 k20) (PySem.W.mg_of X G a20)).as fun xs h _ => sim_choices_of xs h
  obtain ⟨lc21, lP21, le21⟩ := lamsAll_at la (x := "good_states") (by decide)
  have D_good_states : Def P w K mg base 4 "good_states" 2 (G_good_states) := (w_good_states B D_horizon_of D_is_good (lamOk_mk lz (by decide) a21 l21 le21 TBs) (fun_mk (st := s_good_states) l21 c21 k21) (PySem.W.mg_of X G a21)).as fun xs h _ => sim_good_states xs h
  have D_keeps : Def P w K mg base 5 "keeps" 2 (G_keeps) := w_keeps B D_check_state D_is_good (fun_mk (st := s_keeps) l22 c22 k22) (PySem.W.mg_of X G a22)
  have D_broken : Def P w K mg base 5 "broken" 2 (G_broken) := w_broken B D_check_state D_holds_for (fun_mk (st := s_broken) l23 c23 k23) (PySem.W.mg_of X G a23)
  have D_grown : Def P w K mg base 5 "grown" 2 (G_grown) := w_grown B D_check_state D_aged (fun_mk (st := s_grown) l24 c24 k24) (PySem.W.mg_of X G a24)
  have D_choices : Def P w K mg base 5 "choices" 3 (G_choices) := w_choices B D_check_most D_check_state D_choices_of (fun_mk (st := s_choices) l25 c25 k25) (PySem.W.mg_of X G a25)
  have D_after : Def P w K mg base 5 "after" 3 (F_after G_check_state G_is_state G_aged) := w_after B D_check_state D_is_state D_aged (fun_mk (st := s_after) l26 c26 k26) (PySem.W.mg_of X G a26)
  have D_states : Def P w K mg base 5 "states" 2 (G_states) := w_states B D_check_most D_good_states (fun_mk (st := s_states) l27 c27 k27) (PySem.W.mg_of X G a27)
  have D_l_draw : Def P w K mg base 1 "_law_draw" 3 (F_l_draw) := w_l_draw B (fun_mk (st := s_l_draw) l28 c28 k28) (PySem.W.mg_of X G a28)
  have D_l_cell_at : Def P w K mg base 2 "_law_cell_at" 2 (F_l_cell_at F_l_draw) := w_l_cell_at B D_l_draw (fun_mk (st := s_l_cell_at) l29 c29 k29) (PySem.W.mg_of X G a29)
  have D_l_digits : Def P w K mg base 3 "_law_digits" 4 (F_l_digits (F_l_cell_at F_l_draw) F_l_draw) := w_l_digits B D_l_cell_at D_l_draw (fun_mk (st := s_l_digits) l30 c30 k30) (PySem.W.mg_of X G a30)
  have D_l_take : Def P w K mg base 1 "_law_take" 2 (F_l_take) := w_l_take B (fun_mk (st := s_l_take) l31 c31 k31) (PySem.W.mg_of X G a31)
  have D_l_pool : Def P w K mg base 4 "_law_pool" 2 (F_l_pool (F_l_digits (F_l_cell_at F_l_draw) F_l_draw)) := w_l_pool B D_l_digits (fun_mk (st := s_l_pool) l32 c32 k32) (PySem.W.mg_of X G a32)
  have D_l_plan : Def P w K mg base 2 "_law_plan" 2 (F_l_plan F_l_take) := w_l_plan B D_l_take (fun_mk (st := s_l_plan) l33 c33 k33) (PySem.W.mg_of X G a33)
  have D_l_promise : Def P w K mg base 5 "_law_promise" 1 (F_l_promise G_Promise_init) := w_l_promise B D_Promise_init (fun_mk (st := s_l_promise) l34 c34 k34) (PySem.W.mg_of X G a34)
  have D_l_slack : Def P w K mg base 1 "_law_slack" 2 (F_l_slack) := w_l_slack B (fun_mk (st := s_l_slack) l35 c35 k35) (PySem.W.mg_of X G a35)
  have D_l_horizon : Def P w K mg base 2 "_law_horizon" 1 (F_l_horizon F_l_slack) := w_l_horizon B D_l_slack (fun_mk (st := s_l_horizon) l36 c36 k36) (PySem.W.mg_of X G a36)
  have D_l_broken : Def P w K mg base 2 "_law_broken" 2 (G_l_broken) := (w_l_broken B D_l_slack (fun_mk (st := s_l_broken) l37 c37 k37) (PySem.W.mg_of X G a37)).as fun xs h _ => sim_l_broken xs h
  have D_l_grown : Def P w K mg base 3 "_law_grown" 2 (G_l_grown) := (w_l_grown B D_l_horizon (fun_mk (st := s_l_grown) l38 c38 k38) (PySem.W.mg_of X G a38)).as fun xs h _ => sim_l_grown xs h
  have D_l_parts : Def P w K mg base 1 "_law_parts" 2 (G_l_parts) := (w_l_parts B (fun_mk (st := s_l_parts) l39 c39 k39) (PySem.W.mg_of X G a39)).as fun xs h _ => sim_l_parts xs h
  have D_l_choices : Def P w K mg base 4 "_law_choices" 3 (G_l_choices) := (w_l_choices B D_l_grown D_l_parts D_l_broken (fun_mk (st := s_l_choices) l40 c40 k40) (PySem.W.mg_of X G a40)).as fun xs h _ => sim_l_choices xs h
  have D_l_states : Def P w K mg base 3 "_law_states" 2 (G_l_states) := (w_l_states B D_l_horizon D_l_parts D_l_broken (fun_mk (st := s_l_states) l41 c41 k41) (PySem.W.mg_of X G a41)).as fun xs h _ => sim_l_states xs h
  exact (f_law B D_l_pool D_l_take D_l_plan D_l_promise D_Promise_copies D_Promise_share D_Promise_base D_Promise_reach D_Promise_horizon D_l_horizon D_Promise_slack D_l_slack D_Promise_eq D_Promise_init D_states D_l_states D_broken D_l_broken D_keeps D_l_grown D_grown D_after D_choices D_l_choices (fun_mk (st := s_law) l42 c42 k42)).imp fun vs H Q E h => h mg
theorem sp_ok {K : PySem.W.Frag} (z : noList K = true) {H : Hp} {a : Addr} {ns : List Int} (hl : ns.length ≤ 63) (hb : ∀ z ∈ ns, Builtin.Int.intBits z ≤ 1048576) (hT : LamX.Tabs (tabsK K) H) (hS : SqL K H a (ns.map V.int)) : spAny K 1 (K01) [.ref a] H (fun v _ => v = .bl true) fun _ _ _ => False := by
  intro mg
  obtain ⟨h0, h1, h2, h3⟩ := script_in (mg := mg) z hl hT hS
  obtain ⟨h4, e⟩ := K01_eq h3 hl (fun z hz => Sm.bits (hb z hz))
  refine ⟨rfl, [a], _, _, h1, h2, ?_⟩
  rw [e]
  exact fun φ2 H2 b _ _ t => (by cases t; rfl)
end Mv
open PySem PySem.W
open PyProof.Rows
set_option maxHeartbeats 0 in
theorem PySem.Challenge.cw_thinsnaps_k01_whole_states_holds : PySem.Challenge.rw_thinsnaps_k01_whole_states.Holds := by
  w_on; o_law; k_head; (case hw => w_witness2)
  k_fill
  refine Mv.walk_ofLam (l := PySem.Challenge.rw_thinsnaps_k01_whole_states) (n := 63) (k := 7) (x := "_law_script") (CX := fun _ => L2.CX0) (sp := fun w => Mv.spAny _ 1 (Mv.K01)) rfl (by decide) rfl ⟨rfl, by decide, by decide⟩ (fun w h Y => by first | exact PySem.W.km_in_of Y | exact PySem.W.kIn_of Y) (fun w => by kernel_rfl) (fun w => by kernel_rfl) ?F (fun w H a ns hl hb hT hS => Mv.sp_ok (by kernel_rfl) hl hb hT hS) (fun _ _ _ _ _ h => h)
  case F =>
    intro w mg fa h KX G hmg
    refine' Mv.all_mk KX G hmg (by kernel_rfl) (by kernel_rfl) ?aC_Promise ?pg_Promise ?hd_Promise ?po_Promise ?sa_Promise ?mk_Promise ?kc_Promise ?a0 ?l0 ?c0 ?k0 ?a1 ?l1 ?c1 ?k1 ?a2 ?i2 ?l2 ?c2 ?k2 ?a3 ?g3 ?t3 ?r3 ?l3 ?c3 ?k3 ?a4 ?g4 ?t4 ?r4 ?l4 ?c4 ?k4 ?a5 ?g5 ?t5 ?r5 ?l5 ?c5 ?k5 ?a6 ?g6 ?t6 ?r6 ?l6 ?c6 ?k6 ?a7 ?i7 ?l7 ?c7 ?k7 ?a8 ?i8 ?l8 ?c8 ?k8 ?a9 ?l9 ?c9 ?k9 ?a10 ?i10 ?l10 ?c10 ?k10 ?a11 ?l11 ?c11 ?k11 ?a12 ?i12 ?l12 ?c12 ?k12 ?a13 ?l13 ?c13 ?k13 ?a14 ?l14 ?c14 ?k14 ?a15 ?l15 ?c15 ?k15 ?a16 ?l16 ?c16 ?k16 ?a17 ?l17 ?c17 ?k17 ?a18 ?l18 ?c18 ?k18 ?a19 ?l19 ?c19 ?k19 ?a20 ?l20 ?c20 ?k20 ?a21 ?l21 ?c21 ?k21 ?a22 ?l22 ?c22 ?k22 ?a23 ?l23 ?c23 ?k23 ?a24 ?l24 ?c24 ?k24 ?a25 ?l25 ?c25 ?k25 ?a26 ?l26 ?c26 ?k26 ?a27 ?l27 ?c27 ?k27 ?a28 ?l28 ?c28 ?k28 ?a29 ?l29 ?c29 ?k29 ?a30 ?l30 ?c30 ?k30 ?a31 ?l31 ?c31 ?k31 ?a32 ?l32 ?c32 ?k32 ?a33 ?l33 ?c33 ?k33 ?a34 ?l34 ?c34 ?k34 ?a35 ?l35 ?c35 ?k35 ?a36 ?l36 ?c36 ?k36 ?a37 ?l37 ?c37 ?k37 ?a38 ?l38 ?c38 ?k38 ?a39 ?l39 ?c39 ?k39 ?a40 ?l40 ?c40 ?k40 ?a41 ?l41 ?c41 ?k41 ?a42 ?l42 ?c42 ?k42 ?nf_Promise_far ?nf_Promise_least ?nf_Promise_parts ?nf_Promise_many ?mc_Promise ?mo_Promise ?hn_ ?ht_ ?kt_Promise_Promise ?nq_Promise_Promise ?ne_Promise ?no_Promise ?z_abs ?z_all ?z_bool ?z_enumerate ?z_int ?z_isinstance ?z_len ?z_list ?z_range ?z_sorted ?z_sum ?z_tuple ?z_zip ?n_MAX_BASE ?n_MAX_HORIZON ?n_MAX_MOST ?n_MAX_PARTS ?n_MAX_REACH
    (case aC_Promise => k_is); (case pg_Promise => k_is); (case hd_Promise => k_is); (case po_Promise => k_is); (case sa_Promise => k_is); (case mk_Promise => k_is); (case kc_Promise => k_is); (case a0 => k_is)
    (case l0 => k_is); (case c0 => k_is); (case k0 => k_is); (case a1 => k_is); (case l1 => k_is); (case c1 => k_is); (case k1 => k_is); (case a2 => k_is)
    (case i2 => k_is); (case l2 => k_is); (case c2 => k_is); (case k2 => k_is); (case a3 => k_is); (case g3 => k_is); (case t3 => k_is); (case r3 => k_is)
    (case l3 => k_is); (case c3 => k_is); (case k3 => k_is); (case a4 => k_is); (case g4 => k_is); (case t4 => k_is); (case r4 => k_is); (case l4 => k_is)
    (case c4 => k_is); (case k4 => k_is); (case a5 => k_is); (case g5 => k_is); (case t5 => k_is); (case r5 => k_is); (case l5 => k_is); (case c5 => k_is)
    (case k5 => k_is); (case a6 => k_is); (case g6 => k_is); (case t6 => k_is); (case r6 => k_is); (case l6 => k_is); (case c6 => k_is); (case k6 => k_is)
    (case a7 => k_is); (case i7 => k_is); (case l7 => k_is); (case c7 => k_is); (case k7 => k_is); (case a8 => k_is); (case i8 => k_is); (case l8 => k_is)
    (case c8 => k_is); (case k8 => k_is); (case a9 => k_is); (case l9 => k_is); (case c9 => k_is); (case k9 => k_is); (case a10 => k_is); (case i10 => k_is)
    (case l10 => k_is); (case c10 => k_is); (case k10 => k_is); (case a11 => k_is); (case l11 => k_is); (case c11 => k_is); (case k11 => k_is); (case a12 => k_is)
    (case i12 => k_is); (case l12 => k_is); (case c12 => k_is); (case k12 => k_is); (case a13 => k_is); (case l13 => k_is); (case c13 => k_is); (case k13 => k_is)
    (case a14 => k_is); (case l14 => k_is); (case c14 => k_is); (case k14 => k_is); (case a15 => k_is); (case l15 => k_is); (case c15 => k_is); (case k15 => k_is)
    (case a16 => k_is); (case l16 => k_is); (case c16 => k_is); (case k16 => k_is); (case a17 => k_is); (case l17 => k_is); (case c17 => k_is); (case k17 => k_is)
    (case a18 => k_is); (case l18 => k_is); (case c18 => k_is); (case k18 => k_is); (case a19 => k_is); (case l19 => k_is); (case c19 => k_is); (case k19 => k_is)
    (case a20 => k_is); (case l20 => k_is); (case c20 => k_is); (case k20 => k_is); (case a21 => k_is); (case l21 => k_is); (case c21 => k_is); (case k21 => k_is)
    (case a22 => k_is); (case l22 => k_is); (case c22 => k_is); (case k22 => k_is); (case a23 => k_is); (case l23 => k_is); (case c23 => k_is); (case k23 => k_is)
    (case a24 => k_is); (case l24 => k_is); (case c24 => k_is); (case k24 => k_is); (case a25 => k_is); (case l25 => k_is); (case c25 => k_is); (case k25 => k_is)
    (case a26 => k_is); (case l26 => k_is); (case c26 => k_is); (case k26 => k_is); (case a27 => k_is); (case l27 => k_is); (case c27 => k_is); (case k27 => k_is)
    (case a28 => k_is); (case l28 => k_is); (case c28 => k_is); (case k28 => k_is); (case a29 => k_is); (case l29 => k_is); (case c29 => k_is); (case k29 => k_is)
    (case a30 => k_is); (case l30 => k_is); (case c30 => k_is); (case k30 => k_is); (case a31 => k_is); (case l31 => k_is); (case c31 => k_is); (case k31 => k_is)
    (case a32 => k_is); (case l32 => k_is); (case c32 => k_is); (case k32 => k_is); (case a33 => k_is); (case l33 => k_is); (case c33 => k_is); (case k33 => k_is)
    (case a34 => k_is); (case l34 => k_is); (case c34 => k_is); (case k34 => k_is); (case a35 => k_is); (case l35 => k_is); (case c35 => k_is); (case k35 => k_is)
    (case a36 => k_is); (case l36 => k_is); (case c36 => k_is); (case k36 => k_is); (case a37 => k_is); (case l37 => k_is); (case c37 => k_is); (case k37 => k_is)
    (case a38 => k_is); (case l38 => k_is); (case c38 => k_is); (case k38 => k_is); (case a39 => k_is); (case l39 => k_is); (case c39 => k_is); (case k39 => k_is)
    (case a40 => k_is); (case l40 => k_is); (case c40 => k_is); (case k40 => k_is); (case a41 => k_is); (case l41 => k_is); (case c41 => k_is); (case k41 => k_is)
    (case a42 => k_is); (case l42 => k_is); (case c42 => k_is); (case k42 => k_is); (case nf_Promise_far => k_is); (case nf_Promise_least => k_is); (case nf_Promise_parts => k_is); (case nf_Promise_many => k_is)
    (case mc_Promise => k_is); (case mo_Promise => k_is); (case hn_ => k_is); (case ht_ => k_is); (case kt_Promise_Promise => kit_is); (case nq_Promise_Promise => k_is); (case ne_Promise => k_is); (case no_Promise => k_is)
    (case z_abs => k_is); (case z_all => k_is); (case z_bool => k_is); (case z_enumerate => k_is); (case z_int => k_is); (case z_isinstance => k_is); (case z_len => k_is); (case z_list => k_is)
    (case z_range => k_is); (case z_sorted => k_is); (case z_sum => k_is); (case z_tuple => k_is); (case z_zip => k_is); (case n_MAX_BASE => k_is); (case n_MAX_HORIZON => k_is); (case n_MAX_MOST => k_is)
    (case n_MAX_PARTS => k_is); (case n_MAX_REACH => k_is)

