import PyProof.Rows.All
import Wide.All
import OpenK.AllK
import Wide.FinOn
import HandS.ForMost
import HandS.ExcCtx
import HandS.HotCalls
import HandS.IsInst
import HandS.Wide
import HandS.Lambda
import HandS.CallLocal
import HandS.TupMul
import HandS.Conv
import HandS.TryOnly
import HandS.WordsExc
import HandS.TupAny
import HandS.RaiseMore
import HandS.Small
import HandS.Style
import HandS.StrMore
import HandS.Text
import HandS.FStr
import PyProof.Rows.FactsN_isinstance
import PyProof.Rows.FactsN_abs
import HandS.ExcIs
import KE.KUnpack
import HandS.EndTab
import KE.KNestM
import KE.KLam
import PyProof.Rows.RegReprOcc
import PyProof.Rows.StrSplitCount
import PySem.Challenge.RW_startorwait_k16_texts
set_option Elab.async false
set_option linter.all false
set_option maxRecDepth 100000
set_option maxHeartbeats 4000000
namespace Ev
open PySem PySem.Spec PyProof.Rows L2
abbrev St := L2.St

/-! ### values, the store -/
inductive D where
  | non | bl (b : Bool) | int (i : Int) | str (x : Str) | tup (xs : List D) | fl (xs : List D) | loc (n : Nat) | gl (x : Str) | rw (t : Nat)
  deriving Inhabited
inductive MO where
  | lst (xs : List D)
  | dct (lk : Bool) (kvs : List (D × D))
  | ins (c : Str) (fs : List (Str × D))
abbrev Mem := List MO
structure Exc where
  c : Str
  d : Option D := none
inductive R (α : Type) where
  | ok (a : α) (m : Mem) | ex (x : Exc) (m : Mem) | er
abbrev Env := List (Option D)
abbrev E := Env → Mem → R D
abbrev Es := Env → Mem → R (List D)
abbrev T := Env → Mem → R Bool
inductive RS where
  | nx (ρ : Env) (m : Mem) | bk (ρ : Env) (m : Mem) | ct (ρ : Env) (m : Mem) | rt (d : D) (m : Mem) | ex (x : Exc) (ρ : Env) (m : Mem) | er
abbrev S := Env → Mem → RS
def R.bind {α β : Type} : R α → (α → Mem → R β) → R β
  | .ok a m, f => f a m
  | .ex x m, _ => .ex x m
  | .er, _ => .er
/-- of an expression's result: a statement's -/
def R.st {α : Type} : R α → Env → (α → Mem → RS) → RS
  | .ok a m, _, f => f a m
  | .ex x m, ρ, _ => .ex x ρ m
  | .er, _, _ => .er

/-! ### what a value, the store stands for -/
/-- tables of code objects; raw addresses -/
structure TX where
  l : List (Addr × Str)
  x : Nat → Option Addr := fun _ => none
structure Gc where
  K : PySem.W.Frag
  mg : Str → Option Value
  T : TX

/-- a list that stands still: not one of the store -/
def FzL (K : PySem.W.Frag) (ι : List Addr) (H : Hp) (a : Addr) (vs : List V) : Prop := (Rd H a (.lst vs) ∧ a ∉ ι) ∨ SqL K (fun _ => none) a vs
mutual
inductive RelD (G : Gc) (ι : List Addr) (H : Hp) : D → V → Prop
  | non : RelD G ι H .non .non
  | bl (b : Bool) : RelD G ι H (.bl b) (.bl b)
  | int (i : Int) : RelD G ι H (.int i) (.int i)
  | str (x : Str) : RelD G ι H (.str x) (.str x)
  | tup {a : Addr} {vs : List V} {ds : List D} : SqT G.K H a vs → RelDs G ι H ds vs → RelD G ι H (.tup ds) (.ref a)
  | fl {a : Addr} {vs : List V} {ds : List D} : FzL G.K ι H a vs → RelDs G ι H ds vs → RelD G ι H (.fl ds) (.ref a)
  | loc {n : Nat} {a : Addr} : ι[n]? = some a → RelD G ι H (.loc n) (.ref a)
  | gl {x : Str} {a : Addr} : G.mg x = some (.ref a) → RelD G ι H (.gl x) (.ref a)
  | rw {t : Nat} {a : Addr} : G.T.x t = some a → RelD G ι H (.rw t) (.ref a)
inductive RelDs (G : Gc) (ι : List Addr) (H : Hp) : List D → List V → Prop
  | nil : RelDs G ι H [] []
  | cons {d : D} {v : V} {ds : List D} {vs : List V} : RelD G ι H d v → RelDs G ι H ds vs → RelDs G ι H (d :: ds) (v :: vs)
end
theorem RelDs.length {G : Gc} {ι : List Addr} {H : Hp} : ∀ {ds : List D} {vs : List V}, RelDs G ι H ds vs → ds.length = vs.length
  | _, _, .nil => rfl
  | _, _, .cons _ r => congrArg (· + 1) r.length
theorem RelDs.get {G : Gc} {ι : List Addr} {H : Hp} : ∀ {ds : List D} {vs : List V}, RelDs G ι H ds vs → ∀ {i : Nat} {d : D}, ds[i]? = some d → ∃ v, vs[i]? = some v ∧ RelD G ι H d v
  | _, _, .nil, i, d, h => by simp at h
  | _, _, .cons r _, 0, d, h => by simp at h; subst h; exact ⟨_, rfl, r⟩
  | _, _, .cons _ r, i + 1, d, h => by
    obtain ⟨v, h1, h2⟩ := r.get (i := i) (d := d) (by simpa using h)
    exact ⟨v, by simpa using h1, h2⟩
theorem RelDs.get' {G : Gc} {ι : List Addr} {H : Hp} : ∀ {ds : List D} {vs : List V}, RelDs G ι H ds vs → ∀ {i : Nat} {v : V}, vs[i]? = some v → ∃ d, ds[i]? = some d ∧ RelD G ι H d v
  | _, _, .nil, i, d, h => by simp at h
  | _, _, .cons r _, 0, d, h => by simp at h; subst h; exact ⟨_, rfl, r⟩
  | _, _, .cons _ r, i + 1, d, h => by
    obtain ⟨v, h1, h2⟩ := r.get' (i := i) (v := d) (by simpa using h)
    exact ⟨v, by simpa using h1, h2⟩
theorem RelDs.append {G : Gc} {ι : List Addr} {H : Hp} : ∀ {ds es : List D} {vs ws : List V}, RelDs G ι H ds vs → RelDs G ι H es ws → RelDs G ι H (ds ++ es) (vs ++ ws)
  | _, _, _, _, .nil, s => s
  | _, _, _, _, .cons r t, s => .cons r (RelDs.append t s)
theorem RelDs.take {G : Gc} {ι : List Addr} {H : Hp} : ∀ {ds : List D} {vs : List V} (n : Nat), RelDs G ι H ds vs → RelDs G ι H (ds.take n) (vs.take n)
  | _, _, 0, _ => .nil
  | _, _, _ + 1, .nil => .nil
  | _, _, n + 1, .cons r t => .cons r (RelDs.take n t)
theorem RelDs.drop {G : Gc} {ι : List Addr} {H : Hp} : ∀ {ds : List D} {vs : List V} (n : Nat), RelDs G ι H ds vs → RelDs G ι H (ds.drop n) (vs.drop n)
  | _, _, 0, r => r
  | _, _, _ + 1, .nil => .nil
  | _, _, n + 1, .cons _ t => RelDs.drop n t
theorem RelDs.set {G : Gc} {ι : List Addr} {H : Hp} {d : D} {v : V} (r : RelD G ι H d v) : ∀ {ds : List D} {vs : List V} (i : Nat), RelDs G ι H ds vs → RelDs G ι H (ds.set i d) (vs.set i v)
  | _, _, _, .nil => .nil
  | _, _, 0, .cons _ t => .cons r t
  | _, _, i + 1, .cons q t => .cons q (RelDs.set r i t)
theorem RelDs.rep {G : Gc} {ι : List Addr} {H : Hp} {ds : List D} {vs : List V} (r : RelDs G ι H ds vs) : ∀ n, RelDs G ι H (List.replicate n ds).flatten (List.replicate n vs).flatten
  | 0 => .nil
  | n + 1 => by
    rw [List.replicate_succ, List.replicate_succ, List.flatten_cons, List.flatten_cons]
    exact r.append (RelDs.rep r n)

/-- the attributes -/
inductive RelF (G : Gc) (ι : List Addr) (H : Hp) : List (Str × D) → List (Str × V) → Prop
  | nil : RelF G ι H [] []
  | cons {x : Str} {d : D} {v : V} {ds : List (Str × D)} {vs : List (Str × V)} : RelD G ι H d v → RelF G ι H ds vs → RelF G ι H ((x, d) :: ds) ((x, v) :: vs)
/-- what the store's object o at a is -/
def ObR (G : Gc) (ι : List Addr) (H : Hp) (a : Addr) : MO → Prop
  | .lst ds => ∃ vs, H a = some (.lst vs) ∧ RelDs G ι H ds vs
  | .dct _ _ => False
  | .ins c fs => ∃ C dx fv, G.mg c = some (.ref C) ∧ H a = some (.ins C dx fv) ∧ RelF G ι H fs fv
def isMu : HO → Bool
  | .lst _ => true
  | .ins _ _ _ => true
  | .ext _ => true
  | _ => false
structure Wd (G : Gc) (ι : List Addr) (μ : Mem) (H : Hp) : Prop where
  len : ι.length = μ.length
  nd : ι.Nodup
  mu : ∀ a ∈ ι, ∃ o, H a = some o ∧ isMu o = true
  ob : ∀ (n : Nat) (a : Addr) (o : MO), ι[n]? = some a → μ[n]? = some o → ObR G ι H a o
  tb : LamX.Tabs G.T.l H
/-- from a state to a later one -/
structure Grow (G : Gc) (ι : List Addr) (H : Hp) (ι' : List Addr) (H' : Hp) : Prop where
  pre : ι <+: ι'
  new : ∀ a ∈ ι', a ∈ ι ∨ H a = none
  ext : ∀ b o, H b = some o → b ∉ ι → (∀ ps, o ≠ .tbl ps) → H' b = some o
  tbl : ∀ b ps, H b = some (.tbl ps) → b ∉ ι → ∃ ps', H' b = some (.tbl ps')
section
variable {G : Gc} {ι ι1 ι' : List Addr} {H H1 H' : Hp} {μ : Mem}
theorem Grow.refl : Grow G ι H ι H := ⟨List.prefix_refl _, fun _ h => .inl h, fun _ _ h _ _ => h, fun _ ps h _ => ⟨ps, h⟩⟩
theorem Grow.trans (a : Grow G ι H ι1 H1) (b : Grow G ι1 H1 ι' H') : Grow G ι H ι' H' := by
  have out : ∀ c o, H c = some o → c ∉ ι → c ∉ ι1 := fun c o h n m => (a.new c m).elim n fun z => by rw [z] at h; cases h
  refine ⟨a.pre.trans b.pre, fun c hc => ?_, fun c o h n nt => b.ext c o (a.ext c o h n nt) (out c o h n) nt, fun c ps h n => ?_⟩
  · by_cases hn : H c = none
    · exact .inr hn
    · rcases b.new c hc with h | h
      · exact a.new c h
      · by_cases hi : c ∈ ι
        · exact .inl hi
        · exfalso
          obtain ⟨o, ho⟩ : ∃ o, H c = some o := by
            cases q : H c with
            | none => exact absurd q hn
            | some o => exact ⟨o, rfl⟩
          by_cases ht : ∃ ps, o = .tbl ps
          · obtain ⟨ps, rfl⟩ := ht
            obtain ⟨ps', z⟩ := a.tbl c ps ho hi
            rw [h] at z; cases z
          · have z := a.ext c o ho hi (fun ps e => ht ⟨ps, e⟩)
            rw [h] at z; cases z
  · obtain ⟨ps', z⟩ := a.tbl c ps h n
    exact b.tbl c ps' z (out c _ h n)
theorem Grow.get (g : Grow G ι H ι' H') {n : Nat} {a : Addr} (h : ι[n]? = some a) : ι'[n]? = some a := by
  obtain ⟨t, rfl⟩ := g.pre
  rw [List.getElem?_append_left (List.getElem?_eq_some_iff.mp h).1]
  exact h
theorem Wd.notIn (w : Wd G ι μ H) {a : Addr} {o : HO} (h : H a = some o) (n : isMu o = false) : a ∉ ι := fun hm => by
  obtain ⟨o', e, q⟩ := w.mu a hm
  rw [h] at e; cases e
  rw [n] at q; cases q
theorem Wd.fresh (w : Wd G ι μ H) {a : Addr} (h : H a = none) : a ∉ ι := fun hm => by
  obtain ⟨o', e, _⟩ := w.mu a hm
  rw [h] at e; cases e
theorem Wd.sqT (w : Wd G ι μ H) (g : Grow G ι H ι' H') {a : Addr} {vs : List V} (h : SqT G.K H a vs) : SqT G.K H' a vs := by
  rcases h with (h | ⟨o, h⟩) | h
  · exact .inl (.inl (g.ext a _ h (w.notIn h rfl) (fun _ e => by cases e)))
  · exact .inl (.inr ⟨o, g.ext a _ h (w.notIn h rfl) (fun _ e => by cases e)⟩)
  · exact .inr h
theorem Grow.fzL (g : Grow G ι H ι' H') {a : Addr} {vs : List V} (h : FzL G.K ι H a vs) : FzL G.K ι' H' a vs := by
  rcases h with ⟨h, n⟩ | h
  · have out : ∀ o, H a = some o → a ∉ ι' := fun o h m => (g.new a m).elim n fun z => by rw [z] at h; cases h
    rcases h with h | ⟨o, h⟩
    · exact .inl ⟨.inl (g.ext a _ h n (fun _ e => by cases e)), out _ h⟩
    · exact .inl ⟨.inr ⟨o, g.ext a _ h n (fun _ e => by cases e)⟩, out _ h⟩
  · exact .inr h
theorem FzL.sq {K : PySem.W.Frag} {a : Addr} {vs : List V} (h : FzL K ι H a vs) : SqL K H a vs := by
  rcases h with ⟨h, _⟩ | h
  · exact .inl h
  · rcases h with (h | ⟨o, h⟩) | h
    · cases h
    · cases h
    · exact .inr h
mutual
theorem RelD.grow (w : Wd G ι μ H) (g : Grow G ι H ι' H') : ∀ {d : D} {v : V}, RelD G ι H d v → RelD G ι' H' d v
  | _, _, .non => .non
  | _, _, .bl b => .bl b
  | _, _, .int i => .int i
  | _, _, .str x => .str x
  | _, _, .tup h r => .tup (w.sqT g h) (RelDs.grow w g r)
  | _, _, .fl h r => .fl (g.fzL h) (RelDs.grow w g r)
  | _, _, .loc h => .loc (g.get h)
  | _, _, .gl h => .gl h
  | _, _, .rw h => .rw h
theorem RelDs.grow (w : Wd G ι μ H) (g : Grow G ι H ι' H') : ∀ {ds : List D} {vs : List V}, RelDs G ι H ds vs → RelDs G ι' H' ds vs
  | _, _, .nil => .nil
  | _, _, .cons r rs => .cons (RelD.grow w g r) (RelDs.grow w g rs)
end
theorem RelF.grow (w : Wd G ι μ H) (g : Grow G ι H ι' H') : ∀ {fs : List (Str × D)} {vs : List (Str × V)}, RelF G ι H fs vs → RelF G ι' H' fs vs
  | _, _, .nil => .nil
  | _, _, .cons r rs => .cons (r.grow w g) (RelF.grow w g rs)
/-- the slots -/
def EnvR (G : Gc) (ι : List Addr) (H : Hp) (ρ : Env) (σ : St) : Prop := ρ.length = σ.length ∧ ∀ (i : Nat) (d : D), ρ[i]? = some (some d) → ∃ v, σ[i]? = some (some v) ∧ RelD G ι H d v
theorem EnvR.grow {ρ : Env} {σ : St} (w : Wd G ι μ H) (g : Grow G ι H ι' H') (e : EnvR G ι H ρ σ) : EnvR G ι' H' ρ σ :=
  ⟨e.1, fun i d h => let ⟨v, h1, h2⟩ := e.2 i d h; ⟨v, h1, h2.grow w g⟩⟩
theorem EnvR.set {ρ : Env} {σ : St} {d : D} {v : V} (e : EnvR G ι H ρ σ) (r : RelD G ι H d v) (i : Nat) : EnvR G ι H (ρ.set i (some d)) (σ.set i (some v)) := by
  refine ⟨by rw [List.length_set, List.length_set]; exact e.1, fun j d' h => ?_⟩
  by_cases hj : i = j
  · subst hj
    have hlt : i < ρ.length := by
      have := (List.getElem?_eq_some_iff.mp h).1
      rwa [List.length_set] at this
    rw [List.getElem?_set_self hlt] at h
    cases h
    exact ⟨v, List.getElem?_set_self (by rw [← e.1]; exact hlt), r⟩
  · rw [List.getElem?_set_ne hj] at h
    obtain ⟨v', h1, h2⟩ := e.2 j d' h
    exact ⟨v', by rw [List.getElem?_set_ne hj]; exact h1, h2⟩

/-! ### new objects, stores -/
theorem tabs_ext {T : List (Addr × Str)} (t : LamX.Tabs T H) (e : ∀ b o, H b = some o → H' b = some o) : LamX.Tabs T H' := t.ext e
theorem ext_new {p : Addr} {o : HO} (h : H p = none) : ∀ b u, H b = some u → upd H p o b = some u := fun b u e => by rw [upd_ne (ne_of_none e h)]; exact e
/-- an object that is not of the store -/
theorem Grow.obj {p : Addr} {o : HO} (h : H p = none) : Grow G ι H ι (upd H p o) :=
  ⟨List.prefix_refl _, fun _ h => .inl h, fun b u e _ _ => ext_new h b u e, fun b ps e _ => ⟨ps, ext_new h b _ e⟩⟩
theorem ObR.grow {a : Addr} {o : MO} (w : Wd G ι μ H) (g : Grow G ι H ι' H') (k : ∀ u, H a = some u → H' a = some u) (x : ObR G ι H a o) : ObR G ι' H' a o := by
  cases o with
  | lst ds => obtain ⟨vs, e, r⟩ := x; exact ⟨vs, k _ e, r.grow w g⟩
  | dct lk kvs => exact x
  | ins c fs => obtain ⟨C, dx, fv, e1, e2, r⟩ := x; exact ⟨C, dx, fv, e1, k _ e2, r.grow w g⟩
theorem Wd.obj (w : Wd G ι μ H) {p : Addr} {o : HO} (h : H p = none) : Wd G ι μ (upd H p o) := by
  refine ⟨w.len, w.nd, fun a ha => ?_, fun n a o' h1 h2 => (w.ob n a o' h1 h2).grow w (Grow.obj h) fun u e => ext_new h a u e, tabs_ext w.tb (ext_new h)⟩
  obtain ⟨u, e, q⟩ := w.mu a ha
  exact ⟨u, ext_new h a u e, q⟩
/-- one more of the store -/
theorem Grow.more {p : Addr} {o : HO} (h : H p = none) : Grow G ι H (ι ++ [p]) (upd H p o) :=
  ⟨List.prefix_append _ _, fun a ha => (List.mem_append.mp ha).elim .inl fun z => .inr (by rw [List.mem_singleton.mp z]; exact h), fun b u e _ _ => ext_new h b u e, fun b ps e _ => ⟨ps, ext_new h b _ e⟩⟩
theorem Wd.more (w : Wd G ι μ H) {p : Addr} {o : HO} {m : MO} (h : H p = none) (mo : isMu o = true) (x : ObR G (ι ++ [p]) (upd H p o) p m) : Wd G (ι ++ [p]) (μ ++ [m]) (upd H p o) := by
  have np := w.fresh h
  refine ⟨by simp [w.len], List.nodup_append.mpr ⟨w.nd, by simp, fun a ha b hb => by rw [List.mem_singleton.mp hb]; exact fun e => np (e ▸ ha)⟩, fun a ha => ?_, fun n a o' h1 h2 => ?_, tabs_ext w.tb (ext_new h)⟩
  · rcases List.mem_append.mp ha with z | z
    · obtain ⟨u, e, q⟩ := w.mu a z
      exact ⟨u, ext_new h a u e, q⟩
    · rw [List.mem_singleton.mp z]
      exact ⟨o, upd_same, mo⟩
  · by_cases hn : n < ι.length
    · rw [List.getElem?_append_left hn] at h1
      rw [List.getElem?_append_left (by rw [← w.len]; exact hn)] at h2
      exact (w.ob n a o' h1 h2).grow w (Grow.more h) fun u e => ext_new h a u e
    · rw [List.getElem?_append_right (by omega)] at h1
      rw [List.getElem?_append_right (by rw [← w.len]; omega)] at h2
      rw [← w.len] at h2
      cases hk : n - ι.length with
      | zero =>
        rw [hk] at h1 h2
        cases h1; cases h2
        exact x
      | succ k =>
        rw [hk] at h1
        simp at h1
theorem RelD.last {p : Addr} {o : HO} (w : Wd G ι μ H) : RelD G (ι ++ [p]) (upd H p o) (.loc μ.length) (.ref p) := .loc (by rw [← w.len]; simp)
/-- one of the store is written -/
theorem Grow.write {n : Nat} {a : Addr} {o : HO} (hn : ι[n]? = some a) : Grow G ι H ι (upd H a o) := by
  have hm : a ∈ ι := List.mem_of_getElem? hn
  exact ⟨List.prefix_refl _, fun _ h => .inl h, fun b u e hb _ => by rw [upd_ne (show b ≠ a from fun z => hb (by rw [z]; exact hm))]; exact e, fun b ps e hb => ⟨ps, by rw [upd_ne (show b ≠ a from fun z => hb (by rw [z]; exact hm))]; exact e⟩⟩
theorem Wd.write (w : Wd G ι μ H) {n : Nat} {a : Addr} {o : HO} {m : MO} (hn : ι[n]? = some a) (mo : isMu o = true) (nc : ∀ q, H a ≠ some (LamX.CodeO a q)) (x : ObR G ι (upd H a o) a m) : Wd G ι (μ.set n m) (upd H a o) := by
  have hm : a ∈ ι := List.mem_of_getElem? hn
  obtain ⟨u0, e0, q0⟩ := w.mu a hm
  refine ⟨by simp [w.len], w.nd, fun b hb => ?_, fun k b o' h1 h2 => ?_, fun p hp => ?_⟩
  · by_cases z : b = a
    · rw [z]; exact ⟨o, upd_same, mo⟩
    · obtain ⟨u, e, q⟩ := w.mu b hb
      exact ⟨u, by rw [upd_ne z]; exact e, q⟩
  · by_cases z : k = n
    · subst z
      rw [hn] at h1; cases h1
      have hlt : k < μ.length := by rw [← w.len]; exact (List.getElem?_eq_some_iff.mp hn).1
      rw [List.getElem?_set_self hlt] at h2
      cases h2
      exact x
    · rw [List.getElem?_set_ne (Ne.symm z)] at h2
      have zb : b ≠ a := fun e => z (by
        have h3 : ι[k]? = ι[n]? := by rw [h1, hn, e]
        exact (List.getElem?_inj (List.getElem?_eq_some_iff.mp h1).1 w.nd).mp h3)
      exact (w.ob k b o' h1 h2).grow w (Grow.write hn) fun u e => by rw [upd_ne zb]; exact e
  · obtain ⟨ps, e1, e2, e3⟩ := w.tb p hp
    refine ⟨ps, ?_, e2, fun pos cv hc => ?_⟩
    · rw [upd_ne (fun z => by rw [z, e0] at e1; cases e1; cases q0)]; exact e1
    · obtain ⟨c, f1, f2⟩ := e3 pos cv hc
      exact ⟨c, f1, by rw [upd_ne (fun z => nc p.2 (by rw [z] at f2; exact f2))]; exact f2⟩
theorem lst_ne_code {a : Addr} {vs : List V} (h : H a = some (.lst vs)) : ∀ q, H a ≠ some (LamX.CodeO a q) := fun q e => by
  rw [h] at e
  have e := Option.some.inj e
  unfold LamX.CodeO at e
  cases e
theorem ins_ne_code {a C dx : Addr} {fs : List (Str × V)} (h : H a = some (.ins C dx fs)) : ∀ q, H a ≠ some (LamX.CodeO a q) := fun q e => by
  rw [h] at e
  have e := Option.some.inj e
  unfold LamX.CodeO at e
  cases e
end

/-! ### the readings -/
/-- how an exception lies -/
def ExR (G : Gc) (x : Exc) (cls : Value) (od : Option Addr) (H : Hp) : Prop := G.mg x.c = some cls ∧ x.d.isNone = true ∧ od = none
def Pst (G : Gc) (ι : List Addr) (H : Hp) (E : XK) (Q : VK) : R D → Prop
  | .ok d μ' => ∀ v H' ι', Grow G ι H ι' H' → Wd G ι' μ' H' → RelD G ι' H' d v → Q v H'
  | .ex x μ' => ∀ H' ι' cls od, Grow G ι H ι' H' → Wd G ι' μ' H' → ExR G x cls od H' → E cls od H'
  | .er => False
def PsL (G : Gc) (ι : List Addr) (H : Hp) (E : XK) (Q : List V → Hp → Prop) : R (List D) → Prop
  | .ok d μ' => ∀ v H' ι', Grow G ι H ι' H' → Wd G ι' μ' H' → RelDs G ι' H' d v → Q v H'
  | .ex x μ' => ∀ H' ι' cls od, Grow G ι H ι' H' → Wd G ι' μ' H' → ExR G x cls od H' → E cls od H'
  | .er => False
def PsB (G : Gc) (ι : List Addr) (H : Hp) (E : XK) (Q : Bool → Hp → Prop) : R Bool → Prop
  | .ok d μ' => ∀ H' ι', Grow G ι H ι' H' → Wd G ι' μ' H' → Q d H'
  | .ex x μ' => ∀ H' ι' cls od, Grow G ι H ι' H' → Wd G ι' μ' H' → ExR G x cls od H' → E cls od H'
  | .er => False
def PsS (G : Gc) (ι : List Addr) (H : Hp) (W : WX) (D : Ends) : RS → Prop
  | .nx ρ μ' => ∀ σ' H' ι', Grow G ι H ι' H' → Wd G ι' μ' H' → EnvR G ι' H' ρ σ' → D.nx σ' H'
  | .bk ρ μ' => ∀ σ' H' ι', Grow G ι H ι' H' → Wd G ι' μ' H' → EnvR G ι' H' ρ σ' → D.bk σ' H'
  | .ct ρ μ' => ∀ σ' H' ι', Grow G ι H ι' H' → Wd G ι' μ' H' → EnvR G ι' H' ρ σ' → D.ct σ' H'
  | .rt d μ' => ∀ v H' ι', Grow G ι H ι' H' → Wd G ι' μ' H' → RelD G ι' H' d v → D.rt v H'
  | .ex x ρ μ' => ∀ σ' H' ι' cls od, Grow G ι H ι' H' → Wd G ι' μ' H' → EnvR G ι' H' ρ σ' → ExR G x cls od H' → W cls od σ' H'
  | .er => False
/-- the state ρ, μ stands for σ, H -/
def tE (G : Gc) (W : WX) (f : E) : TE := fun σ H Q => ∃ ρ μ ι, Wd G ι μ H ∧ EnvR G ι H ρ σ ∧ Pst G ι H (fun c d H' => W c d σ H') Q (f ρ μ)
def tEs (G : Gc) (W : WX) (f : Es) : TA := fun σ H Q => ∃ ρ μ ι, Wd G ι μ H ∧ EnvR G ι H ρ σ ∧ PsL G ι H (fun c d H' => W c d σ H') Q (f ρ μ)
def tT (G : Gc) (W : WX) (f : T) : TT := fun σ H Q => ∃ ρ μ ι, Wd G ι μ H ∧ EnvR G ι H ρ σ ∧ PsB G ι H (fun c d H' => W c d σ H') Q (f ρ μ)
def tS (G : Gc) (W : WX) (f : S) : TS := fun D σ H => ∃ ρ μ ι, Wd G ι μ H ∧ EnvR G ι H ρ σ ∧ PsS G ι H W D (f ρ μ)
section
variable {G : Gc} {ι ι1 ι' : List Addr} {H H1 H' : Hp} {μ : Mem} {E : XK} {W : WX}
theorem Pst.grow {Q : VK} {r : R D} (g : Grow G ι H ι1 H1) (h : Pst G ι H E Q r) : Pst G ι1 H1 E Q r := by
  cases r with
  | ok d m => exact fun v H' ι' g' w r => h v H' ι' (g.trans g') w r
  | ex x m => exact fun H' ι' cls od g' w r => h H' ι' cls od (g.trans g') w r
  | er => exact h
theorem PsL.grow {Q : List V → Hp → Prop} {r : R (List D)} (g : Grow G ι H ι1 H1) (h : PsL G ι H E Q r) : PsL G ι1 H1 E Q r := by
  cases r with
  | ok d m => exact fun v H' ι' g' w r => h v H' ι' (g.trans g') w r
  | ex x m => exact fun H' ι' cls od g' w r => h H' ι' cls od (g.trans g') w r
  | er => exact h
theorem PsB.grow {Q : Bool → Hp → Prop} {r : R Bool} (g : Grow G ι H ι1 H1) (h : PsB G ι H E Q r) : PsB G ι1 H1 E Q r := by
  cases r with
  | ok d m => exact fun H' ι' g' w => h H' ι' (g.trans g') w
  | ex x m => exact fun H' ι' cls od g' w r => h H' ι' cls od (g.trans g') w r
  | er => exact h
theorem PsS.grow {D : Ends} {r : RS} (g : Grow G ι H ι1 H1) (h : PsS G ι H W D r) : PsS G ι1 H1 W D r := by
  cases r with
  | nx ρ m => exact fun σ' H' ι' g' w r => h σ' H' ι' (g.trans g') w r
  | bk ρ m => exact fun σ' H' ι' g' w r => h σ' H' ι' (g.trans g') w r
  | ct ρ m => exact fun σ' H' ι' g' w r => h σ' H' ι' (g.trans g') w r
  | rt d m => exact fun v H' ι' g' w r => h v H' ι' (g.trans g') w r
  | ex x ρ m => exact fun σ' H' ι' cls od g' w r x => h σ' H' ι' cls od (g.trans g') w r x
  | er => exact h
end
end Ev

set_option Elab.async false
set_option linter.all false
set_option maxRecDepth 100000
set_option maxHeartbeats 4000000
namespace Ev
open PySem PySem.Spec PyProof.Rows L2

abbrev gx (X : Cx) (T : TX) : Gc := ⟨X.K, X.mg, T⟩
abbrev O := Option (D × Mem)
def O.r : O → R D
  | some (d, m) => .ok d m
  | none => .er
/-- what is left to show of a value -/
def Don (G : Gc) (ι : List Addr) (H : Hp) (Q : VK) : O → Prop
  | some (d, μ') => ∀ v H' ι', Grow G ι H ι' H' → Wd G ι' μ' H' → RelD G ι' H' d v → Q v H'
  | none => False
theorem Don.grow {G : Gc} {ι ι1 : List Addr} {H H1 : Hp} {Q : VK} {o : O} (g : Grow G ι H ι1 H1) (h : Don G ι H Q o) : Don G ι1 H1 Q o := by
  match o, h with
  | some (d, m), h => exact fun v H' ι' g' w r => h v H' ι' (g.trans g') w r
def r1 (G : Gc) (p : D → Mem → O) : V → Hp → VK → Prop := fun x H Q => ∃ d μ ι, Wd G ι μ H ∧ RelD G ι H d x ∧ Don G ι H Q (p d μ)
def r2 (G : Gc) (p : D → D → Mem → O) : R2 := fun x y H Q => ∃ d e μ ι, Wd G ι μ H ∧ RelD G ι H d x ∧ RelD G ι H e y ∧ Don G ι H Q (p d e μ)
def rn (G : Gc) (p : List D → Mem → O) : List V → Hp → VK → Prop := fun xs H Q => ∃ ds μ ι, Wd G ι μ H ∧ RelDs G ι H ds xs ∧ Don G ι H Q (p ds μ)

section
variable {X : Cx} {T : TX} {ι : List Addr} {H : Hp} {μ : Mem} {G : Gc}
theorem Don.val {Q : VK} {d : D} (w : Wd G ι μ H) {v : V} (r : RelD G ι H d v) (h : Don G ι H Q (some (d, μ))) : Q v H := h v H ι .refl w r
theorem Don.tup {Q : VK} {ds : List D} {vs : List V} (w : Wd G ι μ H) (r : RelDs G ι H ds vs) (h : Don G ι H Q (some (.tup ds, μ))) : ∀ p, H p = none → Q (.ref p) (upd H p (.tup vs)) :=
  fun p hp => h (.ref p) _ ι (.obj hp) (w.obj hp) (.tup (SqT.of upd_same) (r.grow w (.obj hp)))
theorem Don.lst {Q : VK} {ds : List D} {vs : List V} (w : Wd G ι μ H) (r : RelDs G ι H ds vs) (h : Don G ι H Q (some (.loc μ.length, μ ++ [.lst ds]))) : ∀ p, H p = none → Q (.ref p) (upd H p (.lst vs)) :=
  fun p hp => h (.ref p) _ (ι ++ [p]) (.more hp) (w.more hp rfl ⟨vs, upd_same, r.grow w (.more hp)⟩) (RelD.last w)
/-- a list of the store is written -/
theorem Don.wr {Q : VK} {n : Nat} {a : Addr} {ds : List D} {vs ws : List V} {d : D} (w : Wd G ι μ H) (hn : ι[n]? = some a) (hl : H a = some (.lst ws)) (r : RelDs G ι H ds vs) {v : V} (rv : RelD G ι H d v) (h : Don G ι H Q (some (d, μ.set n (.lst ds)))) : Q v (upd H a (.lst vs)) :=
  h v _ ι (.write hn) (w.write hn rfl (lst_ne_code hl) ⟨vs, upd_same, r.grow w (.write hn)⟩) (rv.grow w (.write hn))
/-- the list at a place of the store -/
theorem Wd.lst {n : Nat} {v : V} (w : Wd G ι μ H) (r : RelD G ι H (.loc n) v) {ds : List D} (h : μ[n]? = some (.lst ds)) : ∃ a vs, v = .ref a ∧ ι[n]? = some a ∧ H a = some (.lst vs) ∧ RelDs G ι H ds vs := by
  cases r with
  | loc e =>
    obtain ⟨vs, h1, h2⟩ := w.ob n _ _ e h
    exact ⟨_, vs, rfl, e, h1, h2⟩

/-! ### binary operators -/
def sumLen (n m : Nat) : Bool := decide (n + m ≤ sizeLine)
theorem sumLen_le {n m : Nat} (h : sumLen n m = true) : n + m ≤ sizeLine := of_decide_eq_true h
def lstAt (μ : Mem) (n : Nat) : Option (List D) := match μ[n]? with
  | some (.lst xs) => some xs
  | _ => none
theorem lstAt_some {n : Nat} {xs : List D} (h : lstAt μ n = some xs) : μ[n]? = some (.lst xs) := by
  unfold lstAt at h
  split at h
  · rename_i q; cases h; exact q
  · cases h
def addD : D → D → Mem → O
  | .int i, .int j, μ => some (.int (i + j), μ)
  | .str x, .str y, μ => if sumLen x.length y.length then some (.str (x ++ y), μ) else none
  | .tup xs, .tup ys, μ => if sumLen xs.length ys.length then some (.tup (xs ++ ys), μ) else none
  | .loc a, .loc b, μ => match lstAt μ a, lstAt μ b with
    | some xs, some ys => if sumLen xs.length ys.length then some (.loc μ.length, μ ++ [.lst (xs ++ ys)]) else none
    | _, _ => none
  | _, _, _ => none
theorem add_ok : OpR X (binaryOp .Add) (r2 (gx X T) addD) := by
  intro pins s σ H x y v u Q I rx ry h
  obtain ⟨d, e, μ, ι, w, rd, re, h⟩ := h
  cases d with
  | int i =>
    cases e with
    | int j =>
      cases rd; cases re
      exact op_add pins s σ H _ _ v u Q I rx ry ⟨i, j, rfl, rfl, Don.val w (.int _) h⟩
    | _ => exact h.elim
  | str a =>
    cases e with
    | str b =>
      cases rd; cases re
      unfold addD at h
      dsimp only at h
      split at h
      · rename_i hz
        exact op_add_str pins s σ H _ _ v u Q I rx ry ⟨a, b, rfl, rfl, sumLen_le hz, Don.val w (.str _) h⟩
      · exact h.elim
    | _ => exact h.elim
  | tup ds =>
    cases e with
    | tup es =>
      cases rd with
      | @tup a vs _ h1 q1 =>
      cases re with
      | @tup b ws _ h2 q2 =>
      unfold addD at h
      dsimp only at h
      split at h
      · rename_i hz
        refine op_catA pins s σ H _ _ v u Q I rx ry ⟨a, b, vs, ws, rfl, rfl, h1, h2, by rw [← q1.length, ← q2.length]; exact sumLen_le hz, fun e => ?_, fun _ e => ?_, fun _ _ => ?_⟩
        · subst e
          cases q1
          exact Don.val w (.tup h2 q2) h
        · subst e
          cases q2
          rw [List.append_nil] at h
          exact Don.val w (.tup h1 q1) h
        · exact Don.tup w (q1.append q2) h
      · exact h.elim
    | _ => exact h.elim
  | loc n =>
    cases e with
    | loc m =>
      unfold addD at h
      dsimp only at h
      split at h
      · rename_i xs ys e1 e2
        split at h
        · rename_i hz
          obtain ⟨a, vs, rfl, i1, l1, q1⟩ := w.lst rd (lstAt_some e1)
          obtain ⟨b, ws, rfl, i2, l2, q2⟩ := w.lst re (lstAt_some e2)
          exact op_cat pins s σ H _ _ v u Q I rx ry ⟨a, b, vs, ws, rfl, rfl, l1, l2, by rw [← q1.length, ← q2.length]; exact sumLen_le hz, Don.lst w (q1.append q2) h⟩
        · exact h.elim
      · exact h.elim
    | _ => exact h.elim
  | _ => exact h.elim
def subD : D → D → Mem → O
  | .int i, .int j, μ => some (.int (i - j), μ)
  | _, _, _ => none
theorem sub_ok : OpR X (binaryOp .Sub) (r2 (gx X T) subD) := by
  intro pins s σ H x y v u Q I rx ry h
  obtain ⟨d, e, μ, ι, w, rd, re, h⟩ := h
  cases d with
  | int i =>
    cases e with
    | int j =>
      cases rd; cases re
      exact op_sub pins s σ H _ _ v u Q I rx ry ⟨i, j, rfl, rfl, Don.val w (.int _) h⟩
    | _ => exact h.elim
  | _ => exact h.elim
def mulD : D → D → Mem → O
  | .int i, .int j, μ => if i.natAbs.log2 + j.natAbs.log2 < 1000000 then some (.int (i * j), μ) else none
  | .tup xs, .int k, μ => if 1 ≤ xs.length ∧ 2 ≤ k ∧ k ≤ 1000 ∧ xs.length ≤ 1000 then some (.tup (List.replicate k.toNat xs).flatten, μ) else none
  | .loc a, .int k, μ => match lstAt μ a with
    | some xs => if 0 ≤ k ∧ k ≤ 1000 ∧ xs.length ≤ 1000 then some (.loc μ.length, μ ++ [.lst (List.replicate k.toNat xs).flatten]) else none
    | none => none
  | _, _, _ => none
theorem mul_ok : OpR X (binaryOp .Mult) (r2 (gx X T) mulD) := by
  intro pins s σ H x y v u Q I rx ry h
  obtain ⟨d, e, μ, ι, w, rd, re, h⟩ := h
  have hs : sizeLine = 16777216 := sizeLine_eq
  cases d with
  | int i =>
    cases e with
    | int j =>
      cases rd; cases re
      unfold mulD at h
      dsimp only at h
      split at h
      · rename_i hz
        exact op_mulW pins s σ H _ _ v u Q I rx ry ⟨i, j, rfl, rfl, hz, Don.val w (.int _) h⟩
      · exact h.elim
    | _ => exact h.elim
  | tup ds =>
    cases e with
    | int k =>
      cases rd with
      | @tup a vs _ h1 q1 =>
      cases re
      unfold mulD at h
      dsimp only at h
      split at h
      · rename_i hz
        have hl := q1.length
        refine op_repT pins s σ H _ _ v u Q I rx ry ⟨a, k, vs, rfl, rfl, h1, fun e => ?_, hz.2.1, hz.2.2.1, by omega, Don.tup w (q1.rep _) h⟩
        subst e
        simp only [List.length_nil] at hl
        omega
      · exact h.elim
    | _ => exact h.elim
  | loc n =>
    cases e with
    | int k =>
      cases re
      unfold mulD at h
      dsimp only at h
      split at h
      · rename_i xs e1
        split at h
        · rename_i hz
          obtain ⟨a, vs, rfl, i1, l1, q1⟩ := w.lst rd (lstAt_some e1)
          have hl := q1.length
          refine op_rep pins s σ H _ _ v u Q I rx ry ⟨a, k, vs, rfl, rfl, l1, by omega, by omega, ?_, Don.lst w (q1.rep _) h⟩
          have h2 : k.toNat ≤ 1000 := by omega
          have := Nat.mul_le_mul (show vs.length ≤ 1000 by omega) h2
          omega
        · exact h.elim
      · exact h.elim
    | _ => exact h.elim
  | _ => exact h.elim
def modD : D → D → Mem → O
  | .int i, .int j, μ => if 0 < j then some (.int (i % j), μ) else none
  | _, _, _ => none
theorem mod_ok : OpR X (binaryOp .Mod) (r2 (gx X T) modD) := by
  intro pins s σ H x y v u Q I rx ry h
  obtain ⟨d, e, μ, ι, w, rd, re, h⟩ := h
  cases d with
  | int i =>
    cases e with
    | int j =>
      cases rd; cases re
      unfold modD at h
      dsimp only at h
      split at h
      · rename_i hz
        exact op_mod pins s σ H _ _ v u Q I rx ry ⟨i, j, rfl, rfl, hz, Don.val w (.int _) h⟩
      · exact h.elim
    | _ => exact h.elim
  | _ => exact h.elim
def divD : D → D → Mem → O
  | .int i, .int j, μ => if 0 < j ∧ j < 1073741824 then some (.int (i / j), μ) else none
  | _, _, _ => none
theorem div_ok : OpR X (binaryOp .FloorDiv) (r2 (gx X T) divD) := by
  intro pins s σ H x y v u Q I rx ry h
  obtain ⟨d, e, μ, ι, w, rd, re, h⟩ := h
  cases d with
  | int i =>
    cases e with
    | int j =>
      cases rd; cases re
      unfold divD at h
      dsimp only at h
      split at h
      · rename_i hz
        exact op_fdiv pins s σ H _ _ v u Q I rx ry ⟨i, j, rfl, rfl, hz, Don.val w (.int _) h⟩
      · exact h.elim
    | _ => exact h.elim
  | _ => exact h.elim
def powD : D → D → Mem → O
  | .int i, .int j, μ => if 0 ≤ j ∧ j ≤ 1000 ∧ 0 ≤ i ∧ i ≤ 1000 then some (.int (i ^ j.toNat), μ) else none
  | _, _, _ => none
theorem pow_ok : OpR X (binaryOp .Pow) (r2 (gx X T) powD) := by
  intro pins s σ H x y v u Q I rx ry h
  obtain ⟨d, e, μ, ι, w, rd, re, h⟩ := h
  cases d with
  | int i =>
    cases e with
    | int j =>
      cases rd; cases re
      unfold powD at h
      dsimp only at h
      split at h
      · rename_i hz
        exact op_pow pins s σ H _ _ v u Q I rx ry ⟨i, j, rfl, rfl, ⟨hz.1, by omega, by omega⟩, Don.val w (.int _) h⟩
      · exact h.elim
    | _ => exact h.elim
  | _ => exact h.elim
def binD : Operator → D → D → Mem → O
  | .Add => addD | .Sub => subD | .Mult => mulD | .Mod => modD | .FloorDiv => divD | .Pow => powD
  | _ => fun _ _ _ => none
theorem bin_ok (op : Operator) : OpR X (binaryOp op) (r2 (gx X T) (binD op)) := by
  cases op with
  | Add => exact add_ok
  | Sub => exact sub_ok
  | Mult => exact mul_ok
  | Mod => exact mod_ok
  | FloorDiv => exact div_ok
  | Pow => exact pow_ok
  | _ =>
    intro pins s σ H x y v u Q I rx ry h
    obtain ⟨d, e, μ, ι, w, rd, re, h⟩ := h
    exact h.elim

/-! ### comparisons -/
mutual
def toPy : D → Option PyData
  | .non => some .none
  | .bl b => some (.bool b)
  | .int i => some (.int i)
  | .str x => some (.str x)
  | .tup xs => match toPys xs with
    | some ys => some (.tuple ys)
    | none => none
  | .fl xs => match toPys xs with
    | some ys => some (.list ys)
    | none => none
  | .loc _ => none
  | .gl _ => none
  | .rw _ => none
def toPys : List D → Option (List PyData)
  | [] => some []
  | x :: xs => match toPy x, toPys xs with
    | some y, some ys => some (y :: ys)
    | _, _ => none
end
def toPyM (μ : Mem) : D → Option PyData
  | .loc n => match lstAt μ n with
    | some xs => match toPys xs with
      | some ys => some (.list ys)
      | none => none
    | none => none
  | d => toPy d
mutual
theorem toPy_dp {K : PySem.W.Frag} {mg T} : ∀ {d : D} {v : V} {p : PyData}, RelD ⟨K, mg, T⟩ ι H d v → toPy d = some p → Dp K H v p
  | .non, _, _, .non, h => by cases h; exact .non
  | .bl _, _, _, .bl b, h => by cases h; exact .bl b
  | .int _, _, _, .int i, h => by cases h; exact .int i
  | .str _, _, _, .str x, h => by cases h; exact .str x
  | .tup ds, _, _, .tup h1 r, h => by
    unfold toPy at h
    split at h
    · rename_i ys e
      cases h
      exact .tup h1 (toPys_dp r e)
    · cases h
  | .fl ds, _, _, .fl h1 r, h => by
    unfold toPy at h
    split at h
    · rename_i ys e
      cases h
      exact .lst h1.sq (toPys_dp r e)
    · cases h
  | .loc _, _, _, _, h => by cases h
  | .gl _, _, _, _, h => by cases h
  | .rw _, _, _, _, h => by cases h
theorem toPys_dp {K : PySem.W.Frag} {mg T} : ∀ {ds : List D} {vs : List V} {ps : List PyData}, RelDs ⟨K, mg, T⟩ ι H ds vs → toPys ds = some ps → DpAll K H vs ps
  | [], _, _, .nil, h => by cases h; exact .nil
  | d :: ds, _, _, .cons r rs, h => by
    unfold toPys at h
    split at h
    · rename_i y ys e1 e2
      cases h
      exact .cons (toPy_dp r e1) (toPys_dp rs e2)
    · cases h
end
theorem toPyM_dp {K : PySem.W.Frag} {mg T} {d : D} {v : V} {p : PyData} (w : Wd ⟨K, mg, T⟩ ι μ H) (r : RelD ⟨K, mg, T⟩ ι H d v) (h : toPyM μ d = some p) : Dp K H v p := by
  cases d with
  | loc n =>
    unfold toPyM at h
    dsimp only at h
    split at h
    · rename_i xs e
      split at h
      · rename_i ys e2
        cases h
        obtain ⟨a, vs, rfl, _, l, q⟩ := w.lst r (lstAt_some e)
        exact .lst (SqL.of l) (toPys_dp q e2)
      · cases h
    · cases h
  | _ => exact toPy_dp r h
def eqM (μ : Mem) (d e : D) : Option Bool := match toPyM μ d, toPyM μ e with
  | some a, some b => if SeqAt.shaped a && SeqAt.shaped b then some (PyData.eqv a b) else none
  | _, _ => none
def eqD : D → D → Mem → O := fun d e μ => (eqM μ d e).map fun b => (.bl b, μ)
def neD : D → D → Mem → O := fun d e μ => (eqM μ d e).map fun b => (.bl (!b), μ)
theorem eqM_some {μ : Mem} {d e : D} {b : Bool} (h : eqM μ d e = some b) : ∃ p q, toPyM μ d = some p ∧ toPyM μ e = some q ∧ SeqAt.shaped p = true ∧ SeqAt.shaped q = true ∧ b = PyData.eqv p q := by
  unfold eqM at h
  split at h
  · rename_i p q e1 e2
    split at h
    · rename_i hs
      rw [Bool.and_eq_true] at hs
      cases h
      exact ⟨p, q, e1, e2, hs.1, hs.2, rfl⟩
    · cases h
  · cases h
theorem eq_ok (hu : X.A.units + 64 < cLine) : OpR X (compareOp .Eq) (r2 (gx X T) eqD) := by
  intro pins s σ H x y v u Q I rx ry h
  obtain ⟨d, e, μ, ι, w, rd, re, h⟩ := h
  unfold eqD at h
  cases hb : eqM μ d e with
  | none => rw [hb] at h; exact h.elim
  | some b =>
    rw [hb] at h
    obtain ⟨p, q, e1, e2, s1, s2, rfl⟩ := eqM_some hb
    exact op_eqD hu pins s σ H _ _ v u Q I rx ry ⟨p, q, toPyM_dp w rd e1, toPyM_dp w re e2, s1, s2, Don.val w (.bl _) h⟩
theorem ne_ok (hu : X.A.units + 64 < cLine) : OpR X (compareOp .NotEq) (r2 (gx X T) neD) := by
  intro pins s σ H x y v u Q I rx ry h
  obtain ⟨d, e, μ, ι, w, rd, re, h⟩ := h
  unfold neD at h
  cases hb : eqM μ d e with
  | none => rw [hb] at h; exact h.elim
  | some b =>
    rw [hb] at h
    obtain ⟨p, q, e1, e2, s1, s2, rfl⟩ := eqM_some hb
    exact op_neD hu pins s σ H _ _ v u Q I rx ry ⟨p, q, toPyM_dp w rd e1, toPyM_dp w re e2, s1, s2, Don.val w (.bl _) h⟩
def intCmp (f : Int → Int → Bool) : D → D → Mem → O
  | .int i, .int j, μ => some (.bl (f i j), μ)
  | _, _, _ => none
theorem int_ok {op : CmpOp} {f : Int → Int → Bool} (h0 : OpR X (compareOp op) (rI0 fun i j => .bl (f i j))) : OpR X (compareOp op) (r2 (gx X T) (intCmp f)) := by
  intro pins s σ H x y v u Q I rx ry h
  obtain ⟨d, e, μ, ι, w, rd, re, h⟩ := h
  cases d with
  | int i =>
    cases e with
    | int j =>
      cases rd; cases re
      exact h0 pins s σ H _ _ v u Q I rx ry ⟨i, j, rfl, rfl, Don.val w (.bl _) h⟩
    | _ => exact h.elim
  | _ => exact h.elim
/-- is None -/
def isNone : D → Bool
  | .non => true
  | _ => false
theorem isNone_rel {d : D} {v : V} (r : RelD G ι H d v) : decide (v = .non) = isNone d := by
  cases r <;> rfl
def isD : D → D → Mem → O
  | d, .non, μ => some (.bl (isNone d), μ)
  | _, _, _ => none
def isNotD : D → D → Mem → O
  | d, .non, μ => some (.bl (!isNone d), μ)
  | _, _, _ => none
theorem is_ok : OpR X (compareOp .Is) (r2 (gx X T) isD) := by
  intro pins s σ H x y v u Q I rx ry h
  obtain ⟨d, e, μ, ι, w, rd, re, h⟩ := h
  cases e with
  | non =>
    cases re
    exact op_isN pins s σ H _ _ v u Q I rx ry ⟨rfl, by rw [isNone_rel rd]; exact Don.val w (.bl _) h⟩
  | _ => exact (show False from by cases d <;> exact h).elim
theorem isnot_ok : OpR X (compareOp .IsNot) (r2 (gx X T) isNotD) := by
  intro pins s σ H x y v u Q I rx ry h
  obtain ⟨d, e, μ, ι, w, rd, re, h⟩ := h
  cases e with
  | non =>
    cases re
    exact op_notN pins s σ H _ _ v u Q I rx ry ⟨rfl, by rw [isNone_rel rd]; exact Don.val w (.bl _) h⟩
  | _ => exact (show False from by cases d <;> exact h).elim
end
end Ev

set_option Elab.async false
set_option linter.all false
set_option maxRecDepth 100000
set_option maxHeartbeats 4000000
namespace Ev
open PySem PySem.Spec PyProof.Rows L2
section
variable {X : Cx} {T : TX} {ι : List Addr} {H : Hp} {μ : Mem} {G : Gc}
/-! ### in -/
def flatD : D → Bool
  | .non => true | .bl _ => true | .int _ => true | .str _ => true
  | _ => false
def eqF : D → D → Bool
  | .non, .non => true
  | .bl a, .bl b => a == b
  | .bl a, .int b => (if a then 1 else 0) == b
  | .int a, .bl b => a == (if b then 1 else 0)
  | .int a, .int b => a == b
  | .str a, .str b => a == b
  | _, _ => false
def inF (x : D) (xs : List D) : Bool := xs.any fun y => eqF y x
theorem flat_rel {d : D} {v : V} (r : RelD G ι H d v) (h : flatD d = true) : flatV v = true := by
  cases r <;> first | rfl | cases h
theorem eqF_rel {d e : D} {v u : V} (r : RelD G ι H d v) (q : RelD G ι H e u) (h : flatD d = true) (h2 : flatD e = true) : eqV v u = eqF d e := by
  cases r <;> first | (cases h; done) | (cases q <;> first | (cases h2; done) | rfl)
theorem flats_rel : ∀ {ds : List D} {vs : List V}, RelDs G ι H ds vs → ds.all flatD = true → vs.all flatV = true
  | _, _, .nil, _ => rfl
  | _, _, .cons r rs, h => by
    rw [List.all_cons, Bool.and_eq_true] at h ⊢
    exact ⟨flat_rel r h.1, flats_rel rs h.2⟩
theorem inF_rel {d : D} {v : V} (r : RelD G ι H d v) (f : flatD d = true) : ∀ {ds : List D} {vs : List V}, RelDs G ι H ds vs → ds.all flatD = true → inV v vs = inF d ds
  | _, _, .nil, _ => rfl
  | _, _, .cons q rs, h => by
    rw [List.all_cons, Bool.and_eq_true] at h
    show (eqV _ v || inV v _) = (eqF _ d || inF d _)
    rw [eqF_rel q r h.1 f, inF_rel r f rs h.2]
/-- the items of a list or tuple -/
def seqD (μ : Mem) : D → Option (List D)
  | .tup xs => some xs
  | .fl xs => some xs
  | .loc n => lstAt μ n
  | _ => none
theorem seq_rel {K : PySem.W.Frag} {mg T} {d : D} {v : V} {ds : List D} (w : Wd ⟨K, mg, T⟩ ι μ H) (r : RelD ⟨K, mg, T⟩ ι H d v) (h : seqD μ d = some ds) : ∃ a vs, v = .ref a ∧ (SqL K H a vs ∨ SqT K H a vs) ∧ RelDs ⟨K, mg, T⟩ ι H ds vs := by
  cases r with
  | tup h1 q => cases h; exact ⟨_, _, rfl, .inr h1, q⟩
  | fl h1 q => cases h; exact ⟨_, _, rfl, .inl h1.sq, q⟩
  | loc e =>
    obtain ⟨a, vs, e1, _, l, q⟩ := w.lst (.loc e) (lstAt_some h)
    exact ⟨a, vs, e1, .inl (SqL.of l), q⟩
  | _ => cases h
def subStr (x y : Str) : Bool := !(Builtin.Str.occurrences y x 0 y.length 1).isEmpty
def inM (μ : Mem) (d e : D) : Option Bool := match d, e with
  | .str x, .str y => some (subStr x y)
  | d, e => match seqD μ e with
    | some xs => if flatD d && xs.all flatD then some (inF d xs) else none
    | none => none
def inD : D → D → Mem → O := fun d e μ => (inM μ d e).map fun b => (.bl b, μ)
def ninD : D → D → Mem → O := fun d e μ => (inM μ d e).map fun b => (.bl (!b), μ)
theorem inM_seq {d e : D} {b : Bool} (h : inM μ d e = some b) : (∃ x y, d = .str x ∧ e = .str y ∧ b = subStr x y) ∨ ∃ xs, seqD μ e = some xs ∧ flatD d = true ∧ xs.all flatD = true ∧ b = inF d xs := by
  unfold inM at h
  split at h
  · cases h; exact .inl ⟨_, _, rfl, rfl, rfl⟩
  · split at h
    · rename_i xs e1
      split at h
      · rename_i hf
        rw [Bool.and_eq_true] at hf
        cases h
        exact .inr ⟨xs, e1, hf.1, hf.2, rfl⟩
      · cases h
    · cases h
theorem in_ok : OpR X (compareOp .In) (r2 (gx X T) inD) := by
  intro pins s σ H x y v u Q I rx ry h
  obtain ⟨d, e, μ, ι, w, rd, re, h⟩ := h
  unfold inD at h
  cases hb : inM μ d e with
  | none => rw [hb] at h; exact h.elim
  | some b =>
    rw [hb] at h
    rcases inM_seq hb with ⟨a, c, rfl, rfl, rfl⟩ | ⟨xs, e1, f1, f2, rfl⟩
    · cases rd; cases re
      exact op_in_str pins s σ H _ _ v u Q I rx ry ⟨a, c, rfl, rfl, Don.val w (.bl _) h⟩
    · obtain ⟨a, vs, rfl, hs, q⟩ := seq_rel w re e1
      refine op_in_seq pins s σ H _ _ v u Q I rx ry ⟨a, vs, rfl, hs, flat_rel rd f1, flats_rel q f2, ?_⟩
      rw [if_neg Bool.false_ne_true, inF_rel rd f1 q f2]
      exact Don.val w (.bl _) h
theorem nin_ok : OpR X (compareOp .NotIn) (r2 (gx X T) ninD) := by
  intro pins s σ H x y v u Q I rx ry h
  obtain ⟨d, e, μ, ι, w, rd, re, h⟩ := h
  unfold ninD at h
  cases hb : inM μ d e with
  | none => rw [hb] at h; exact h.elim
  | some b =>
    rw [hb] at h
    rcases inM_seq hb with ⟨a, c, rfl, rfl, rfl⟩ | ⟨xs, e1, f1, f2, rfl⟩
    · cases rd; cases re
      exact op_notin_str pins s σ H _ _ v u Q I rx ry ⟨a, c, rfl, rfl, Don.val w (.bl _) h⟩
    · obtain ⟨a, vs, rfl, hs, q⟩ := seq_rel w re e1
      refine op_notIn_seq pins s σ H _ _ v u Q I rx ry ⟨a, vs, rfl, hs, flat_rel rd f1, flats_rel q f2, ?_⟩
      rw [if_pos rfl, inF_rel rd f1 q f2]
      exact Don.val w (.bl _) h
def cmpD : CmpOp → D → D → Mem → O
  | .Eq => eqD | .NotEq => neD
  | .Lt => intCmp fun i j => decide (i < j)
  | .LtE => intCmp fun i j => decide (i ≤ j)
  | .Gt => intCmp fun i j => decide (j < i)
  | .GtE => intCmp fun i j => decide (j ≤ i)
  | .Is => isD | .IsNot => isNotD | .In => inD | .NotIn => ninD
theorem cmp_ok (hu : X.A.units + 64 < cLine) (op : CmpOp) : OpR X (compareOp op) (r2 (gx X T) (cmpD op)) := by
  cases op with
  | Eq => exact eq_ok hu
  | NotEq => exact ne_ok hu
  | Lt => exact int_ok op_lt
  | LtE => exact int_ok op_le
  | Gt => exact int_ok op_gt
  | GtE => exact int_ok op_ge
  | Is => exact is_ok
  | IsNot => exact isnot_ok
  | In => exact in_ok
  | NotIn => exact nin_ok

/-! ### truth -/
def truD (μ : Mem) : D → Option Bool
  | .non => some false
  | .bl b => some b
  | .int i => some (i != 0)
  | .str y => if y.length ≤ sizeLine then some ((y.length : Int) != 0) else none
  | .tup xs => some (!xs.isEmpty)
  | .fl xs => some (!xs.isEmpty)
  | .loc n => match lstAt μ n with
    | some xs => some (!xs.isEmpty)
    | none => none
  | .gl _ => none
  | .rw _ => none
theorem RelDs.isEmpty : ∀ {ds : List D} {vs : List V}, RelDs G ι H ds vs → vs.isEmpty = ds.isEmpty
  | _, _, .nil => rfl
  | _, _, .cons _ _ => rfl
theorem tru_rel {K : PySem.W.Frag} {mg T} {d : D} {v : V} {b : Bool} (w : Wd ⟨K, mg, T⟩ ι μ H) (r : RelD ⟨K, mg, T⟩ ι H d v) (h : truD μ d = some b) : TruV K v H b := by
  cases r with
  | non => cases h; rfl
  | bl b => cases h; rfl
  | int i => cases h; rfl
  | str x =>
    unfold truD at h
    dsimp only at h
    split at h
    · rename_i hz; cases h; exact ⟨hz, rfl⟩
    · cases h
  | tup h1 q => cases h; exact .inr (.inl ⟨_, h1, by rw [q.isEmpty]⟩)
  | fl h1 q => cases h; exact .inl ⟨_, h1.sq, by rw [q.isEmpty]⟩
  | loc e =>
    unfold truD at h
    dsimp only at h
    split at h
    · rename_i xs e1
      cases h
      obtain ⟨a, vs, e2, _, l, q⟩ := w.lst (.loc e) (lstAt_some e1)
      cases e2
      exact .inl ⟨_, SqL.of l, by rw [q.isEmpty]⟩
    · cases h
  | gl _ => cases h
  | rw _ => cases h

/-! ### built-ins -/
theorem RelDs.one {ds : List D} {d : D} {xs : List V} (r : RelDs G ι H [d] xs) : ∃ v, xs = [v] ∧ RelD G ι H d v := by
  cases r with
  | cons r rs => cases rs; exact ⟨_, rfl, r⟩
theorem RelDs.two {d e : D} {xs : List V} (r : RelDs G ι H [d, e] xs) : ∃ v u, xs = [v, u] ∧ RelD G ι H d v ∧ RelD G ι H e u := by
  cases r with
  | cons r rs =>
    cases rs with
    | cons q rs => cases rs; exact ⟨_, _, rfl, r, q⟩
def lenM (μ : Mem) : D → Option Nat
  | .str y => if y.length ≤ sizeLine then some y.length else none
  | d => match seqD μ d with
    | some xs => some xs.length
    | none => none
def lenD : List D → Mem → O
  | [d], μ => (lenM μ d).map fun (n : Nat) => (D.int (n : Int), μ)
  | _, _ => none
theorem len_ok : CallR X (.builtin "len") (rn (gx X T) lenD) := by
  intro pins s σ H xs us Q I r h
  obtain ⟨ds, μ, ι, w, rd, h⟩ := h
  match ds, rd, h with
  | [d], rd, h =>
    obtain ⟨x, rfl, rx⟩ := RelDs.one (ds := []) rd
    unfold lenD at h
    dsimp only at h
    cases hb : lenM μ d with
    | none => rw [hb] at h; exact h.elim
    | some n =>
      rw [hb] at h
      refine call_len pins s σ H _ us Q I r ⟨x, n, rfl, ?_, Don.val w (.int _) h⟩
      unfold lenM at hb
      split at hb
      · cases rx
        split at hb
        · rename_i hz; cases hb; exact ⟨hz, rfl⟩
        · cases hb
      · split at hb
        · rename_i xs e
          cases hb
          obtain ⟨a, vs, rfl, hs, q⟩ := seq_rel w rx e
          rcases hs with hs | hs
          · exact .inl ⟨vs, hs, q.length⟩
          · exact .inr ⟨vs, hs, q.length⟩
        · cases hb
  | [], _, h => exact h.elim
  | _ :: _ :: _, _, h => exact h.elim
def absD : List D → Mem → O
  | [.int i], μ => some (.int (if i < 0 then -i else i), μ)
  | _, _ => none
theorem abs_ok : CallR X (.builtin "abs") (rn (gx X T) absD) := by
  intro pins s σ H xs us Q I r h
  obtain ⟨ds, μ, ι, w, rd, h⟩ := h
  unfold absD at h
  split at h
  · obtain ⟨x, rfl, rx⟩ := RelDs.one (ds := []) rd
    cases rx
    exact call_abs pins s σ H _ us Q I r ⟨_, rfl, Don.val w (.int _) h⟩
  · exact h.elim
def maxD : List D → Mem → O
  | [.int i, .int j], μ => some (.int (if j > i then j else i), μ)
  | _, _ => none
theorem max_ok (hc : X.calm = true) : CallR X (.builtin "max") (rn (gx X T) maxD) := by
  intro pins s σ H xs us Q I r h
  obtain ⟨ds, μ, ι, w, rd, h⟩ := h
  unfold maxD at h
  split at h
  · obtain ⟨x, y, rfl, rx, ry⟩ := RelDs.two rd
    cases rx; cases ry
    exact call_max2 hc pins s σ H _ us Q I r ⟨_, _, rfl, Don.val w (.int _) h⟩
  · exact h.elim
def minD : List D → Mem → O
  | [.int i, .int j], μ => some (.int (if j < i then j else i), μ)
  | _, _ => none
theorem min_ok (hc : X.calm = true) : CallR X (.builtin "min") (rn (gx X T) minD) := by
  intro pins s σ H xs us Q I r h
  obtain ⟨ds, μ, ι, w, rd, h⟩ := h
  unfold minD at h
  split at h
  · obtain ⟨x, y, rfl, rx, ry⟩ := RelDs.two rd
    cases rx; cases ry
    exact call_min2 hc pins s σ H _ us Q I r ⟨_, _, rfl, Don.val w (.int _) h⟩
  · exact h.elim
def boolsD : List D → Option (List Bool)
  | [] => some []
  | .bl b :: r => (boolsD r).map (b :: ·)
  | _ => none
theorem bools_rel : ∀ {ds : List D} {vs : List V} {bs : List Bool}, RelDs G ι H ds vs → boolsD ds = some bs → vs = bs.map V.bl
  | [], _, _, .nil, h => by cases h; rfl
  | .bl b :: r, _, bs, .cons (.bl _) rs, h => by
    unfold boolsD at h
    cases e : boolsD r with
    | none => rw [e] at h; cases h
    | some cs => rw [e] at h; cases h; rw [bools_rel rs e]; rfl
  | .non :: _, _, _, _, h => by cases h
  | .int _ :: _, _, _, _, h => by cases h
  | .str _ :: _, _, _, _, h => by cases h
  | .tup _ :: _, _, _, _, h => by cases h
  | .fl _ :: _, _, _, _, h => by cases h
  | .loc _ :: _, _, _, _, h => by cases h
  | .gl _ :: _, _, _, _, h => by cases h
  | .rw _ :: _, _, _, _, h => by cases h
def intsD : List D → Option (List Int)
  | [] => some []
  | .int b :: r => (intsD r).map (b :: ·)
  | _ => none
theorem ints_rel : ∀ {ds : List D} {vs : List V} {bs : List Int}, RelDs G ι H ds vs → intsD ds = some bs → vs = bs.map V.int
  | [], _, _, .nil, h => by cases h; rfl
  | .int b :: r, _, bs, .cons (.int _) rs, h => by
    unfold intsD at h
    cases e : intsD r with
    | none => rw [e] at h; cases h
    | some cs => rw [e] at h; cases h; rw [ints_rel rs e]; rfl
  | .non :: _, _, _, _, h => by cases h
  | .bl _ :: _, _, _, _, h => by cases h
  | .str _ :: _, _, _, _, h => by cases h
  | .tup _ :: _, _, _, _, h => by cases h
  | .fl _ :: _, _, _, _, h => by cases h
  | .loc _ :: _, _, _, _, h => by cases h
  | .gl _ :: _, _, _, _, h => by cases h
  | .rw _ :: _, _, _, _, h => by cases h
theorem RelDs.ofInts : ∀ (ns : List Int), RelDs G ι H (ns.map D.int) (ns.map V.int)
  | [] => .nil
  | n :: ns => .cons (.int n) (RelDs.ofInts ns)
theorem RelDs.ofStrs : ∀ (ns : List Str), RelDs G ι H (ns.map D.str) (ns.map V.str)
  | [] => .nil
  | n :: ns => .cons (.str n) (RelDs.ofStrs ns)
def locL (μ : Mem) : D → Option (List D)
  | .loc n => lstAt μ n
  | _ => none
theorem locL_rel {K : PySem.W.Frag} {mg T} {d : D} {v : V} {ds : List D} (w : Wd ⟨K, mg, T⟩ ι μ H) (r : RelD ⟨K, mg, T⟩ ι H d v) (h : locL μ d = some ds) : ∃ n a vs, d = .loc n ∧ v = .ref a ∧ ι[n]? = some a ∧ H a = some (.lst vs) ∧ RelDs ⟨K, mg, T⟩ ι H ds vs := by
  cases r with
  | @loc n a e =>
    obtain ⟨a, vs, e1, e2, l, q⟩ := w.lst (.loc e) (lstAt_some h)
    exact ⟨n, a, vs, rfl, e1, e2, l, q⟩
  | _ => cases h
def foldB (f : List Bool → D) : List D → Mem → O
  | [d], μ => match locL μ d with
    | some xs => match boolsD xs with
      | some bs => some (f bs, μ)
      | none => none
    | none => none
  | _, _ => none
theorem foldB_inv {f : List Bool → D} {ds : List D} {xs : List V} {Q : VK} {K : PySem.W.Frag} {mg T} (w : Wd ⟨K, mg, T⟩ ι μ H) (rd : RelDs ⟨K, mg, T⟩ ι H ds xs) (h : Don ⟨K, mg, T⟩ ι H Q (foldB f ds μ)) : ∃ a bs, xs = [.ref a] ∧ SqL K H a (bs.map V.bl) ∧ Don ⟨K, mg, T⟩ ι H Q (some (f bs, μ)) := by
  unfold foldB at h
  split at h
  · obtain ⟨x, rfl, rx⟩ := RelDs.one (ds := []) rd
    split at h
    · rename_i xs e
      split at h
      · rename_i bs e2
        obtain ⟨n, a, vs, _, rfl, _, l, q⟩ := locL_rel w rx e
        exact ⟨a, bs, rfl, by rw [← bools_rel q e2]; exact SqL.of l, h⟩
      · exact h.elim
    · exact h.elim
  · exact h.elim
def allD := foldB fun bs => .bl (bs.all id)
def anyD := foldB fun bs => .bl (bs.any id)
theorem all_ok (hc : X.calm = true) : CallR X (.builtin "all") (rn (gx X T) allD) := by
  intro pins s σ H xs us Q I r h
  obtain ⟨ds, μ, ι, w, rd, h⟩ := h
  obtain ⟨a, bs, rfl, l, h⟩ := foldB_inv w rd h
  exact cr_all hc pins s σ H _ us Q I r ⟨a, bs, rfl, l, Don.val w (.bl _) h⟩
theorem any_ok (hc : X.calm = true) : CallR X (.builtin "any") (rn (gx X T) anyD) := by
  intro pins s σ H xs us Q I r h
  obtain ⟨ds, μ, ι, w, rd, h⟩ := h
  obtain ⟨a, bs, rfl, l, h⟩ := foldB_inv w rd h
  exact cr_any hc pins s σ H _ us Q I r ⟨a, bs, rfl, l, Don.val w (.bl _) h⟩
def sumD : List D → Mem → O
  | [d], μ => match locL μ d with
    | some xs => match intsD xs with
      | some bs => some (.int bs.sum, μ)
      | none => none
    | none => none
  | _, _ => none
theorem sum_ok (hc : X.calm = true) : CallR X (.builtin "sum") (rn (gx X T) sumD) := by
  intro pins s σ H xs us Q I r h
  obtain ⟨ds, μ, ι, w, rd, h⟩ := h
  unfold sumD at h
  split at h
  · obtain ⟨x, rfl, rx⟩ := RelDs.one (ds := []) rd
    split at h
    · rename_i xs e
      split at h
      · rename_i bs e2
        obtain ⟨n, a, vs, _, rfl, _, l, q⟩ := locL_rel w rx e
        exact cr_sum hc pins s σ H _ us Q I r ⟨a, bs, rfl, by rw [← ints_rel q e2]; exact SqL.of l, Don.val w (.int _) h⟩
      · exact h.elim
    · exact h.elim
  · exact h.elim
/-! built-in types, called -/
def intD : List D → Mem → O
  | [.int i], μ => some (.int i, μ)
  | [.bl b], μ => some (.int (if b then 1 else 0), μ)
  | _, _ => none
theorem intc_ok : CallR X (.type "int") (rn (gx X T) intD) := by
  intro pins s σ H xs us Q I r h
  obtain ⟨ds, μ, ι, w, rd, h⟩ := h
  unfold intD at h
  split at h
  · obtain ⟨x, rfl, rx⟩ := RelDs.one (ds := []) rd
    cases rx
    exact call_int1 pins s σ H _ us Q I r (.inl ⟨_, rfl, Don.val w (.int _) h⟩)
  · obtain ⟨x, rfl, rx⟩ := RelDs.one (ds := []) rd
    cases rx
    exact call_int1 pins s σ H _ us Q I r (.inr ⟨_, rfl, Don.val w (.int _) h⟩)
  · exact h.elim
def boolD : List D → Mem → O
  | [.int i], μ => some (.bl (i != 0), μ)
  | [.bl b], μ => some (.bl b, μ)
  | _, _ => none
theorem boolc_ok : CallR X (.type "bool") (rn (gx X T) boolD) := by
  intro pins s σ H xs us Q I r h
  obtain ⟨ds, μ, ι, w, rd, h⟩ := h
  unfold boolD at h
  split at h
  · obtain ⟨x, rfl, rx⟩ := RelDs.one (ds := []) rd
    cases rx
    exact call_bool1 pins s σ H _ us Q I r (.inl ⟨_, rfl, Don.val w (.bl _) h⟩)
  · obtain ⟨x, rfl, rx⟩ := RelDs.one (ds := []) rd
    cases rx
    exact call_bool1 pins s σ H _ us Q I r (.inr ⟨_, rfl, Don.val w (.bl _) h⟩)
  · exact h.elim
def strD : List D → Mem → O
  | [.int i], μ => if i.natAbs.log2 < 1920 then some (.str (toString i), μ) else none
  | [.str x], μ => some (.str x, μ)
  | _, _ => none
theorem strc_ok : CallR X (.type "str") (rn (gx X T) strD) := by
  intro pins s σ H xs us Q I r h
  obtain ⟨ds, μ, ι, w, rd, h⟩ := h
  unfold strD at h
  split at h
  · obtain ⟨x, rfl, rx⟩ := RelDs.one (ds := []) rd
    cases rx
    split at h
    · rename_i hz
      exact call_str_int pins s σ H _ us Q I r ⟨_, rfl, hz, Don.val w (.str _) h⟩
    · exact h.elim
  · obtain ⟨x, rfl, rx⟩ := RelDs.one (ds := []) rd
    cases rx
    exact SkE.call_str_str pins s σ H _ us Q I r ⟨_, rfl, Don.val w (.str _) h⟩
  · exact h.elim
def listD : List D → Mem → O
  | [d], μ => match seqD μ d with
    | some xs => some (.loc μ.length, μ ++ [.lst xs])
    | none => none
  | _, _ => none
theorem listc_ok : CallR X (.type "list") (rn (gx X T) listD) := by
  intro pins s σ H xs us Q I r h
  obtain ⟨ds, μ, ι, w, rd, h⟩ := h
  unfold listD at h
  split at h
  · obtain ⟨x, rfl, rx⟩ := RelDs.one (ds := []) rd
    split at h
    · rename_i ys e
      obtain ⟨a, vs, rfl, hs, q⟩ := seq_rel w rx e
      exact call_list_of pins s σ H _ us Q I r ⟨a, vs, rfl, hs, Don.lst w q h⟩
    · exact h.elim
  · exact h.elim
def tupleD : List D → Mem → O
  | [d], μ => match seqD μ d with
    | some xs => some (.tup xs, μ)
    | none => none
  | _, _ => none
theorem tuplec_ok : CallR X (.type "tuple") (rn (gx X T) tupleD) := by
  intro pins s σ H xs us Q I r h
  obtain ⟨ds, μ, ι, w, rd, h⟩ := h
  unfold tupleD at h
  split at h
  · obtain ⟨x, rfl, rx⟩ := RelDs.one (ds := []) rd
    split at h
    · rename_i ys e
      obtain ⟨a, vs, rfl, hs, q⟩ := seq_rel w rx e
      refine call_tuple_of pins s σ H _ us Q I r ⟨a, vs, rfl, ?_⟩
      rcases hs with hs | hs
      · exact .inl ⟨hs, Don.tup w q h⟩
      · exact .inr ⟨hs, Don.val w (.tup hs q) h⟩
    · exact h.elim
  · exact h.elim
/-- built-in functions by name -/
def biD : String → Option (List D → Mem → O)
  | "len" => some lenD | "abs" => some absD | "max" => some maxD | "min" => some minD | "all" => some allD | "any" => some anyD | "sum" => some sumD
  | _ => none
def tyD : String → Option (List D → Mem → O)
  | "int" => some intD | "bool" => some boolD | "str" => some strD | "list" => some listD | "tuple" => some tupleD
  | _ => none
theorem bi_ok (hc : X.calm = true) {n : String} {p : List D → Mem → O} (h : biD n = some p) : CallR X (.builtin n) (rn (gx X T) p) := by
  unfold biD at h
  split at h
  · cases h; exact len_ok
  · cases h; exact abs_ok
  · cases h; exact max_ok hc
  · cases h; exact min_ok hc
  · cases h; exact all_ok hc
  · cases h; exact any_ok hc
  · cases h; exact sum_ok hc
  · cases h
theorem ty_ok {n : String} {p : List D → Mem → O} (h : tyD n = some p) : CallR X (.type n) (rn (gx X T) p) := by
  unfold tyD at h
  split at h
  · cases h; exact intc_ok
  · cases h; exact boolc_ok
  · cases h; exact strc_ok
  · cases h; exact listc_ok
  · cases h; exact tuplec_ok
  · cases h
end
end Ev

set_option Elab.async false
set_option linter.all false
set_option maxRecDepth 100000
set_option maxHeartbeats 4000000
namespace Ev
open PySem PySem.Spec PyProof.Rows L2
theorem _root_.L2.PE.weak {X : Cx} {e : Expr} {t t' : TE} (h : PE X e t) (i : ∀ σ H Q, t' σ H Q → t σ H Q) : PE X e t' := ⟨fun pins s σ H Q I q => h.run pins s σ H Q I (i σ H Q q)⟩
theorem _root_.L2.PT.weak {X : Cx} {e : Expr} {t t' : TT} (h : PT X e t) (i : ∀ σ H Q, t' σ H Q → t σ H Q) : PT X e t' := ⟨fun pins s σ H Q I q => h.run pins s σ H Q I (i σ H Q q)⟩
theorem _root_.L2.PW.weak {X : Cx} {e : Expr} {t t' : TT} (h : PW X e t) (i : ∀ σ H Q, t' σ H Q → t σ H Q) : PW X e t' := ⟨fun wh pins s σ H Q I q => h.run wh pins s σ H Q I (i σ H Q q)⟩
theorem _root_.L2.PA.weak {X : Cx} {e : List Expr} {t t' : TA} (h : PA X e t) (i : ∀ σ H Q, t' σ H Q → t σ H Q) : PA X e t' := ⟨fun p pins s σ H Q I q => h.run p pins s σ H Q I (i σ H Q q)⟩
theorem _root_.L2.PS.weak {X : Cx} {e : Stmt} {t t' : TS} (h : PS X e t) (i : ∀ D σ H, t' D σ H → t D σ H) : PS X e t' := ⟨fun pins s σ H Q I q => h.run pins s σ H Q I (i Q σ H q)⟩
theorem _root_.L2.PSs.weak {X : Cx} {e : List Stmt} {t t' : TS} (h : PSs X e t) (i : ∀ D σ H, t' D σ H → t D σ H) : PSs X e t' := ⟨fun pins s σ H Q I q => h.run pins s σ H Q I (i Q σ H q)⟩

/-! ### the combinators -/
def eK (d : D) : E := fun _ μ => .ok d μ
def eVar (i : Nat) : E := fun ρ μ => match ρ[i]? with
  | some (some d) => .ok d μ
  | _ => .er
def eUn (p : D → Mem → O) (a : E) : E := fun ρ μ => (a ρ μ).bind fun x μ1 => (p x μ1).r
def eBin (p : D → D → Mem → O) (a b : E) : E := fun ρ μ => (a ρ μ).bind fun x μ1 => (b ρ μ1).bind fun y μ2 => (p x y μ2).r
def esNil : Es := fun _ μ => .ok [] μ
def esCons (a : E) (as : Es) : Es := fun ρ μ => (a ρ μ).bind fun x μ1 => (as ρ μ1).bind fun xs μ2 => .ok (x :: xs) μ2
def eApp (p : List D → Mem → O) (as : Es) : E := fun ρ μ => (as ρ μ).bind fun xs μ1 => (p xs μ1).r
def eIf (t : T) (a b : E) : E := fun ρ μ => (t ρ μ).bind fun c μ1 => if c = true then a ρ μ1 else b ρ μ1
def tTru (a : E) : T := fun ρ μ => (a ρ μ).bind fun x μ1 => match truD μ1 x with
  | some b => .ok b μ1
  | none => .er
def tBl (a : E) : T := fun ρ μ => (a ρ μ).bind fun x μ1 => match x with
  | .bl b => .ok b μ1
  | _ => .er
def tNo (a : T) : T := fun ρ μ => (a ρ μ).bind fun c μ1 => .ok (!c) μ1
def tAn (a b : T) : T := fun ρ μ => (a ρ μ).bind fun c μ1 => if c = true then b ρ μ1 else .ok false μ1
def tOr' (a b : T) : T := fun ρ μ => (a ρ μ).bind fun c μ1 => if c = true then .ok true μ1 else b ρ μ1
def eNo (a : E) : E := fun ρ μ => (a ρ μ).bind fun x μ1 => match x with
  | .bl b => .ok (.bl (!b)) μ1
  | _ => .er
def eAn (a b : E) : E := fun ρ μ => (a ρ μ).bind fun x μ1 => match x with
  | .bl c => if c = true then b ρ μ1 else .ok (.bl false) μ1
  | _ => .er
def eOr (a b : E) : E := fun ρ μ => (a ρ μ).bind fun x μ1 => match x with
  | .bl c => if c = true then .ok (.bl true) μ1 else b ρ μ1
  | _ => .er
def eChain (p q : D → D → Mem → O) (a b c : E) : E := fun ρ μ => (a ρ μ).bind fun x μ1 => (b ρ μ1).bind fun y μ2 => (p x y μ2).r.bind fun z μ3 => match z with
  | .bl k => if k = true then (c ρ μ3).bind fun w μ4 => (q y w μ4).r else .ok (.bl false) μ3
  | _ => .er
def tupP : List D → Mem → O := fun xs μ => if xs.length ≤ 1000 then some (.tup xs, μ) else none
def lstP : List D → Mem → O := fun xs μ => if xs.length ≤ 1000 then some (.loc μ.length, μ ++ [.lst xs]) else none

section
variable {X : Cx} {T₀ : TX} {W : WX} {G : Gc} {ι : List Addr} {H : Hp} {μ : Mem} {σ : St} {ρ : Env} {E₀ : XK}
/-- first f, then g -/
theorem Pst.bind {f : R D} {g : D → Mem → R D} {Q : VK} (w : Wd G ι μ H) (e : EnvR G ι H ρ σ) (h : Pst G ι H E₀ Q (f.bind g)) :
    Pst G ι H E₀ (fun x H1 => ∃ d μ1 ι1, Grow G ι H ι1 H1 ∧ Wd G ι1 μ1 H1 ∧ EnvR G ι1 H1 ρ σ ∧ RelD G ι1 H1 d x ∧ f = .ok d μ1 ∧ Pst G ι1 H1 E₀ Q (g d μ1)) f := by
  cases f with
  | ok d m => exact fun v H' ι' g' w' r => ⟨d, m, ι', g', w', e.grow w g', r, rfl, Pst.grow g' h⟩
  | ex x m => exact h
  | er => exact h
theorem PsL.bind {f : R (List D)} {g : List D → Mem → R D} {Q : VK} (w : Wd G ι μ H) (e : EnvR G ι H ρ σ) (h : Pst G ι H E₀ Q (f.bind g)) :
    PsL G ι H E₀ (fun x H1 => ∃ d μ1 ι1, Grow G ι H ι1 H1 ∧ Wd G ι1 μ1 H1 ∧ EnvR G ι1 H1 ρ σ ∧ RelDs G ι1 H1 d x ∧ f = .ok d μ1 ∧ Pst G ι1 H1 E₀ Q (g d μ1)) f := by
  cases f with
  | ok d m => exact fun v H' ι' g' w' r => ⟨d, m, ι', g', w', e.grow w g', r, rfl, Pst.grow g' h⟩
  | ex x m => exact h
  | er => exact h
theorem PsB.bind {f : R Bool} {g : Bool → Mem → R D} {Q : VK} (w : Wd G ι μ H) (e : EnvR G ι H ρ σ) (h : Pst G ι H E₀ Q (f.bind g)) :
    PsB G ι H E₀ (fun c H1 => ∃ μ1 ι1, Grow G ι H ι1 H1 ∧ Wd G ι1 μ1 H1 ∧ EnvR G ι1 H1 ρ σ ∧ f = .ok c μ1 ∧ Pst G ι1 H1 E₀ Q (g c μ1)) f := by
  cases f with
  | ok d m => exact fun H' ι' g' w' => ⟨m, ι', g', w', e.grow w g', rfl, Pst.grow g' h⟩
  | ex x m => exact h
  | er => exact h
theorem Pst.bindB {f : R D} {g : D → Mem → R Bool} {Q : Bool → Hp → Prop} (w : Wd G ι μ H) (e : EnvR G ι H ρ σ) (h : PsB G ι H E₀ Q (f.bind g)) :
    Pst G ι H E₀ (fun x H1 => ∃ d μ1 ι1, Grow G ι H ι1 H1 ∧ Wd G ι1 μ1 H1 ∧ EnvR G ι1 H1 ρ σ ∧ RelD G ι1 H1 d x ∧ f = .ok d μ1 ∧ PsB G ι1 H1 E₀ Q (g d μ1)) f := by
  cases f with
  | ok d m => exact fun v H' ι' g' w' r => ⟨d, m, ι', g', w', e.grow w g', r, rfl, PsB.grow g' h⟩
  | ex x m => exact h
  | er => exact h
theorem PsB.bindB {f : R Bool} {g : Bool → Mem → R Bool} {Q : Bool → Hp → Prop} (w : Wd G ι μ H) (e : EnvR G ι H ρ σ) (h : PsB G ι H E₀ Q (f.bind g)) :
    PsB G ι H E₀ (fun c H1 => ∃ μ1 ι1, Grow G ι H ι1 H1 ∧ Wd G ι1 μ1 H1 ∧ EnvR G ι1 H1 ρ σ ∧ f = .ok c μ1 ∧ PsB G ι1 H1 E₀ Q (g c μ1)) f := by
  cases f with
  | ok d m => exact fun H' ι' g' w' => ⟨m, ι', g', w', e.grow w g', rfl, PsB.grow g' h⟩
  | ex x m => exact h
  | er => exact h
theorem Pst.bindL {f : R D} {g : D → Mem → R (List D)} {Q : List V → Hp → Prop} (w : Wd G ι μ H) (e : EnvR G ι H ρ σ) (h : PsL G ι H E₀ Q (f.bind g)) :
    Pst G ι H E₀ (fun x H1 => ∃ d μ1 ι1, Grow G ι H ι1 H1 ∧ Wd G ι1 μ1 H1 ∧ EnvR G ι1 H1 ρ σ ∧ RelD G ι1 H1 d x ∧ f = .ok d μ1 ∧ PsL G ι1 H1 E₀ Q (g d μ1)) f := by
  cases f with
  | ok d m => exact fun v H' ι' g' w' r => ⟨d, m, ι', g', w', e.grow w g', r, rfl, PsL.grow g' h⟩
  | ex x m => exact h
  | er => exact h
theorem PsL.bindL {f : R (List D)} {g : List D → Mem → R (List D)} {Q : List V → Hp → Prop} (w : Wd G ι μ H) (e : EnvR G ι H ρ σ) (h : PsL G ι H E₀ Q (f.bind g)) :
    PsL G ι H E₀ (fun x H1 => ∃ d μ1 ι1, Grow G ι H ι1 H1 ∧ Wd G ι1 μ1 H1 ∧ EnvR G ι1 H1 ρ σ ∧ RelDs G ι1 H1 d x ∧ f = .ok d μ1 ∧ PsL G ι1 H1 E₀ Q (g d μ1)) f := by
  cases f with
  | ok d m => exact fun v H' ι' g' w' r => ⟨d, m, ι', g', w', e.grow w g', r, rfl, PsL.grow g' h⟩
  | ex x m => exact h
  | er => exact h
/-- a primitive's end -/
theorem Pst.don {o : O} {Q : VK} (h : Pst G ι H E₀ Q o.r) : Don G ι H Q o := by
  match o, h with
  | some (d, m), h => exact h
theorem Pst.here {Q : VK} {d : D} {v : V} (w : Wd G ι μ H) (r : RelD G ι H d v) (h : Pst G ι H E₀ Q (.ok d μ)) : Q v H := h v H ι .refl w r
theorem PsB.here {Q : Bool → Hp → Prop} {b : Bool} (w : Wd G ι μ H) (h : PsB G ι H E₀ Q (.ok b μ)) : Q b H := h H ι .refl w
theorem PsL.here {Q : List V → Hp → Prop} {d : List D} {v : List V} (w : Wd G ι μ H) (r : RelDs G ι H d v) (h : PsL G ι H E₀ Q (.ok d μ)) : Q v H := h v H ι .refl w r
/-! ### names, constants -/
theorem pe_k {e : Expr} {d : D} {v : V} (h : PE X e (tC v)) (r : ∀ ι H, RelD (gx X T₀) ι H d v) : PE X e (tE (gx X T₀) W (eK d)) := h.weak fun σ H Q ⟨ρ, μ, ι, w, _, q⟩ => Pst.here w (r ι H) q
theorem pe_v {i : Nat} {e : Expr} (h : PE X e (tVar i)) : PE X e (tE (gx X T₀) W (eVar i)) := h.weak fun σ H Q ⟨ρ, μ, ι, w, ev, q⟩ => by
  unfold eVar at q
  split at q
  · rename_i d hd
    obtain ⟨v, h1, h2⟩ := ev.2 i d hd
    exact ⟨v, h1, Pst.here w h2 q⟩
  · exact q.elim
/-! ### operators -/
variable {a b c : Expr} {fa fb fc : E} {pos : Pos}
theorem tE_bin {p : D → D → Mem → O} {σ : St} {H : Hp} {Q : VK} (h : tE G W (eBin p fa fb) σ H Q) : tOp (r2 G p) (tE G W fa) (tE G W fb) σ H Q := by
  obtain ⟨ρ, μ, ι, w, ev, q⟩ := h
  refine ⟨ρ, μ, ι, w, ev, ?_⟩
  have q1 := Pst.bind w ev q
  cases hf : fa ρ μ with
  | ok d m =>
    rw [hf] at q1
    intro v H' ι' g' w' r
    obtain ⟨d1, μ1, ι1, g1, w1, e1, r1, z, q2⟩ := q1 v H' ι' g' w' r
    refine ⟨ρ, μ1, ι1, w1, e1, ?_⟩
    have q3 := Pst.bind w1 e1 q2
    cases hg : fb ρ μ1 with
    | ok d' m' =>
      rw [hg] at q3
      intro v' H'' ι'' g'' w'' r'
      obtain ⟨d2, μ2, ι2, g2, w2, e2, r2, z2, q4⟩ := q3 v' H'' ι'' g'' w'' r'
      exact ⟨d1, d2, μ2, ι2, w2, r1.grow w1 g2, r2, q4.don⟩
    | ex x m' => rw [hg] at q3; exact q3
    | er => rw [hg] at q3; exact q3
  | ex x m => rw [hf] at q1; exact q1
  | er => rw [hf] at q1; exact q1
theorem pe_bin (op : Operator) (ha : PE X a (tE (gx X T₀) W fa)) (hb : PE X b (tE (gx X T₀) W fb)) : PE X (.BinOp a op b pos) (tE (gx X T₀) W (eBin (binD op) fa fb)) := (pe_op (bin_ok (T := T₀) op) ha hb).weak fun σ H Q h => tE_bin h
theorem pe_cmpE (hu : X.A.units + 64 < cLine) (op : CmpOp) (ha : PE X a (tE (gx X T₀) W fa)) (hb : PE X b (tE (gx X T₀) W fb)) (hm : behindInMarks op b = false) : PE X (.Compare a [op] [b] pos) (tE (gx X T₀) W (eBin (cmpD op) fa fb)) :=
  (pe_cmpR (cmp_ok (T := T₀) hu op) ha hb hm).weak fun σ H Q h => tE_bin h
theorem tE_bl {fa : E} {σ : St} {H : Hp} {Q : Bool → Hp → Prop} (h : tT G W (tBl fa) σ H Q) : tE G W fa σ H fun x H' => ∃ k, x = .bl k ∧ Q k H' := by
  obtain ⟨ρ, μ, ι, w, ev, q⟩ := h
  refine ⟨ρ, μ, ι, w, ev, ?_⟩
  have q1 := Pst.bindB w ev q
  cases hf : fa ρ μ with
  | ok d m =>
    rw [hf] at q1
    intro v H' ι' g' w' r
    obtain ⟨d1, μ1, ι1, g1, w1, e1, r1, z, q2⟩ := q1 v H' ι' g' w' r
    cases r1 <;> first | exact q2.elim | exact ⟨_, rfl, PsB.here w1 q2⟩
  | ex x m => rw [hf] at q1; exact q1
  | er => rw [hf] at q1; exact q1
theorem tE_tru {fa : E} {σ : St} {H : Hp} {Q : Bool → Hp → Prop} (h : tT (gx X T₀) W (tTru fa) σ H Q) : tE (gx X T₀) W fa σ H fun x H' => ∃ k, TruV X.K x H' k ∧ Q k H' := by
  obtain ⟨ρ, μ, ι, w, ev, q⟩ := h
  refine ⟨ρ, μ, ι, w, ev, ?_⟩
  have q1 := Pst.bindB w ev q
  cases hf : fa ρ μ with
  | ok d m =>
    rw [hf] at q1
    intro v H' ι' g' w' r
    obtain ⟨d1, μ1, ι1, g1, w1, e1, r1, z, q2⟩ := q1 v H' ι' g' w' r
    split at q2
    · rename_i b hb
      exact ⟨b, tru_rel w1 r1 hb, PsB.here w1 q2⟩
    · exact q2.elim
  | ex x m => rw [hf] at q1; exact q1
  | er => rw [hf] at q1; exact q1
theorem pt_cmpE (hu : X.A.units + 64 < cLine) (op : CmpOp) (ha : PE X a (tE (gx X T₀) W fa)) (hb : PE X b (tE (gx X T₀) W fb)) (hm : behindInMarks op b = false) : PT X (.Compare a [op] [b] pos) (tT (gx X T₀) W (tBl (eBin (cmpD op) fa fb))) := by
  refine (pt_cmpR (cmp_ok (T := T₀) hu op) ha hb hm).weak fun σ H Q h => ?_
  exact tE_bin (tE_bl h)
theorem pt_tru (ha : PE X a (tE (gx X T₀) W fa)) (he : ∀ whole, isTrue a X.env whole = (do let v ← whole; standAt a.pos; holding [v] (truthy v))) : PT X a (tT (gx X T₀) W (tTru fa)) :=
  (pt_truth ha he).weak fun σ H Q h => tE_tru h
theorem tE_chain {p q : D → D → Mem → O} {σ : St} {H : Hp} {Q : VK} (h : tE G W (eChain p q fa fb fc) σ H Q) : tChain (r2 G p) (r2 G q) (tE G W fa) (tE G W fb) (tE G W fc) σ H Q := by
  obtain ⟨ρ, μ, ι, w, ev, hq⟩ := h
  refine ⟨ρ, μ, ι, w, ev, ?_⟩
  have q1 := Pst.bind w ev hq
  cases hf : fa ρ μ with
  | ok d m =>
    rw [hf] at q1
    intro v H' ι' g' w' r
    obtain ⟨d1, μ1, ι1, g1, w1, e1, r1, z, q2⟩ := q1 v H' ι' g' w' r
    refine ⟨ρ, μ1, ι1, w1, e1, ?_⟩
    have q3 := Pst.bind w1 e1 q2
    cases hg : fb ρ μ1 with
    | ok d' m' =>
      rw [hg] at q3
      intro v' H'' ι'' g'' w'' r'
      obtain ⟨d2, μ2, ι2, g2, w2, e2, r2, z2, q4⟩ := q3 v' H'' ι'' g'' w'' r'
      refine ⟨d1, d2, μ2, ι2, w2, r1.grow w1 g2, r2, ?_⟩
      have q5 := Pst.bind w2 e2 q4
      match hp : p d1 d2 μ2, q5 with
      | some (d3, μ3), q5 =>
        intro v3 H3 ι3 g3 w3 r3
        obtain ⟨d4, μ4, ι4, g4, w4, e4, r4, z4, q6⟩ := q5 v3 H3 ι3 g3 w3 r3
        cases r4 with
        | bl k =>
          refine ⟨k, rfl, ?_⟩
          cases k with
          | false => exact Pst.here w4 (.bl _) q6
          | true =>
            dsimp only at q6
            rw [if_pos rfl] at q6 ⊢
            refine ⟨ρ, μ4, ι4, w4, e4, ?_⟩
            have q7 := Pst.bind w4 e4 q6
            cases hc : fc ρ μ4 with
            | ok d5 m5 =>
              rw [hc] at q7
              intro v5 H5 ι5 g5 w5 r5
              obtain ⟨d6, μ6, ι6, g6, w6, e6, r6, z6, q8⟩ := q7 v5 H5 ι5 g5 w5 r5
              exact ⟨d2, d6, μ6, ι6, w6, r2.grow w2 (g4.trans g6), r6, q8.don⟩
            | ex x m => rw [hc] at q7; exact q7
            | er => rw [hc] at q7; exact q7
        | _ => exact q6.elim
      | none, q5 => exact q5.elim
    | ex x m' => rw [hg] at q3; exact q3
    | er => rw [hg] at q3; exact q3
  | ex x m => rw [hf] at q1; exact q1
  | er => rw [hf] at q1; exact q1
theorem pe_chainE (hu : X.A.units + 64 < cLine) (op op' : CmpOp) (ha : PE X a (tE (gx X T₀) W fa)) (hb : PE X b (tE (gx X T₀) W fb)) (hc : PE X c (tE (gx X T₀) W fc)) (hm : lastMarks [op, op'] [b, c] = false) : PE X (.Compare a [op, op'] [b, c] pos) (tE (gx X T₀) W (eChain (cmpD op) (cmpD op') fa fb fc)) :=
  (pe_chain (cmp_ok (T := T₀) hu op) (cmp_ok (T := T₀) hu op') ha hb hc hm).weak fun σ H Q h => tE_chain h
theorem pt_chainE (hu : X.A.units + 64 < cLine) (op op' : CmpOp) (ha : PE X a (tE (gx X T₀) W fa)) (hb : PE X b (tE (gx X T₀) W fb)) (hc : PE X c (tE (gx X T₀) W fc)) (hm : lastMarks [op, op'] [b, c] = false) : PT X (.Compare a [op, op'] [b, c] pos) (tT (gx X T₀) W (tBl (eChain (cmpD op) (cmpD op') fa fb fc))) :=
  (pt_chain (cmp_ok (T := T₀) hu op) (cmp_ok (T := T₀) hu op') ha hb hc hm).weak fun σ H Q h => tE_chain (tE_bl h)
/-! ### and, or, not, if -/
variable {ta tb : T} {rest : List Expr}
theorem pt_no (ha : PT X a (tT (gx X T₀) W ta)) : PT X (.UnaryOp .Not a pos) (tT (gx X T₀) W (tNo ta)) := (pt_not ha).weak fun σ H Q ⟨ρ, μ, ι, w, ev, q⟩ => by
  refine ⟨ρ, μ, ι, w, ev, ?_⟩
  have q1 := PsB.bindB w ev q
  cases hf : ta ρ μ with
  | ok d m => rw [hf] at q1; exact fun H' ι' g' w' => let ⟨μ1, ι1, g1, w1, e1, z, q2⟩ := q1 H' ι' g' w'; PsB.here w1 q2
  | ex x m => rw [hf] at q1; exact q1
  | er => rw [hf] at q1; exact q1
theorem tT_an {σ : St} {H : Hp} {Q : Bool → Hp → Prop} (h : tT G W (tAn ta tb) σ H Q) : tAnd (tT G W ta) (tT G W tb) σ H Q := by
  obtain ⟨ρ, μ, ι, w, ev, q⟩ := h
  refine ⟨ρ, μ, ι, w, ev, ?_⟩
  have q1 := PsB.bindB w ev q
  cases hf : ta ρ μ with
  | ok d m =>
    rw [hf] at q1
    intro H' ι' g' w'
    obtain ⟨μ1, ι1, g1, w1, e1, z, q2⟩ := q1 H' ι' g' w'
    cases d with
    | true => rw [if_pos rfl] at q2 ⊢; exact ⟨ρ, μ1, ι1, w1, e1, q2⟩
    | false => exact PsB.here w1 q2
  | ex x m => rw [hf] at q1; exact q1
  | er => rw [hf] at q1; exact q1
theorem tT_or {σ : St} {H : Hp} {Q : Bool → Hp → Prop} (h : tT G W (tOr' ta tb) σ H Q) : tOr (tT G W ta) (tT G W tb) σ H Q := by
  obtain ⟨ρ, μ, ι, w, ev, q⟩ := h
  refine ⟨ρ, μ, ι, w, ev, ?_⟩
  have q1 := PsB.bindB w ev q
  cases hf : ta ρ μ with
  | ok d m =>
    rw [hf] at q1
    intro H' ι' g' w'
    obtain ⟨μ1, ι1, g1, w1, e1, z, q2⟩ := q1 H' ι' g' w'
    cases d with
    | false => rw [if_neg Bool.false_ne_true] at q2 ⊢; exact ⟨ρ, μ1, ι1, w1, e1, q2⟩
    | true => exact PsB.here w1 q2
  | ex x m => rw [hf] at q1; exact q1
  | er => rw [hf] at q1; exact q1
theorem pw_anE (ha : PT X a (tT (gx X T₀) W ta)) (hb : PW X (.BoolOp .And (b :: rest) pos) (tT (gx X T₀) W tb)) : PW X (.BoolOp .And (a :: b :: rest) pos) (tT (gx X T₀) W (tAn ta tb)) := (pw_and ha hb).weak fun σ H Q h => tT_an h
theorem pw_orE (ha : PT X a (tT (gx X T₀) W ta)) (hb : PW X (.BoolOp .Or (b :: rest) pos) (tT (gx X T₀) W tb)) : PW X (.BoolOp .Or (a :: b :: rest) pos) (tT (gx X T₀) W (tOr' ta tb)) := (pw_or ha hb).weak fun σ H Q h => tT_or h
theorem pe_noE (ha : PE X a (tE (gx X T₀) W fa)) : PE X (.UnaryOp .Not a pos) (tE (gx X T₀) W (eNo fa)) := (pe_not ha).weak fun σ H Q ⟨ρ, μ, ι, w, ev, q⟩ => by
  refine ⟨ρ, μ, ι, w, ev, ?_⟩
  have q1 := Pst.bind w ev q
  cases hf : fa ρ μ with
  | ok d m =>
    rw [hf] at q1
    intro v H' ι' g' w' r
    obtain ⟨d1, μ1, ι1, g1, w1, e1, r1, z, q2⟩ := q1 v H' ι' g' w' r
    cases r1 <;> first | exact q2.elim | exact ⟨_, rfl, Pst.here w1 (.bl _) q2⟩
  | ex x m => rw [hf] at q1; exact q1
  | er => rw [hf] at q1; exact q1
theorem pe_anE (ha : PE X a (tE (gx X T₀) W fa)) (hb : PE X (.BoolOp .And (b :: rest) pos) (tE (gx X T₀) W fb)) : PE X (.BoolOp .And (a :: b :: rest) pos) (tE (gx X T₀) W (eAn fa fb)) := (pe_and ha hb).weak fun σ H Q ⟨ρ, μ, ι, w, ev, q⟩ => by
  refine ⟨ρ, μ, ι, w, ev, ?_⟩
  have q1 := Pst.bind w ev q
  cases hf : fa ρ μ with
  | ok d m =>
    rw [hf] at q1
    intro v H' ι' g' w' r
    obtain ⟨d1, μ1, ι1, g1, w1, e1, r1, z, q2⟩ := q1 v H' ι' g' w' r
    cases r1 with
    | bl k =>
      refine ⟨k, rfl, ?_⟩
      cases k with
      | true => dsimp only at q2; rw [if_pos rfl] at q2 ⊢; exact ⟨ρ, μ1, ι1, w1, e1, q2⟩
      | false => exact Pst.here w1 (.bl _) q2
    | _ => exact q2.elim
  | ex x m => rw [hf] at q1; exact q1
  | er => rw [hf] at q1; exact q1
theorem pe_orE (ha : PE X a (tE (gx X T₀) W fa)) (hb : PE X (.BoolOp .Or (b :: rest) pos) (tE (gx X T₀) W fb)) : PE X (.BoolOp .Or (a :: b :: rest) pos) (tE (gx X T₀) W (eOr fa fb)) := (pe_or ha hb).weak fun σ H Q ⟨ρ, μ, ι, w, ev, q⟩ => by
  refine ⟨ρ, μ, ι, w, ev, ?_⟩
  have q1 := Pst.bind w ev q
  cases hf : fa ρ μ with
  | ok d m =>
    rw [hf] at q1
    intro v H' ι' g' w' r
    obtain ⟨d1, μ1, ι1, g1, w1, e1, r1, z, q2⟩ := q1 v H' ι' g' w' r
    cases r1 with
    | bl k =>
      refine ⟨k, rfl, ?_⟩
      cases k with
      | false => dsimp only at q2; rw [if_neg Bool.false_ne_true] at q2 ⊢; exact ⟨ρ, μ1, ι1, w1, e1, q2⟩
      | true => exact Pst.here w1 (.bl _) q2
    | _ => exact q2.elim
  | ex x m => rw [hf] at q1; exact q1
  | er => rw [hf] at q1; exact q1
theorem pe_ifE (hc : PT X c (tT (gx X T₀) W ta)) (ha : PE X a (tE (gx X T₀) W fa)) (hb : PE X b (tE (gx X T₀) W fb)) : PE X (.IfExp c a b pos) (tE (gx X T₀) W (eIf ta fa fb)) := (pe_ifExp hc ha hb).weak fun σ H Q ⟨ρ, μ, ι, w, ev, q⟩ => by
  refine ⟨ρ, μ, ι, w, ev, ?_⟩
  have q1 := PsB.bind w ev q
  cases hf : ta ρ μ with
  | ok d m =>
    rw [hf] at q1
    intro H' ι' g' w'
    obtain ⟨μ1, ι1, g1, w1, e1, z, q2⟩ := q1 H' ι' g' w'
    cases d with
    | true => rw [if_pos rfl] at q2 ⊢; exact ⟨ρ, μ1, ι1, w1, e1, q2⟩
    | false => rw [if_neg Bool.false_ne_true] at q2 ⊢; exact ⟨ρ, μ1, ι1, w1, e1, q2⟩
  | ex x m => rw [hf] at q1; exact q1
  | er => rw [hf] at q1; exact q1
/-! ### argument lists, displays, calls -/
variable {es : List Expr} {fs : Es}
theorem pa_nilE : PA X [] (tEs (gx X T₀) W esNil) := pa_nil.weak fun σ H Q ⟨ρ, μ, ι, w, ev, q⟩ => PsL.here w .nil q
theorem pa_consE (ha : PE X a (tE (gx X T₀) W fa)) (hr : PA X es (tEs (gx X T₀) W fs)) (hs : starEach (a :: es) X.env = (false, eval a X.env) :: starEach es X.env) : PA X (a :: es) (tEs (gx X T₀) W (esCons fa fs)) := (pa_cons ha hr hs).weak fun σ H Q ⟨ρ, μ, ι, w, ev, q⟩ => by
  refine ⟨ρ, μ, ι, w, ev, ?_⟩
  have q1 := Pst.bindL w ev q
  cases hf : fa ρ μ with
  | ok d m =>
    rw [hf] at q1
    intro v H' ι' g' w' r
    obtain ⟨d1, μ1, ι1, g1, w1, e1, r1, z, q2⟩ := q1 v H' ι' g' w' r
    refine ⟨ρ, μ1, ι1, w1, e1, ?_⟩
    have q3 := PsL.bindL w1 e1 q2
    cases hg : fs ρ μ1 with
    | ok d' m' =>
      rw [hg] at q3
      intro v' H'' ι'' g'' w'' r'
      obtain ⟨d2, μ2, ι2, g2, w2, e2, r2, z2, q4⟩ := q3 v' H'' ι'' g'' w'' r'
      exact PsL.here w2 (.cons (r1.grow w1 g2) r2) q4
    | ex x m' => rw [hg] at q3; exact q3
    | er => rw [hg] at q3; exact q3
  | ex x m => rw [hf] at q1; exact q1
  | er => rw [hf] at q1; exact q1
/-- arguments, then a primitive by values -/
theorem tE_app {p : List D → Mem → O} {σ : St} {H : Hp} {Q : VK} (h : tE G W (eApp p fs) σ H Q) : tEs G W fs σ H fun vs H1 => rn G p vs H1 Q := by
  obtain ⟨ρ, μ, ι, w, ev, q⟩ := h
  refine ⟨ρ, μ, ι, w, ev, ?_⟩
  have q1 := PsL.bind w ev q
  cases hf : fs ρ μ with
  | ok d m =>
    rw [hf] at q1
    intro v H' ι' g' w' r
    obtain ⟨d1, μ1, ι1, g1, w1, e1, r1, z, q2⟩ := q1 v H' ι' g' w' r
    exact ⟨d1, μ1, ι1, w1, r1, q2.don⟩
  | ex x m => rw [hf] at q1; exact q1
  | er => rw [hf] at q1; exact q1
theorem tEs_mono {σ : St} {H : Hp} {Q Q' : List V → Hp → Prop} (h : tEs G W fs σ H Q) (i : ∀ vs H1, Q vs H1 → Q' vs H1) : tEs G W fs σ H Q' := by
  obtain ⟨ρ, μ, ι, w, ev, q⟩ := h
  refine ⟨ρ, μ, ι, w, ev, ?_⟩
  cases hf : fs ρ μ with
  | ok d m => rw [hf] at q; exact fun v H' ι' g' w' r => i _ _ (q v H' ι' g' w' r)
  | ex x m => rw [hf] at q; exact q
  | er => rw [hf] at q; exact q
theorem tE_mono {σ : St} {H : Hp} {Q Q' : VK} (h : tE G W fa σ H Q) (i : ∀ vs H1, Q vs H1 → Q' vs H1) : tE G W fa σ H Q' := by
  obtain ⟨ρ, μ, ι, w, ev, q⟩ := h
  refine ⟨ρ, μ, ι, w, ev, ?_⟩
  cases hf : fa ρ μ with
  | ok d m => rw [hf] at q; exact fun v H' ι' g' w' r => i _ _ (q v H' ι' g' w' r)
  | ex x m => rw [hf] at q; exact q
  | er => rw [hf] at q; exact q
theorem pe_tupE {k : Nat} (h : PA X es (tEs (gx X T₀) W fs)) : PE X (.Tuple es k pos) (tE (gx X T₀) W (eApp tupP fs)) := (pe_tup h).weak fun σ H Q q => by
  have hs : sizeLine = 16777216 := sizeLine_eq
  refine tEs_mono (tE_app q) fun vs H1 ⟨ds, μ, ι, w, r, d⟩ => ?_
  unfold tupP at d
  split at d
  · rename_i hz
    exact ⟨by rw [← r.length]; omega, Don.tup w r d⟩
  · exact d.elim
theorem pe_lstE (h : PA X es (tEs (gx X T₀) W fs)) : PE X (.List es pos) (tE (gx X T₀) W (eApp lstP fs)) := (pe_lst h).weak fun σ H Q q => by
  have hs : sizeLine = 16777216 := sizeLine_eq
  refine tEs_mono (tE_app q) fun vs H1 ⟨ds, μ, ι, w, r, d⟩ => ?_
  unfold lstP at d
  split at d
  · rename_i hz
    exact ⟨by rw [← r.length]; omega, Don.lst w r d⟩
  · exact d.elim
/-- f(e, ..), f a built-in function; a built-in type -/
theorem pe_bi {x : Str} {n : String} {p : List D → Mem → O} {q : Pos} (hp : CallR X (.builtin n) (rn (gx X T₀) p)) (hg : Gl X x) (hm : X.mg x = none) (hv : bootBuiltins x = some (.builtin n)) (ha : PA X (a :: es) (tEs (gx X T₀) W fs)) (hn : x ≠ "__name__") (hdb : (x == ("__debug__" : Str)) = false)
    (he : starEach (a :: es) X.env = (false, eval a X.env) :: starEach es X.env) (hpl : (backTo pos (starEach es X.env)).any (·.1) = false) : PE X (.Call (.Name x q) (a :: es) [] pos) (tE (gx X T₀) W (eApp p fs)) :=
  (pe_callB hp hg hm hv ha hn hdb he hpl).weak fun σ H Q h => tE_app h
theorem pe_ty {x : Str} {n : String} {p : List D → Mem → O} {q : Pos} (hp : CallR X (.type n) (rn (gx X T₀) p)) (hg : Gl X x) (hm : X.mg x = none) (hv : bootBuiltins x = some (.type n)) (ha : PA X (a :: es) (tEs (gx X T₀) W fs)) (hn : x ≠ "__name__") (hdb : (x == ("__debug__" : Str)) = false)
    (he : starEach (a :: es) X.env = (false, eval a X.env) :: starEach es X.env) (hpl : (backTo pos (starEach es X.env)).any (·.1) = false) : PE X (.Call (.Name x q) (a :: es) [] pos) (tE (gx X T₀) W (eApp p fs)) :=
  (pe_callTy hp hg hm hv ha hn hdb he hpl).weak fun σ H Q h => tE_app h
end
end Ev

set_option Elab.async false
set_option linter.all false
set_option maxRecDepth 100000
set_option maxHeartbeats 4000000
namespace Ev
open PySem PySem.Spec PyProof.Rows L2
theorem _root_.L2.PE.or {X : Cx} {e : Expr} {t t' : TE} (h : PE X e t) (h' : PE X e t') : PE X e (fun σ H Q => t σ H Q ∨ t' σ H Q) := ⟨fun pins s σ H Q I q => q.elim (h.run pins s σ H Q I) (h'.run pins s σ H Q I)⟩
theorem l2takes0 {X : Cx} : L2.Takes X (fun _ _ _ _ => False) := fun _ _ ⟨_, _, _, _, _, _, _, _, _, _, _, _, _, _, _, _, z⟩ => z.elim
section
variable {X : Cx} {T₀ : TX} {W : WX} {G : Gc} {ι : List Addr} {H : Hp} {μ : Mem} {σ : St} {ρ : Env} {E₀ : XK} {a b c o : Expr} {fa fb fc fo : E} {pos apos cpos : Pos} {es : List Expr} {fs : Es}
/-! ### items -/
theorem RelDs.at {ds : List D} {vs : List V} (r : RelDs G ι H ds vs) {i : Int} {d : D} (h : atI ds i = some d) : ∃ v, atI vs i = some v ∧ RelD G ι H d v := by
  unfold atI at h ⊢
  rw [← r.length]
  cases e : ixN ds.length i with
  | none => rw [e] at h; cases h
  | some j => rw [e] at h; exact r.get h
def ixD : D → D → Mem → O
  | .str z, .int i, μ => if z.length ≤ sizeLine then (match atI z.cps.toList i with
    | some c => some (.str ⟨#[c]⟩, μ)
    | none => none) else none
  | d, .int i, μ => match seqD μ d with
    | some xs => match atI xs i with
      | some x => some (x, μ)
      | none => none
    | none => none
  | _, _, _ => none
theorem ix_okD : IxR X (r2 (gx X T₀) ixD) := by
  intro value slice pins s σ H x y v u Q I rx ry h hs
  obtain ⟨d, e, μ, ι, w, rd, re, h⟩ := h
  unfold ixD at h
  split at h
  · cases rd; cases re
    split at h
    · rename_i hz
      split at h
      · rename_i c e1
        exact ix_str value slice pins s σ H _ _ v u Q I rx ry ⟨_, _, c, rfl, rfl, hz, e1, Don.val w (.str _) h⟩ hs
      · exact h.elim
    · exact h.elim
  · cases re
    split at h
    · rename_i xs e1
      split at h
      · rename_i z e2
        obtain ⟨p, vs, rfl, hq, q⟩ := seq_rel w rd e1
        obtain ⟨v1, h1, h2⟩ := q.at e2
        rcases hq with hq | hq
        · exact ix_list value slice pins s σ H _ _ v u Q I rx ry ⟨p, vs, _, v1, rfl, rfl, hq, h1, Don.val w h2 h⟩ hs
        · exact ix_tup value slice pins s σ H _ _ v u Q I rx ry ⟨p, vs, _, v1, rfl, rfl, hq, h1, Don.val w h2 h⟩ hs
      · exact h.elim
    · exact h.elim
  · exact h.elim
theorem pe_ixE (ha : PE X a (tE (gx X T₀) W fa)) (hb : PE X b (tE (gx X T₀) W fb)) (hs : PlainIx b) : PE X (.Subscript a b pos) (tE (gx X T₀) W (eBin ixD fa fb)) := (pe_ix (ix_okD (T₀ := T₀)) ha hb hs).weak fun σ H Q h => tE_bin h
/-! ### slices -/
def cutD (xs : List D) (lo hi : Option Int) : List D := (xs.drop (HT.sIx xs.length 0 lo)).take (HT.sIx xs.length xs.length hi - HT.sIx xs.length 0 lo)
theorem RelDs.cut {ds : List D} {vs : List V} (r : RelDs G ι H ds vs) (lo hi : Option Int) : RelDs G ι H (cutD ds lo hi) (cutV vs lo hi) := by
  unfold cutD cutV
  rw [r.length]
  exact (r.drop _).take _
def slD : D → Option Int → Option Int → Mem → O
  | .str z, lo, hi, μ => if z.length ≤ sizeLine then some (.str (cutS z lo hi), μ) else none
  | .tup xs, lo, hi, μ => some (.tup (cutD xs lo hi), μ)
  | d, lo, hi, μ => match seqD μ d with
    | some xs => some (.loc μ.length, μ ++ [.lst (cutD xs lo hi)])
    | none => none
theorem sl_okD : SlR X (fun x lo hi H Q => ∃ d μ ι, Wd (gx X T₀) ι μ H ∧ RelD (gx X T₀) ι H d x ∧ Don (gx X T₀) ι H Q (slD d lo hi μ)) := by
  intro pins s σ H x v vl vu lo hi sl Q I rx hs pl pu h
  obtain ⟨d, μ, ι, w, rd, h⟩ := h
  unfold slD at h
  split at h
  · cases rd
    split at h
    · rename_i hz
      exact sl_str pins s σ H _ v vl vu lo hi sl Q I rx hs pl pu ⟨_, rfl, hz, Don.val w (.str _) h⟩
    · exact h.elim
  · cases rd with
    | tup h1 q =>
      refine sl_tupA pins s σ H _ v vl vu lo hi sl Q I rx hs pl pu ⟨_, _, rfl, h1, fun hw => ?_, fun _ => Don.tup w (q.cut lo hi) h⟩
      refine Don.val w (.tup h1 ?_) h
      rename_i xs a vs
      have e : cutD xs lo hi = xs := by
        unfold cutD
        rw [q.length, hw.1, hw.2]
        rw [List.drop_zero]
        exact List.take_of_length_le (by rw [q.length]; omega)
      rw [e]
      exact q
  · split at h
    · rename_i xs e1
      cases rd with
      | fl h1 q =>
        cases e1
        exact sl_list pins s σ H _ v vl vu lo hi sl Q I rx hs pl pu ⟨_, _, rfl, h1.sq, Don.lst w (q.cut lo hi) h⟩
      | loc e2 =>
        obtain ⟨p, vs, e3, _, l, q⟩ := w.lst (.loc e2) (lstAt_some e1)
        cases e3
        exact sl_list pins s σ H _ v vl vu lo hi sl Q I rx hs pl pu ⟨_, _, rfl, SqL.of l, Don.lst w (q.cut lo hi) h⟩
      | tup h1 q => first | exact absurd rfl (hn1 _) | (exfalso; rename_i a1 a2 a3 a4; first | exact a1 _ rfl | exact a2 _ rfl | exact a3 _ rfl | exact a4 _ rfl) | trace_state
      | _ => cases e1
    · exact h.elim
/-- a slice's part -/
abbrev OE := Env → Mem → R (Option Int)
def oNo : OE := fun _ μ => .ok none μ
def oSo (a : E) : OE := fun ρ μ => (a ρ μ).bind fun x μ1 => match x with
  | .int i => .ok (some i) μ1
  | _ => .er
def PsO (G : Gc) (ι : List Addr) (H : Hp) (E : XK) (Q : Option Int → Hp → Prop) : R (Option Int) → Prop
  | .ok d μ' => ∀ H' ι', Grow G ι H ι' H' → Wd G ι' μ' H' → Q d H'
  | .ex x μ' => ∀ H' ι' cls od, Grow G ι H ι' H' → Wd G ι' μ' H' → ExR G x cls od H' → E cls od H'
  | .er => False
def tO (G : Gc) (W : WX) (f : OE) : TO := fun σ H Q => ∃ ρ μ ι, Wd G ι μ H ∧ EnvR G ι H ρ σ ∧ PsO G ι H (fun c d H' => W c d σ H') Q (f ρ μ)
theorem _root_.L2.PO.weak {X : Cx} {e : Option Expr} {t t' : TO} (h : PO X e t) (i : ∀ σ H Q, t' σ H Q → t σ H Q) : PO X e t' := ⟨fun pins s σ H Q I q => h.run pins s σ H Q I (i σ H Q q)⟩
theorem po_noE : PO X none (tO (gx X T₀) W oNo) := po_none.weak fun σ H Q ⟨ρ, μ, ι, w, ev, q⟩ => q H ι .refl w
theorem po_soE (ha : PE X a (tE (gx X T₀) W fa)) : PO X (some a) (tO (gx X T₀) W (oSo fa)) := (po_some ha).weak fun σ H Q ⟨ρ, μ, ι, w, ev, q⟩ => by
  refine ⟨ρ, μ, ι, w, ev, ?_⟩
  unfold oSo at q
  cases hf : fa ρ μ with
  | ok d m =>
    rw [hf] at q
    intro v H' ι' g' w' r
    cases r <;> first | exact q.elim | exact ⟨_, rfl, q H' ι' g' w'⟩
  | ex x m => rw [hf] at q; exact q
  | er => rw [hf] at q; exact q
def eSl (a : E) (lo hi : OE) : E := fun ρ μ => (a ρ μ).bind fun x μ1 => (lo ρ μ1).bind fun l μ2 => (hi ρ μ2).bind fun h μ3 => (slD x l h μ3).r
theorem PsO.grow {ι1 : List Addr} {H1 : Hp} {Q : Option Int → Hp → Prop} {r : R (Option Int)} (g : Grow G ι H ι1 H1) (h : PsO G ι H E₀ Q r) : PsO G ι1 H1 E₀ Q r := by
  cases r with
  | ok d m => exact fun H' ι' g' w => h H' ι' (g.trans g') w
  | ex x m => exact fun H' ι' cls od g' w r => h H' ι' cls od (g.trans g') w r
  | er => exact h
theorem PsO.bind {f : R (Option Int)} {g : Option Int → Mem → R D} {Q : VK} (w : Wd G ι μ H) (e : EnvR G ι H ρ σ) (h : Pst G ι H E₀ Q (f.bind g)) :
    PsO G ι H E₀ (fun c H1 => ∃ μ1 ι1, Grow G ι H ι1 H1 ∧ Wd G ι1 μ1 H1 ∧ EnvR G ι1 H1 ρ σ ∧ f = .ok c μ1 ∧ Pst G ι1 H1 E₀ Q (g c μ1)) f := by
  cases f with
  | ok d m => exact fun H' ι' g' w' => ⟨m, ι', g', w', e.grow w g', rfl, Pst.grow g' h⟩
  | ex x m => exact h
  | er => exact h
theorem pe_slE {lo hi : Option Expr} {fl fh : OE} {p2 : Pos} (ha : PE X a (tE (gx X T₀) W fa)) (hl : PO X lo (tO (gx X T₀) W fl)) (hh : PO X hi (tO (gx X T₀) W fh)) : PE X (.Subscript a (.Slice lo hi none p2) pos) (tE (gx X T₀) W (eSl fa fl fh)) :=
  (pe_slice (sl_okD (T₀ := T₀)) ha hl hh).weak fun σ H Q ⟨ρ, μ, ι, w, ev, q⟩ => by
    refine ⟨ρ, μ, ι, w, ev, ?_⟩
    have q1 := Pst.bind w ev q
    cases hf : fa ρ μ with
    | ok d m =>
      rw [hf] at q1
      intro v H' ι' g' w' r
      obtain ⟨d1, μ1, ι1, g1, w1, e1, r1, z, q2⟩ := q1 v H' ι' g' w' r
      refine ⟨ρ, μ1, ι1, w1, e1, ?_⟩
      have q3 := PsO.bind w1 e1 q2
      cases hg : fl ρ μ1 with
      | ok d' m' =>
        rw [hg] at q3
        intro H2 ι2 g2 w2
        obtain ⟨μ2, ι2, g2, w2, e2, z2, q4⟩ := q3 H2 ι2 g2 w2
        refine ⟨ρ, μ2, ι2, w2, e2, ?_⟩
        have q5 := PsO.bind w2 e2 q4
        cases hh : fh ρ μ2 with
        | ok d3 m3 =>
          rw [hh] at q5
          intro H3 ι3 g3 w3
          obtain ⟨μ3, ι3, g3, w3, e3, z3, q6⟩ := q5 H3 ι3 g3 w3
          exact ⟨d1, μ3, ι3, w3, r1.grow w1 (g2.trans g3), q6.don⟩
        | ex x m' => rw [hh] at q5; exact q5
        | er => rw [hh] at q5; exact q5
      | ex x m' => rw [hg] at q3; exact q3
      | er => rw [hg] at q3; exact q3
    | ex x m => rw [hf] at q1; exact q1
    | er => rw [hf] at q1; exact q1
/-- xs[::-1] of a list -/
def revD : D → Mem → O := fun d μ => match d with
  | .tup _ => none
  | d => match seqD μ d with
    | some xs => some (.loc μ.length, μ ++ [.lst xs.reverse])
    | none => none
theorem RelDs.rev : ∀ {ds : List D} {vs : List V}, RelDs G ι H ds vs → RelDs G ι H ds.reverse vs.reverse
  | _, _, .nil => .nil
  | _, _, .cons r rs => by
    rw [List.reverse_cons, List.reverse_cons]
    exact rs.rev.append (.cons r .nil)
theorem tE_un {p : D → Mem → O} {σ : St} {H : Hp} {Q : VK} (h : tE G W (eUn p fa) σ H Q) : tE G W fa σ H fun x H1 => r1 G p x H1 Q := by
  obtain ⟨ρ, μ, ι, w, ev, q⟩ := h
  refine ⟨ρ, μ, ι, w, ev, ?_⟩
  have q1 := Pst.bind w ev q
  cases hf : fa ρ μ with
  | ok d m =>
    rw [hf] at q1
    intro v H' ι' g' w' r
    obtain ⟨d1, μ1, ι1, g1, w1, e1, r1, z, q2⟩ := q1 v H' ι' g' w' r
    exact ⟨d1, μ1, ι1, w1, r1, q2.don⟩
  | ex x m => rw [hf] at q1; exact q1
  | er => rw [hf] at q1; exact q1
theorem pe_revE {k : Nat} {p1 p2 p3 : Pos} (ha : PE X a (tE (gx X T₀) W fa)) : PE X (.Subscript a (.Slice none none (some (.UnaryOp .USub (.Constant (.int 1) k p1) p2)) p3) pos) (tE (gx X T₀) W (eUn revD fa)) :=
  (pe_revL ha).weak fun σ H Q h => tE_mono (tE_un h) fun x H1 ⟨d, μ, ι, w, r, q⟩ => by
    unfold revD at q
    split at q
    · exact q.elim
    · rename_i d hn
      split at q
      · rename_i xs e
        cases r with
        | tup h1 q1 => exact absurd rfl (hn _)
        | fl h1 q1 => cases e; exact ⟨_, _, rfl, h1.sq, Don.lst w q1.rev q⟩
        | loc e1 =>
          obtain ⟨p, vs, e2, _, l, q1⟩ := w.lst (.loc e1) (lstAt_some e)
          exact ⟨p, vs, e2, SqL.of l, Don.lst w q1.rev q⟩
        | _ => cases e
      · exact q.elim
def negD : D → Mem → O
  | .int i, μ => some (.int (-i), μ)
  | _, _ => none
theorem pe_negE (ha : PE X a (tE (gx X T₀) W fa)) : PE X (.UnaryOp .USub a pos) (tE (gx X T₀) W (eUn negD fa)) :=
  (pe_un un_neg ha).weak fun σ H Q h => tE_mono (tE_un h) fun x H1 ⟨d, μ, ι, w, r, q⟩ => by
    cases r <;> first | exact q.elim | exact ⟨_, rfl, Don.val w (.int _) q⟩
/-! ### methods of built-in types -/
def kindD (μ : Mem) : D → String
  | .str _ => "str"
  | .tup _ => "tuple"
  | .loc n => match lstAt μ n with
    | some _ => "list"
    | none => ""
  | _ => ""
def eMt (T : String) (p : D → List D → Mem → O) (o : E) (as : Es) : E := fun ρ μ => (o ρ μ).bind fun x μ1 => if kindD μ1 x = T then (as ρ μ1).bind fun xs μ2 => (p x xs μ2).r else .er
/-- by a method's rule -/
def rMt (G : Gc) (p : D → List D → Mem → O) : V → List V → Hp → VK → Prop := fun x xs H Q => ∃ d ds μ ι, Wd G ι μ H ∧ RelD G ι H d x ∧ RelDs G ι H ds xs ∧ Don G ι H Q (p d ds μ)
theorem tE_mt {T : String} {p : D → List D → Mem → O} {σ : St} {H : Hp} {Q : VK} (hT : T = "list" ∨ T = "str") (h : tE (gx X T₀) W (eMt T p fo fs) σ H Q) : tBM X.K T (rMt (gx X T₀) p) (tE (gx X T₀) W fo) (tEs (gx X T₀) W fs) σ H Q := by
  obtain ⟨ρ, μ, ι, w, ev, q⟩ := h
  refine ⟨ρ, μ, ι, w, ev, ?_⟩
  have q1 := Pst.bind w ev q
  cases hf : fo ρ μ with
  | ok d m =>
    rw [hf] at q1
    intro v H' ι' g' w' r
    obtain ⟨d1, μ1, ι1, g1, w1, e1, r1, z, q2⟩ := q1 v H' ι' g' w' r
    split at q2
    · rename_i hk
      refine ⟨?_, ρ, μ1, ι1, w1, e1, ?_⟩
      · rcases hT with rfl | rfl
        · cases r1 with
          | loc e2 =>
            unfold kindD at hk
            dsimp only at hk
            split at hk
            · rename_i xs e3
              obtain ⟨p, vs, e4, _, l, q3⟩ := w1.lst (.loc e2) (lstAt_some e3)
              cases e4
              exact .inl ⟨rfl, _, SqL.of l⟩
            · exact absurd hk (by decide)
          | str x => exact absurd (show "str" = "list" from hk) (by decide)
          | tup _ _ => exact absurd (show "tuple" = "list" from hk) (by decide)
          | _ => exact absurd (show "" = "list" from hk) (by decide)
        · cases r1 with
          | str x => rfl
          | loc e2 =>
            unfold kindD at hk
            dsimp only at hk
            split at hk <;> exact absurd hk (by decide)
          | tup _ _ => exact absurd (show "tuple" = "str" from hk) (by decide)
          | _ => exact absurd (show "" = "str" from hk) (by decide)
      · have q3 := PsL.bind w1 e1 q2
        cases hg : fs ρ μ1 with
        | ok d' m' =>
          rw [hg] at q3
          intro v' H'' ι'' g'' w'' r'
          obtain ⟨d2, μ2, ι2, g2, w2, e2, r2, z2, q4⟩ := q3 v' H'' ι'' g'' w'' r'
          exact ⟨d1, d2, μ2, ι2, w2, r1.grow w1 g2, r2, q4.don⟩
        | ex x m' => rw [hg] at q3; exact q3
        | er => rw [hg] at q3; exact q3
    · exact q2.elim
  | ex x m => rw [hf] at q1; exact q1
  | er => rw [hf] at q1; exact q1
/-- list.append, extend, pop -/
def appendD : D → List D → Mem → O
  | .loc n, [y], μ => match lstAt μ n with
    | some xs => if xs.length < 16777216 then some (.non, μ.set n (.lst (xs ++ [y]))) else none
    | none => none
  | _, _, _ => none
theorem append_ok : MtR X "list.append" (rMt (gx X T₀) appendD) := by
  intro pins s σ H x xs v us Q I rx rxs h
  obtain ⟨d, ds, μ, ι, w, rd, rds, h⟩ := h
  have hs : sizeLine = 16777216 := sizeLine_eq
  unfold appendD at h
  split at h
  · obtain ⟨y, rfl, ry⟩ := RelDs.one (ds := []) rds
    split at h
    · rename_i xs e
      split at h
      · rename_i hz
        obtain ⟨p, vs, rfl, i1, l, q⟩ := w.lst rd (lstAt_some e)
        refine mt_append pins s σ H _ _ v us Q I rx rxs ⟨p, vs, y, rfl, rfl, l, by rw [← q.length]; omega, ?_⟩
        exact Don.wr w i1 l (q.append (.cons ry .nil)) .non h
      · exact h.elim
    · exact h.elim
  · exact h.elim
def extendD : D → List D → Mem → O
  | .loc n, [.loc m], μ => match lstAt μ n, lstAt μ m with
    | some xs, some ys => if sumLen xs.length ys.length then some (.non, μ.set n (.lst (xs ++ ys))) else none
    | _, _ => none
  | _, _, _ => none
theorem extend_ok : MtR X "list.extend" (rMt (gx X T₀) extendD) := by
  intro pins s σ H x xs v us Q I rx rxs h
  obtain ⟨d, ds, μ, ι, w, rd, rds, h⟩ := h
  unfold extendD at h
  split at h
  · obtain ⟨y, rfl, ry⟩ := RelDs.one (ds := []) rds
    split at h
    · rename_i xs ys e e2
      split at h
      · rename_i hz
        obtain ⟨p, vs, rfl, i1, l, q⟩ := w.lst rd (lstAt_some e)
        obtain ⟨p2, vs2, rfl, i2, l2, q2⟩ := w.lst ry (lstAt_some e2)
        refine mt_extend pins s σ H _ _ v us Q I rx rxs ⟨p, p2, vs, vs2, rfl, rfl, l, l2, by rw [← q.length, ← q2.length]; exact sumLen_le hz, ?_⟩
        exact Don.wr w i1 l (q.append q2) .non h
      · exact h.elim
    · exact h.elim
  · exact h.elim
/-- list.index of texts -/
def strsD : List D → Option (List Str)
  | [] => some []
  | .str b :: r => (strsD r).map (b :: ·)
  | _ => none
theorem strsD_rel : ∀ {ds : List D} {vs : List V} {bs : List Str}, RelDs G ι H ds vs → strsD ds = some bs → vs = bs.map V.str
  | [], _, _, .nil, h => by cases h; rfl
  | .str b :: r, _, bs, .cons (.str _) rs, h => by
    unfold strsD at h
    cases e : strsD r with
    | none => rw [e] at h; cases h
    | some cs => rw [e] at h; cases h; rw [strsD_rel rs e]; rfl
  | .non :: _, _, _, _, h => by cases h
  | .bl _ :: _, _, _, _, h => by cases h
  | .int _ :: _, _, _, _, h => by cases h
  | .tup _ :: _, _, _, _, h => by cases h
  | .fl _ :: _, _, _, _, h => by cases h
  | .loc _ :: _, _, _, _, h => by cases h
  | .gl _ :: _, _, _, _, h => by cases h
  | .rw _ :: _, _, _, _, h => by cases h
def indexLD : D → List D → Mem → O
  | .loc n, [.str y], μ => match lstAt μ n with
    | some xs => match strsD xs with
      | some ys => match ys.findIdx? (· == y) with
        | some j => some (.int (j : Nat), μ)
        | none => none
      | none => none
    | none => none
  | _, _, _ => none
theorem flatV_strs : ∀ (ys : List Str), (ys.map V.str).all flatV = true
  | [] => rfl
  | _ :: r => by rw [List.map_cons, List.all_cons, flatV_strs r]; rfl
theorem indexL_ok : MtR X "list.index" (rMt (gx X T₀) indexLD) := by
  intro pins s σ H x xs v us Q I rx rxs h
  obtain ⟨d, ds, μ, ι, w, rd, rds, h⟩ := h
  unfold indexLD at h
  split at h
  · rename_i _ _ n y
    obtain ⟨u, rfl, ry⟩ := RelDs.one (ds := []) rds
    cases ry
    split at h
    · rename_i xs e
      split at h
      · rename_i ys e2
        split at h
        · rename_i j e3
          obtain ⟨p, vs, rfl, i1, l, q⟩ := w.lst rd (lstAt_some e)
          have ev := strsD_rel q e2
          subst ev
          obtain ⟨hj, h1, h2⟩ := List.findIdx?_eq_some_iff_getElem.mp e3
          have hz : ys[j]? = some y := by
            rw [List.getElem?_eq_getElem hj]
            exact congrArg some (eq_of_beq h1)
          refine mt_index pins s σ H _ _ v us Q I rx rxs ⟨p, _, .str y, j, .str y, rfl, rfl, SqL.of l, rfl, flatV_strs ys, by rw [List.getElem?_map, hz]; rfl, by show (y == y) = true; exact beq_self_eq_true y, fun m z' hm hz' => ?_, Don.val w (.int _) h⟩
          rw [List.getElem?_map] at hz'
          have hm' : m < ys.length := Nat.lt_trans hm hj
          rw [List.getElem?_eq_getElem hm'] at hz'
          cases hz'
          show (ys[m] == y) = false
          have := h2 m hm
          simpa using this
        · exact h.elim
      · exact h.elim
    · exact h.elim
  · exact h.elim
/-- methods of texts -/
def countD : D → List D → Mem → O
  | .str x, [.str y], μ => some (.int (Txt.count x y), μ)
  | _, _, _ => none
theorem count_ok : MtR X "str.count" (rMt (gx X T₀) countD) := by
  intro pins s σ H x xs v us Q I rx rxs h
  obtain ⟨d, ds, μ, ι, w, rd, rds, h⟩ := h
  unfold countD at h
  split at h
  · obtain ⟨u, rfl, ry⟩ := RelDs.one (ds := []) rds
    cases ry; cases rd
    exact mt_count pins s σ H _ _ v us Q I rx rxs ⟨_, _, rfl, rfl, Don.val w (.int _) h⟩
  · exact h.elim
def splitD : D → List D → Mem → O
  | .str x, [.str y], μ => if y.length ≠ 0 ∧ x.length + 2 ≤ sizeLine then some (.loc μ.length, μ ++ [.lst ((Txt.split x y).map D.str)]) else none
  | _, _, _ => none
theorem split_ok : MtR X "str.split" (rMt (gx X T₀) splitD) := by
  intro pins s σ H x xs v us Q I rx rxs h
  obtain ⟨d, ds, μ, ι, w, rd, rds, h⟩ := h
  unfold splitD at h
  split at h
  · obtain ⟨u, rfl, ry⟩ := RelDs.one (ds := []) rds
    cases ry; cases rd
    split at h
    · rename_i hz
      refine mt_split pins s σ H _ _ v us Q I rx rxs ⟨_, _, rfl, rfl, by simpa using hz.1, hz.2, ?_⟩
      exact Don.lst w (RelDs.ofStrs _) h
    · exact h.elim
  · exact h.elim
def indexSD : D → List D → Mem → O
  | .str x, [.str y], μ => match Txt.index0 x y with
    | some k => some (.int (k : Nat), μ)
    | none => none
  | _, _, _ => none
theorem indexS_ok (hc : X.calm = true) : MtR X "str.index" (rMt (gx X T₀) indexSD) := by
  intro pins s σ H x xs v us Q I rx rxs h
  obtain ⟨d, ds, μ, ι, w, rd, rds, h⟩ := h
  unfold indexSD at h
  split at h
  · obtain ⟨u, rfl, ry⟩ := RelDs.one (ds := []) rds
    cases ry; cases rd
    split at h
    · rename_i k e
      refine mt_indexX hc l2takes0 pins s σ H _ _ v us Q I rx rxs ⟨_, _, rfl, rfl, fun k' e' => ?_, fun e' => ?_⟩
      · rw [e] at e'; cases e'
        exact Don.val w (.int _) h
      · rw [e] at e'; cases e'
    · exact h.elim
  · exact h.elim
theorem pe_mtE {T id : String} {name : Str} {p : D → List D → Mem → O} (hT : T = "list" ∨ T = "str") (pa : PlainAttrs T) (slot : Slot T name id) (hty : typeOf (.builtin id) = pure (.type "method_descriptor")) (hm : MtR X id (rMt (gx X T₀) p)) (ho : PE X o (tE (gx X T₀) W fo)) (ha : PA X (a :: es) (tEs (gx X T₀) W fs))
    (hbase : attributeBase o name X.env (eval o X.env) = eval o X.env) (hfew : ((backTo cpos (starEach (a :: es) X.env)).all (fun x => !x.1) && (backToKw cpos (keywordEach [] X.env)).all (fun x => x.1.isSome)
      && decide ((a :: es).length + ([] : List Keyword).length + (if ([] : List Keyword).isEmpty then 0 else 1) < 30)) = true)
    (hline : (apos.endLine == cpos.line) = true) (hs : starEach (a :: es) X.env = (false, eval a X.env) :: starEach es X.env) (hplain : (backTo cpos (starEach es X.env)).any (·.1) = false) :
    PE X (.Call (.Attribute o name apos) (a :: es) [] cpos) (tE (gx X T₀) W (eMt T p fo fs)) := (pe_bm pa slot hty hm ho ha hbase hfew hline hs hplain).weak fun σ H Q h => tE_mt hT h
end
end Ev

set_option Elab.async false
set_option linter.all false
set_option maxRecDepth 100000
set_option maxHeartbeats 4000000
namespace Ev
open PySem PySem.Spec PyProof.Rows L2
/-! ### calls of defs -/
abbrev Fn := List D → Mem → R D
abbrev Tab := Str → Option Fn
def spD (G : Gc) (c : Fn) (n : Nat) : Sp := fun vs H Q E => ∃ ds μ ι, Wd G ι μ H ∧ RelDs G ι H ds vs ∧ ds.length = n ∧ Pst G ι H E Q (c ds μ)
structure DefOk (P : Program) (w : World) (K : PySem.W.Frag) (mg : Str → Option Value) (base : Heap) (T : TX) (k : Nat) (x : Str) (c : Fn) : Prop where
  ex : ∃ (f : Addr) (fd : FuncData) (ps : List Str), mg x = some (.ref f) ∧ PySem.W.keepIn K (.ref f) = true ∧ L2.Binds K fd ps [] ∧ FnOk P w K mg base (L2N.CX P w) k f fd ps (spD ⟨K, mg, T⟩ c ps.length) ∧ ∀ ds μ, ds.length ≠ ps.length → c ds μ = .er
def CallOk (P : Program) (w : World) (K : PySem.W.Frag) (mg : Str → Option Value) (base : Heap) (T : TX) (k : Nat) (call : Tab) : Prop := ∀ x c, call x = some c → DefOk P w K mg base T k x c
def eCall (c : Fn) (as : Es) : E := fun ρ μ => (as ρ μ).bind fun xs μ1 => c xs μ1
/-- a name of the def holds what is called -/
def eCallV (call : Tab) (i : Nat) (as : Es) : E := fun ρ μ => match ρ[i]? with
  | some (some (.gl x)) => match call x with
    | some c => (as ρ μ).bind fun xs μ1 => c xs μ1
    | none => .er
  | _ => .er
section
variable {X : Cx} {T₀ : TX} {W : WX} {G : Gc} {ι : List Addr} {H : Hp} {μ : Mem} {σ : St} {ρ : Env} {E₀ : XK} {a b o : Expr} {fa fb fc fo : E} {pos apos cpos : Pos} {es : List Expr} {fs : Es} {call : Tab} {c : Fn} {k : Nat}
theorem tEs_call {Q : VK} (w : Wd G ι μ H) (ev : EnvR G ι H ρ σ) (q : Pst G ι H (fun c d H' => W c d σ H') Q ((fs ρ μ).bind fun xs μ1 => c xs μ1)) :
    tEs G W fs σ H fun vs H1 => ∃ d1 μ1 ι1, Wd G ι1 μ1 H1 ∧ RelDs G ι1 H1 d1 vs ∧ Pst G ι1 H1 (fun c d H' => W c d σ H') Q (c d1 μ1) := by
  have q1 := PsL.bind w ev q
  refine ⟨ρ, μ, ι, w, ev, ?_⟩
  cases hf : fs ρ μ with
  | ok d m =>
    rw [hf] at q1
    intro v H' ι' g' w' r
    obtain ⟨d1, μ1, ι1, g1, w1, e1, r1, z, q2⟩ := q1 v H' ι' g' w' r
    exact ⟨d1, μ1, ι1, w1, r1, q2⟩
  | ex x m => rw [hf] at q1; exact q1
  | er => rw [hf] at q1; exact q1
theorem sp_of {n : Nat} {vs : List V} {H1 : Hp} {Q : VK} {E : XK} (ar : ∀ ds μ, ds.length ≠ n → c ds μ = .er) (h : ∃ d1 μ1 ι1, Wd G ι1 μ1 H1 ∧ RelDs G ι1 H1 d1 vs ∧ Pst G ι1 H1 E Q (c d1 μ1)) : spD G c n vs H1 Q E := by
  obtain ⟨d1, μ1, ι1, w1, r1, q2⟩ := h
  refine ⟨d1, μ1, ι1, w1, r1, ?_, q2⟩
  by_cases hl : d1.length = n
  · exact hl
  · rw [ar d1 μ1 hl] at q2
    exact q2.elim
theorem pe_callD {x : Str} {p : Pos} (hd : DefOk X.prog X.w X.K X.mg X.base T₀ k x c) (hr : Room k X.A) (tk : L2N.Takes X W) (hg : Gl X x) (ha : PA X (a :: es) (tEs (gx X T₀) W fs)) (hdb : (x == ("__debug__" : Str)) = false)
    (he : starEach (a :: es) X.env = (false, eval a X.env) :: starEach es X.env) (hpl : (backTo pos (starEach es X.env)).any (·.1) = false) : PE X (.Call (.Name x p) (a :: es) [] pos) (tE (gx X T₀) W (eCall c fs)) := by
  obtain ⟨f, fd, ps, hm, hk, hb, F, ar⟩ := hd.ex
  refine (pe_callS (E := WE W) F hr hg hm hk hb (fun σ => L2N.passAt tk σ) ha hdb he hpl).weak fun σ H Q ⟨ρ, μ, ι, w, ev, q⟩ => ?_
  exact tEs_mono (tEs_call w ev q) fun vs H1 h => sp_of ar h
theorem pe_callVE {i : Nat} {x : Str} {p : Pos} (hd : CallOk X.prog X.w X.K X.mg X.base T₀ k call) (hr : Room k X.A) (tk : L2N.Takes X W) (hN : X.N[i]? = some x) (hv : Vis X.env.scope x) (ha : PA X (a :: es) (tEs (gx X T₀) W fs)) (hdb : (x == ("__debug__" : Str)) = false) (hcd : (x == ("__classdict__" : Str)) = false)
    (he : starEach (a :: es) X.env = (false, eval a X.env) :: starEach es X.env) (hpl : (backTo pos (starEach es X.env)).any (·.1) = false) : PE X (.Call (.Name x p) (a :: es) [] pos) (tE (gx X T₀) W (eCallV call i fs)) := by
  refine ⟨fun pins s σ H Q I ⟨ρ, μ, ι, w, ev, q⟩ => ?_⟩
  unfold eCallV at q
  split at q
  · rename_i y hy
    split at q
    · rename_i c hc
      obtain ⟨v, hs, rv⟩ := ev.2 i _ hy
      cases rv with
      | gl hm =>
        rename_i f0
        obtain ⟨f, fd, ps, hm', hk, hb, F, ar⟩ := (hd y c hc).ex
        have e0 : f = f0 := by
          have := hm'.symm.trans hm
          cases this
          rfl
        subst e0
        refine wpAny_Call_Name_kw (thn ((pe_var (pos := p) hN hv hdb hcd).run pins s σ H (fun v H1 => v = .ref f ∧ H1 = H) I ⟨.ref f, hs, rfl, rfl⟩) fun u s1 ⟨v, H1, I1, r1, q1⟩ => ?_)
        obtain ⟨rfl, rfl⟩ := q1
        cases r1
        refine PySem.W.callWith_K (h₀ := X.base) I.ok.mod.kin hk (thn (ha.run pos pins s1 σ _ _ I1 (tEs_call w ev q)) fun us s2 ⟨vs, H2, I2, r, q3⟩ => ⟨I2.kIn, ?_⟩) he hpl
        exact run_fnS (E := WE W) F hr hb (L2N.passAt tk σ) I2 r (sp_of ar q3)
    · exact q.elim
  · exact q.elim

/-! ### what is walked -/
inductive Src where
  | fix (xs : List D) | lst (n : Nat) | rng (lo : Int) (n : Nat) | enl (n : Nat) | zll (n m : Nat)
def Src.nxt : Src → Nat → Mem → Option (Option D)
  | .fix xs, i, _ => some xs[i]?
  | .lst n, i, μ => (lstAt μ n).map (·[i]?)
  | .rng lo n, i, _ => some (if i < n then some (.int (lo + i)) else none)
  | .enl n, i, μ => (lstAt μ n).map fun xs => (xs[i]?).map fun x => .tup [.int i, x]
  | .zll n m, i, μ => match lstAt μ n, lstAt μ m with
    | some xs, some ys => some (match xs[i]?, ys[i]? with
      | some x, some y => some (.tup [x, y])
      | _, _ => none)
    | _, _ => none
/-- a bound of the turns -/
def Src.bnd : Src → Mem → Nat
  | .fix xs, _ => xs.length
  | .lst n, μ => ((lstAt μ n).getD []).length
  | .rng _ n, _ => n
  | .enl n, μ => ((lstAt μ n).getD []).length
  | .zll n _, μ => ((lstAt μ n).getD []).length
abbrev Iv := Env → Mem → R Src
def SrcOk (G : Gc) (ι : List Addr) (H : Hp) (s : Src) (J : It) : Prop := ∀ ι' H' μ' i, Grow G ι H ι' H' → Wd G ι' μ' H' → match s.nxt i μ' with
  | some (some d) => J.go i H' ∧ ∀ x H'', J.yld i H' x H'' → Grow G ι' H' ι' H'' ∧ Wd G ι' μ' H'' ∧ RelD G ι' H'' d x
  | some none => J.stop i H'
  | none => True
theorem SrcOk.grow {ι1 : List Addr} {H1 : Hp} {s : Src} {J : It} (g : Grow G ι H ι1 H1) (h : SrcOk G ι H s J) : SrcOk G ι1 H1 s J := fun ι' H' μ' i g' w' => h ι' H' μ' i (g.trans g') w'
def PsI (G : Gc) (ι : List Addr) (H : Hp) (E : XK) (Q : It → Hp → Prop) : R Src → Prop
  | .ok s μ' => ∀ J H' ι', Grow G ι H ι' H' → Wd G ι' μ' H' → SrcOk G ι' H' s J → Q J H'
  | .ex x μ' => ∀ H' ι' cls od, Grow G ι H ι' H' → Wd G ι' μ' H' → ExR G x cls od H' → E cls od H'
  | .er => False
def tI (G : Gc) (W : WX) (f : Iv) : TI := fun σ H R => ∃ ρ μ ι, Wd G ι μ H ∧ EnvR G ι H ρ σ ∧ PsI G ι H (fun c d H' => W c d σ H') R (f ρ μ)
theorem _root_.L2.PI.weak {X : Cx} {tg e : Expr} {t t' : TI} (h : PI X tg e t) (i : ∀ σ H Q, t' σ H Q → t σ H Q) : PI X tg e t' := ⟨fun pins s σ H Q I q => h.run pins s σ H Q I (i σ H Q q)⟩
theorem _root_.L2.PI.or {X : Cx} {tg e : Expr} {t t' : TI} (h : PI X tg e t) (h' : PI X tg e t') : PI X tg e (fun σ H Q => t σ H Q ∨ t' σ H Q) := ⟨fun pins s σ H Q I q => q.elim (h.run pins s σ H Q I) (h'.run pins s σ H Q I)⟩
theorem src_list {a : Addr} {n : Nat} (hn : ι[n]? = some a) : SrcOk G ι H (.lst n) (Itl G.K a) := by
  intro ι' H' μ' i g w
  show match (lstAt μ' n).map (·[i]?) with | some (some d) => _ | some none => _ | none => _
  cases e : lstAt μ' n with
  | none => trivial
  | some xs =>
    obtain ⟨a', vs, e1, e2, l, q⟩ := w.lst (.loc (g.get hn)) (lstAt_some e)
    cases e1
    show match some xs[i]? with | some (some d) => _ | some none => _ | none => _
    cases e3 : xs[i]? with
    | none => exact ⟨vs, SqL.of l, by rw [← q.length]; exact List.getElem?_eq_none_iff.mp e3⟩
    | some d =>
      obtain ⟨v, h1, h2⟩ := q.get e3
      refine ⟨⟨vs, v, SqL.of l, h1⟩, fun x H'' hy => ?_⟩
      obtain ⟨rfl, hy⟩ := hy
      have : some x = some v := (hy vs (SqL.of l)).symm.trans h1
      cases this
      exact ⟨.refl, w, h2⟩
theorem src_fixL {a : Addr} {xs : List D} {vs : List V} (w0 : Wd G ι μ H) (h : FzL G.K ι H a vs) (q : RelDs G ι H xs vs) : SrcOk G ι H (.fix xs) (Itl G.K a) := by
  intro ι' H' μ' i g w
  show match some xs[i]? with | some (some d) => _ | some none => _ | none => _
  have h' := (g.fzL h).sq
  have q' := q.grow w0 g
  cases e3 : xs[i]? with
  | none => exact ⟨vs, h', by rw [← q.length]; exact List.getElem?_eq_none_iff.mp e3⟩
  | some d =>
    obtain ⟨v, h1, h2⟩ := q'.get e3
    refine ⟨⟨vs, v, h', h1⟩, fun x H'' hy => ?_⟩
    obtain ⟨rfl, hy⟩ := hy
    have : some x = some v := (hy vs h').symm.trans h1
    cases this
    exact ⟨.refl, w, h2⟩
theorem src_fixT {a : Addr} {xs : List D} {vs : List V} (w0 : Wd G ι μ H) (h : SqT G.K H a vs) (q : RelDs G ι H xs vs) : SrcOk G ι H (.fix xs) (Itt G.K a) := by
  intro ι' H' μ' i g w
  show match some xs[i]? with | some (some d) => _ | some none => _ | none => _
  have h' := w0.sqT g h
  have q' := q.grow w0 g
  cases e3 : xs[i]? with
  | none => exact ⟨vs, h', by rw [← q.length]; exact List.getElem?_eq_none_iff.mp e3⟩
  | some d =>
    obtain ⟨v, h1, h2⟩ := q'.get e3
    refine ⟨⟨vs, v, h', h1⟩, fun x H'' hy => ?_⟩
    obtain ⟨rfl, hy⟩ := hy
    have : some x = some v := (hy vs h').symm.trans h1
    cases this
    exact ⟨.refl, w, h2⟩
/-- a list or a tuple -/
def iSeq (a : E) : Iv := fun ρ μ => (a ρ μ).bind fun x μ1 => match x with
  | .tup xs => .ok (.fix xs) μ1
  | .fl xs => .ok (.fix xs) μ1
  | .loc n => match lstAt μ1 n with
    | some _ => .ok (.lst n) μ1
    | none => .er
  | _ => .er
theorem pi_seqE {tg : Expr} (ha : PE X a (tE (gx X T₀) W fa)) : PI X tg a (tI (gx X T₀) W (iSeq fa)) :=
  ((pi_list ha).or (pi_tup ha)).weak fun σ H Q ⟨ρ, μ, ι, w, ev, q⟩ => by
    unfold iSeq at q
    cases hf : fa ρ μ with
    | er => rw [hf] at q; exact q.elim
    | ex x m =>
      rw [hf] at q
      exact .inl ⟨ρ, μ, ι, w, ev, by rw [hf]; exact q⟩
    | ok d m =>
      rw [hf] at q
      cases d with
      | tup xs =>
        refine .inr ⟨ρ, μ, ι, w, ev, ?_⟩
        rw [hf]
        intro v H' ι' g' w' r
        cases r with
        | tup h1 q1 => exact ⟨_, rfl, ⟨_, h1⟩, q _ H' ι' g' w' (src_fixT w' h1 q1)⟩
      | fl xs =>
        refine .inl ⟨ρ, μ, ι, w, ev, ?_⟩
        rw [hf]
        intro v H' ι' g' w' r
        cases r with
        | fl h1 q1 => exact ⟨_, rfl, ⟨_, h1.sq⟩, q _ H' ι' g' w' (src_fixL w' h1 q1)⟩
      | loc n =>
        refine .inl ⟨ρ, μ, ι, w, ev, ?_⟩
        rw [hf]
        intro v H' ι' g' w' r
        have q : PsI (gx X T₀) ι H (fun c d H' => W c d σ H') Q (match lstAt m n with | some _ => .ok (.lst n) m | none => .er) := q
        split at q
        · rename_i xs e
          obtain ⟨p, vs, e1, e2, l, q1⟩ := w'.lst r (lstAt_some e)
          exact ⟨p, e1, ⟨vs, SqL.of l⟩, q _ H' ι' g' w' (src_list e2)⟩
        · exact q.elim
      | _ => exact q.elim
/-- ranges -/
def iRg1 (as : Es) : Iv := fun ρ μ => (as ρ μ).bind fun xs μ1 => match xs with
  | [.int j] => if j < 1000000 ∧ -1000000 < j then .ok (.rng 0 j.toNat) μ1 else .er
  | _ => .er
def iRg2 (as : Es) : Iv := fun ρ μ => (as ρ μ).bind fun xs μ1 => match xs with
  | [.int i, .int j] => if j < 1000000 ∧ -1000000 < j ∧ i < 1000000 ∧ -1000000 < i then .ok (.rng i (j - i).toNat) μ1 else .er
  | _ => .er
theorem src_rng {lo : Int} {n : Nat} : SrcOk G ι H (.rng lo n) (Itr lo n) := by
  intro ι' H' μ' i g w
  show match some (if i < n then some (D.int (lo + i)) else none) with | some (some d) => _ | some none => _ | none => _
  by_cases hi : i < n
  · rw [if_pos hi]
    exact ⟨hi, fun x H'' ⟨e1, e2⟩ => by subst e1 e2; exact ⟨.refl, w, .int _⟩⟩
  · rw [if_neg hi]
    exact Nat.le_of_not_lt hi
theorem tEs_src {g : List D → Mem → R Src} {σ : St} {H : Hp} {Q : It → Hp → Prop} (h : tI G W (fun ρ μ => (fs ρ μ).bind g) σ H Q) :
    tEs G W fs σ H fun vs H1 => ∃ ds μ ι, Wd G ι μ H1 ∧ RelDs G ι H1 ds vs ∧ PsI G ι H1 (fun c d H' => W c d σ H') Q (g ds μ) := by
  obtain ⟨ρ, μ, ι, w, ev, q⟩ := h
  refine ⟨ρ, μ, ι, w, ev, ?_⟩
  dsimp only at q
  cases hf : fs ρ μ with
  | ok d m =>
    rw [hf] at q
    intro v H' ι' g' w' r
    refine ⟨d, m, ι', w', r, ?_⟩
    have q : PsI G ι H (fun c d H' => W c d σ H') Q (g d m) := q
    cases hg : g d m with
    | ok s m2 => rw [hg] at q; exact fun J H2 ι2 g2 w2 s => q J H2 ι2 (g'.trans g2) w2 s
    | ex x m2 => rw [hg] at q; exact fun H2 ι2 c d g2 w2 s => q H2 ι2 c d (g'.trans g2) w2 s
    | er => rw [hg] at q; exact q
  | ex x m => rw [hf] at q; exact q
  | er => rw [hf] at q; exact q
theorem PsI.here {Q : It → Hp → Prop} {s : Src} {J : It} (w : Wd G ι μ H) (k : SrcOk G ι H s J) (h : PsI G ι H E₀ Q (.ok s μ)) : Q J H := h J H ι .refl w k
theorem pi_rg1E {tg : Expr} {p : Pos} (hg : Gl X "range") (hm : X.mg "range" = none) (ha : PA X [a] (tEs (gx X T₀) W fs)) (hs : starEach [a] X.env = [(false, eval a X.env)]) : PI X tg (.Call (.Name "range" p) [a] [] pos) (tI (gx X T₀) W (iRg1 fs)) :=
  (pi_range1 hg hm ha hs).weak fun σ H Q h => tEs_mono (tEs_src h) fun vs H1 ⟨ds, μ, ι, w, r, q⟩ => by
    split at q
    · rename_i j
      obtain ⟨v, rfl, rv⟩ := RelDs.one (ds := []) r
      cases rv
      split at q
      · rename_i hz
        exact ⟨j, rfl, by omega, by omega, PsI.here w src_rng q⟩
      · exact q.elim
    · exact q.elim
theorem pi_rg2E {tg : Expr} {p : Pos} (hg : Gl X "range") (hm : X.mg "range" = none) (ha : PA X [a, b] (tEs (gx X T₀) W fs)) (hs : starEach [a, b] X.env = [(false, eval a X.env), (false, eval b X.env)]) (hs2 : starEach [b] X.env = [(false, eval b X.env)]) : PI X tg (.Call (.Name "range" p) [a, b] [] pos) (tI (gx X T₀) W (iRg2 fs)) :=
  (pi_range2 hg hm ha hs hs2).weak fun σ H Q h => tEs_mono (tEs_src h) fun vs H1 ⟨ds, μ, ι, w, r, q⟩ => by
    split at q
    · rename_i i j
      obtain ⟨v, u, rfl, rv, ru⟩ := RelDs.two r
      cases rv; cases ru
      split at q
      · rename_i hz
        exact ⟨i, j, rfl, ⟨by omega, by omega, by omega, by omega⟩, PsI.here w src_rng q⟩
      · exact q.elim
    · exact q.elim
/-- enumerate(a list), zip(two lists) -/
def iEn (as : Es) : Iv := fun ρ μ => (as ρ μ).bind fun xs μ1 => match xs with
  | [.loc n] => match lstAt μ1 n with
    | some _ => .ok (.enl n) μ1
    | none => .er
  | _ => .er
theorem yld_tup {d e : D} {v u : V} {T : Addr} (w : Wd G ι μ H) (hT : H T = none) (r : RelD G ι H d v) (q : RelD G ι H e u) : Grow G ι H ι (upd H T (.tup [v, u])) ∧ Wd G ι μ (upd H T (.tup [v, u])) ∧ RelD G ι (upd H T (.tup [v, u])) (.tup [d, e]) (.ref T) :=
  ⟨.obj hT, w.obj hT, .tup (SqT.of upd_same) ((RelDs.cons r (.cons q .nil)).grow w (.obj hT))⟩
theorem src_enl {a : Addr} {n : Nat} (hn : ι[n]? = some a) : SrcOk G ι H (.enl n) (Ite G.K a) := by
  intro ι' H' μ' i g w
  show match (lstAt μ' n).map (fun xs => (xs[i]?).map fun x => D.tup [.int i, x]) with | some (some d) => _ | some none => _ | none => _
  cases e : lstAt μ' n with
  | none => trivial
  | some xs =>
    obtain ⟨a', vs, e1, e2, l, q⟩ := w.lst (.loc (g.get hn)) (lstAt_some e)
    cases e1
    show match some ((xs[i]?).map fun x => D.tup [.int i, x]) with | some (some d) => _ | some none => _ | none => _
    cases e3 : xs[i]? with
    | none => exact ⟨vs, SqL.of l, by rw [← q.length]; exact List.getElem?_eq_none_iff.mp e3⟩
    | some d =>
      obtain ⟨v, h1, h2⟩ := q.get e3
      refine ⟨⟨vs, v, SqL.of l, h1⟩, fun x H'' hy => ?_⟩
      obtain ⟨T, u, rfl, hT, rfl, hy⟩ := hy
      have : some u = some v := (hy vs (SqL.of l)).symm.trans h1
      cases this
      exact yld_tup w hT (.int _) h2
theorem pi_enE {p tpos : Pos} {elts : List Expr} {kk : Nat} (hg : Gl X "enumerate") (hm : X.mg "enumerate" = none) (ha : PA X [a] (tEs (gx X T₀) W fs)) (hs : starEach [a] X.env = [(false, eval a X.env)]) : PI X (.Tuple elts kk tpos) (.Call (.Name "enumerate" p) [a] [] pos) (tI (gx X T₀) W (iEn fs)) :=
  (pi_enum hg hm ha hs).weak fun σ H Q h => tEs_mono (tEs_src h) fun vs H1 ⟨ds, μ, ι, w, r, q⟩ => by
    split at q
    · rename_i n
      obtain ⟨v, rfl, rv⟩ := RelDs.one (ds := []) r
      split at q
      · rename_i xs e
        obtain ⟨p, ws, rfl, e2, l, q1⟩ := w.lst rv (lstAt_some e)
        exact ⟨p, ws, rfl, SqL.of l, PsI.here w (src_enl e2) q⟩
      · exact q.elim
    · exact q.elim
def iZl (as : Es) : Iv := fun ρ μ => (as ρ μ).bind fun xs μ1 => match xs with
  | [.loc n, .loc m] => match lstAt μ1 n, lstAt μ1 m with
    | some _, some _ => .ok (.zll n m) μ1
    | _, _ => .er
  | _ => .er
theorem src_zll {a b : Addr} {n m : Nat} (hn : ι[n]? = some a) (hm : ι[m]? = some b) : SrcOk G ι H (.zll n m) (Itz G.K a b) := by
  intro ι' H' μ' i g w
  unfold Src.nxt
  dsimp only
  cases e : lstAt μ' n with
  | none => simp only []
  | some xs =>
    cases e' : lstAt μ' m with
    | none => simp only []
    | some ys =>
      obtain ⟨a', vs, e1, e2, l, q⟩ := w.lst (.loc (g.get hn)) (lstAt_some e)
      cases e1
      obtain ⟨b', us, e1, e2', l', q'⟩ := w.lst (.loc (g.get hm)) (lstAt_some e')
      cases e1
      simp only []
      cases e3 : xs[i]? with
      | none =>
        simp only []
        exact ⟨vs, us, SqL.of l, SqL.of l', .inl (by rw [← q.length]; exact List.getElem?_eq_none_iff.mp e3)⟩
      | some d =>
        cases e4 : ys[i]? with
        | none =>
          simp only []
          exact ⟨vs, us, SqL.of l, SqL.of l', .inr (by rw [← q'.length]; exact List.getElem?_eq_none_iff.mp e4)⟩
        | some d' =>
          simp only []
          obtain ⟨v, h1, h2⟩ := q.get e3
          obtain ⟨v', h1', h2'⟩ := q'.get e4
          refine ⟨⟨vs, us, v, v', SqL.of l, SqL.of l', h1, h1'⟩, fun x H'' hy => ?_⟩
          obtain ⟨T, u, u', rfl, hT, rfl, hy, hy'⟩ := hy
          have : some u = some v := (hy vs (SqL.of l)).symm.trans h1
          cases this
          have : some u' = some v' := (hy' us (SqL.of l')).symm.trans h1'
          cases this
          exact yld_tup w hT h2 h2'
theorem pi_zlE {p tpos : Pos} {elts : List Expr} {kk : Nat} (hg : Gl X "zip") (hm : X.mg "zip" = none) (ha : PA X [a, b] (tEs (gx X T₀) W fs)) (hs : starEach [a, b] X.env = (false, eval a X.env) :: starEach [b] X.env) (hpl : (backTo pos (starEach [b] X.env)).any (·.1) = false) : PI X (.Tuple elts kk tpos) (.Call (.Name "zip" p) [a, b] [] pos) (tI (gx X T₀) W (iZl fs)) :=
  (pi_zip hg hm ha hs hpl).weak fun σ H Q h => tEs_mono (tEs_src h) fun vs H1 ⟨ds, μ, ι, w, r, q⟩ => by
    split at q
    · rename_i n m
      obtain ⟨v, u, rfl, rv, ru⟩ := RelDs.two r
      split at q
      · rename_i xs ys e e'
        obtain ⟨p, ws, rfl, e2, l, q1⟩ := w.lst rv (lstAt_some e)
        obtain ⟨p', ws', rfl, e2', l', q1'⟩ := w.lst ru (lstAt_some e')
        exact ⟨p, p', ws, ws', rfl, SqL.of l, SqL.of l', PsI.here w (src_zll e2 e2') q⟩
      · exact q.elim
    · exact q.elim

/-! ### targets -/
inductive Tg where
  | nm (i : Nat) | tp (ts : List Tg)
mutual
def Tg.set (μ : Mem) : Tg → D → Env → Option Env
  | .nm i, d, ρ => if i < ρ.length then some (ρ.set i (some d)) else none
  | .tp ts, .tup ds, ρ => Tg.sets μ ts ds ρ
  | .tp ts, .fl ds, ρ => Tg.sets μ ts ds ρ
  | .tp ts, .loc n, ρ => match lstAt μ n with
    | some ds => Tg.sets μ ts ds ρ
    | none => none
  | .tp _, _, _ => none
def Tg.sets (μ : Mem) : List Tg → List D → Env → Option Env
  | [], [], ρ => some ρ
  | t :: ts, d :: ds, ρ => match Tg.set μ t d ρ with
    | some ρ' => Tg.sets μ ts ds ρ'
    | none => none
  | _, _, _ => none
end
mutual
def Tg.slots : Tg → List Nat
  | .nm i => [i]
  | .tp ts => Tg.slotss ts
def Tg.slotss : List Tg → List Nat
  | [] => []
  | t :: ts => t.slots ++ Tg.slotss ts
end
mutual
def gT (K : PySem.W.Frag) : Tg → TG
  | .nm i => gName i
  | .tp ts => fun v σ H Q => gTup K ts.length (gTs K ts) v σ H Q ∨ gLst K ts.length (gTs K ts) v σ H Q
def gTs (K : PySem.W.Frag) : List Tg → TGs
  | [] => gNil
  | t :: ts => gCons (gT K t) (gTs K ts)
end
theorem Tg.sets_len {μ : Mem} : ∀ {ts : List Tg} {ds : List D} {ρ ρ' : Env}, Tg.sets μ ts ds ρ = some ρ' → ts.length = ds.length
  | [], [], _, _, _ => rfl
  | t :: ts, d :: ds, ρ, ρ', h => by
    unfold Tg.sets at h
    split at h
    · have := Tg.sets_len h
      simp [this]
    · cases h
  | [], _ :: _, _, _, h => by cases h
  | _ :: _, [], _, _, h => by cases h
def Out (is : List Nat) (σ σ' : St) : Prop := σ'.length = σ.length ∧ ∀ j, j ∉ is → σ'[j]? = σ[j]?
mutual
theorem gT_ok (w : Wd G ι μ H) {Q : St → Hp → Prop} : ∀ {t : Tg} {d : D} {v : V} {ρ ρ' : Env} {σ : St}, RelD G ι H d v → EnvR G ι H ρ σ → Tg.set μ t d ρ = some ρ' → (∀ σ', EnvR G ι H ρ' σ' → Out t.slots σ σ' → Q σ' H) → gT G.K t v σ H Q
  | .nm i, d, v, ρ, ρ', σ, r, ev, h, k => by
    unfold Tg.set at h
    split at h
    · cases h
      refine k _ (ev.set r i) ⟨List.length_set .., fun j hj => ?_⟩
      have : i ≠ j := fun e => hj (by unfold Tg.slots; rw [e]; exact List.mem_singleton.mpr rfl)
      exact List.getElem?_set_ne this
    · cases h
  | .tp ts, d, v, ρ, ρ', σ, r, ev, h, k => by
    cases r with
    | tup h1 q =>
      unfold Tg.set at h
      exact .inl ⟨_, _, rfl, h1, by rw [← q.length, ← Tg.sets_len h], gTs_ok w q ev h fun σ' e o => k σ' e o⟩
    | fl h1 q =>
      unfold Tg.set at h
      exact .inr ⟨_, _, rfl, h1.sq, by rw [← q.length, ← Tg.sets_len h], gTs_ok w q ev h fun σ' e o => k σ' e o⟩
    | loc hn =>
      unfold Tg.set at h
      split at h
      · rename_i ds e
        obtain ⟨a, vs, e1, e2, l, q⟩ := w.lst (.loc hn) (lstAt_some e)
        cases e1
        exact .inr ⟨_, _, rfl, SqL.of l, by rw [← q.length, ← Tg.sets_len h], gTs_ok w q ev h fun σ' e o => k σ' e o⟩
      · cases h
    | _ => cases h
theorem gTs_ok (w : Wd G ι μ H) {Q : St → Hp → Prop} : ∀ {t : List Tg} {d : List D} {v : List V} {ρ ρ' : Env} {σ : St}, RelDs G ι H d v → EnvR G ι H ρ σ → Tg.sets μ t d ρ = some ρ' → (∀ σ', EnvR G ι H ρ' σ' → Out (Tg.slotss t) σ σ' → Q σ' H) → gTs G.K t v σ H Q
  | [], _, _, ρ, ρ', σ, .nil, ev, h, k => by
    cases h
    exact ⟨rfl, k σ ev ⟨rfl, fun _ _ => rfl⟩⟩
  | t :: ts, _, _, ρ, ρ', σ, .cons r rs, ev, h, k => by
    unfold Tg.sets at h
    split at h
    · rename_i ρ1 e
      refine ⟨_, _, rfl, gT_ok w r ev e fun σ1 ev1 o1 => gTs_ok w rs ev1 h fun σ2 ev2 o2 => k σ2 ev2 ⟨o2.1.trans o1.1, fun j hj => ?_⟩⟩
      unfold Tg.slotss at hj
      rw [List.mem_append, not_or] at hj
      exact (o2.2 j hj.2).trans (o1.2 j hj.1)
    · cases h
  | [], _, _, _, _, _, .cons _ _, _, h, _ => by cases h
  | _ :: _, _, _, _, _, _, .nil, _, h, _ => by cases h
end
end
end Ev

set_option Elab.async false
set_option linter.all false
set_option maxRecDepth 100000
set_option maxHeartbeats 4000000
namespace Ev
open PySem PySem.Spec PyProof.Rows L2
def wipeE (ρ : Env) : List Nat → Env
  | [] => ρ
  | v :: vs => (wipeE ρ vs).set v none
def noEx {α β : Type} : R α → (α → Mem → R β) → R β
  | .ok a m, f => f a m
  | _, _ => .er
/-- the turns of a comprehension; its list stands at n -/
def lcGo (src : Src) (tg : Tg) (ifs : T) (elt : E) (ρ : Env) (n : Nat) : Nat → Nat → Mem → R D
  | 0, i, μ => match src.nxt i μ with
    | some none => .ok (.loc n) μ
    | _ => .er
  | k + 1, i, μ => match src.nxt i μ with
    | some none => .ok (.loc n) μ
    | some (some d) => match tg.set μ d ρ with
      | some ρ1 => noEx (ifs ρ1 μ) fun b μ2 => if b = true then noEx (elt ρ1 μ2) fun y μ3 => (match lstAt μ3 n with
          | some xs => if xs.length < 16777216 then lcGo src tg ifs elt ρ n k (i + 1) (μ3.set n (.lst (xs ++ [y]))) else .er
          | none => .er)
        else lcGo src tg ifs elt ρ n k (i + 1) μ2
      | none => .er
    | none => .er
def eLc (it : Iv) (tg : Tg) (ifs : T) (elt : E) (own : List Nat) : E := fun ρ μ => (it ρ μ).bind fun src μ1 => if tg.slots.all (fun i => own.contains i) then lcGo src tg ifs elt (wipeE ρ own) μ1.length (src.bnd μ1) 0 (μ1 ++ [.lst []]) else .er
def tYesT : T := fun _ μ => .ok true μ
section
variable {X : Cx} {T₀ : TX} {W : WX} {G : Gc} {ι : List Addr} {H : Hp} {μ : Mem} {σ : St} {ρ : Env} {E₀ : XK}
theorem EnvR.wipe (e : EnvR G ι H ρ σ) : ∀ vs, EnvR G ι H (wipeE ρ vs) (L2.wipe σ vs)
  | [] => e
  | v :: vs => by
    have ih := EnvR.wipe e vs
    refine ⟨by show ((wipeE ρ vs).set v none).length = ((L2.wipe σ vs).set v none).length; rw [List.length_set, List.length_set]; exact ih.1, fun i d h => ?_⟩
    have h : ((wipeE ρ vs).set v none)[i]? = some (some d) := h
    show ∃ u, ((L2.wipe σ vs).set v none)[i]? = some (some u) ∧ _
    by_cases hj : v = i
    · subst hj
      exfalso
      by_cases hl : v < (wipeE ρ vs).length
      · rw [List.getElem?_set_self hl] at h; cases h
      · rw [List.getElem?_eq_none (by rw [List.length_set]; omega)] at h; cases h
    · rw [List.getElem?_set_ne hj] at h ⊢
      exact ih.2 i d h
theorem wipe_len (σ : St) (vs : List Nat) : (L2.wipe σ vs).length = σ.length := wipe_length σ vs
theorem wipe_get {σ : St} {i : Nat} : ∀ {vs : List Nat}, i ∈ vs → i < σ.length → (L2.wipe σ vs)[i]? = some none
  | v :: vs, h, hl => by
    show ((L2.wipe σ vs).set v none)[i]? = some none
    by_cases hv : v = i
    · subst hv
      exact List.getElem?_set_self (by rw [wipe_len]; exact hl)
    · rw [List.getElem?_set_ne hv]
      exact wipe_get ((List.mem_cons.mp h).resolve_left (Ne.symm hv)) hl
theorem wipe_same {σ σ' : St} {vs is : List Nat} (o : Out is (L2.wipe σ vs) σ') (h : ∀ i ∈ is, i ∈ vs) : L2.wipe σ' vs = L2.wipe σ vs := by
  apply List.ext_getElem?
  intro i
  by_cases hm : i ∈ vs
  · by_cases hl : i < σ.length
    · rw [wipe_get hm hl, wipe_get hm (by rw [o.1, wipe_len]; exact hl)]
    · rw [List.getElem?_eq_none (by rw [wipe_len, o.1, wipe_len]; omega), List.getElem?_eq_none (by rw [wipe_len]; omega)]
  · rw [wipe_out hm, o.2 i (fun z => hm (h i z))]
theorem tTyes : tT G W tYesT σ H = fun Q => ∃ ρ μ ι, Wd G ι μ H ∧ EnvR G ι H ρ σ ∧ PsB G ι H (fun c d H' => W c d σ H') Q (.ok true μ) := rfl
theorem pts_nilE : PTs X [] (tT (gx X T₀) W tYesT) := ⟨fun pins s σ H Q I ⟨ρ, μ, ι, w, ev, q⟩ => pts_nil.run pins s σ H Q I (PsB.here w q)⟩
/-- the reading of a comprehension -/
theorem tE_lc {it : Iv} {tg : Tg} {ifs : T} {elt : E} {own : List Nat} {σ : St} {H : Hp} {Q : VK} (h : tE G W (eLc it tg ifs elt own) σ H Q) :
    tLc (tI G W it) (gT G.K tg) (tT G (fun _ _ _ _ => False) ifs) (tE G (fun _ _ _ _ => False) elt) own σ H Q := by
  obtain ⟨ρ, μ, ι, w, ev, q⟩ := h
  refine ⟨ρ, μ, ι, w, ev, ?_⟩
  unfold eLc at q
  cases hf : it ρ μ with
  | ex x m => rw [hf] at q; exact q
  | er => rw [hf] at q; exact q
  | ok src μ1 =>
    rw [hf] at q
    have q : Pst G ι H (fun c d H' => W c d σ H') Q (if tg.slots.all (fun i => own.contains i) then lcGo src tg ifs elt (wipeE ρ own) μ1.length (src.bnd μ1) 0 (μ1 ++ [.lst []]) else .er) := q
    split at q
    · rename_i hown
      have hown : ∀ i ∈ tg.slots, i ∈ own := fun i hi => by
        have := List.all_eq_true.mp hown i hi
        simpa using this
      intro J H1 ι1 g1 w1 sk D hD
      have ev1 := ev.grow w g1
      have hn : (ι1 ++ [D])[μ1.length]? = some D := by rw [← w1.len]; simp
      refine ⟨fun i m H' => ∃ μ' ι', Wd G ι' μ' H' ∧ Grow G (ι1 ++ [D]) (upd H1 D (.lst [])) ι' H' ∧ Pst G ι' H' (fun c d H' => W c d σ H') Q (lcGo src tg ifs elt (wipeE ρ own) μ1.length m i μ'), ⟨src.bnd μ1, _, _, w1.more (m := .lst []) hD rfl ⟨[], upd_same, .nil⟩, .refl, Pst.grow (g1.trans (.more hD)) q⟩, ?_⟩
      rintro i m H' ⟨μ', ι', w', g', q'⟩
      have g0 : Grow G ι1 H1 ι' H' := (Grow.more hD).trans g'
      have evw := (ev1.grow w1 g0).wipe own
      have sk' := sk ι' H' μ' i g0 w'
      cases m with
      | zero =>
        unfold lcGo at q'
        split at q'
        · rename_i e
          rw [e] at sk'
          exact .inl ⟨sk', Pst.here w' (.loc (g'.get hn)) q'⟩
        · exact q'.elim
      | succ k =>
        unfold lcGo at q'
        split at q'
        · rename_i e
          rw [e] at sk'
          exact .inl ⟨sk', Pst.here w' (.loc (g'.get hn)) q'⟩
        · rename_i d e
          rw [e] at sk'
          obtain ⟨go, yl⟩ := sk'
          split at q'
          · rename_i ρ1 e1
            refine .inr ⟨go, fun H2 => ∃ μ2 ι2, Wd G ι2 μ2 H2 ∧ Grow G (ι1 ++ [D]) (upd H1 D (.lst [])) ι2 H2 ∧ Pst G ι2 H2 (fun c d H' => W c d σ H') Q (lcGo src tg ifs elt (wipeE ρ own) μ1.length k (i + 1) μ2), fun H2 hN => ⟨k, Nat.lt_succ_self k, hN⟩, fun x H2 hy => ?_⟩
            obtain ⟨g2, w2, r2⟩ := yl x H2 hy
            refine gT_ok w2 r2 (evw.grow w' g2) e1 fun σ2 ev2 o2 => ⟨wipe_same o2 hown, ρ1, μ', ι', w2, ev2, ?_⟩
            cases hi : ifs ρ1 μ' with
            | ex x m => rw [hi] at q'; exact q'.elim
            | er => rw [hi] at q'; exact q'.elim
            | ok b μ3 =>
              rw [hi] at q'
              intro H3 ι3 g3 w3
              have gg := (g'.trans g2).trans g3
              cases b with
              | false =>
                rw [if_neg Bool.false_ne_true]
                exact ⟨μ3, ι3, w3, gg, Pst.grow (g2.trans g3) q'⟩
              | true =>
                rw [if_pos rfl]
                refine ⟨ρ1, μ3, ι3, w3, ev2.grow w2 g3, ?_⟩
                have q' : Pst G ι' H' (fun c d H' => W c d σ H') Q (noEx (elt ρ1 μ3) fun y μ3 => (match lstAt μ3 μ1.length with
                  | some xs => if xs.length < 16777216 then lcGo src tg ifs elt (wipeE ρ own) μ1.length k (i + 1) (μ3.set μ1.length (.lst (xs ++ [y]))) else .er
                  | none => .er)) := q'
                cases he : elt ρ1 μ3 with
                | ex x m => rw [he] at q'; exact q'.elim
                | er => rw [he] at q'; exact q'.elim
                | ok y μ4 =>
                  rw [he] at q'
                  intro v H4 ι4 g4 w4 rv
                  have q' : Pst G ι' H' (fun c d H' => W c d σ H') Q (match lstAt μ4 μ1.length with
                    | some xs => if xs.length < 16777216 then lcGo src tg ifs elt (wipeE ρ own) μ1.length k (i + 1) (μ4.set μ1.length (.lst (xs ++ [y]))) else .er
                    | none => .er) := q'
                  split at q'
                  · rename_i xs e2
                    split at q'
                    · rename_i hz
                      have hs : sizeLine = 16777216 := sizeLine_eq
                      have hn4 : ι4[μ1.length]? = some D := (gg.trans g4).get hn
                      obtain ⟨a, vs, e3, e4, l, rr⟩ := w4.lst (.loc hn4) (lstAt_some e2)
                      cases e3
                      refine ⟨vs, l, by rw [← rr.length]; omega, _, ι4, w4.write (m := .lst (xs ++ [y])) hn4 rfl (lst_ne_code l) ⟨_, upd_same, (rr.append (.cons rv .nil)).grow w4 (.write hn4)⟩, (gg.trans g4).trans (.write hn4), Pst.grow ((g2.trans g3).trans (g4.trans (.write hn4))) q'⟩
                    · exact q'.elim
                  · exact q'.elim
          · exact q'.elim
        · exact q'.elim
    · exact q.elim
theorem pe_lcE {elt tg iter : Expr} {ifs : List Expr} {scope : Scope} {own : List (Str × Nat)} {pos : Pos} {fi : Iv} {t : Tg} {fc : T} {fe : E} (hc : X.calm = true) (hN : X.N.Nodup) (hi : PI X tg iter (tI (gx X T₀) W fi)) (ok : BlkOk X.N X.env.scope scope own)
    (hg : ∀ (s : Shared) (H : Hp) (C : Addr) (cl : List (Str × Addr)) (fp : List Addr), PG (X.blk s H scope (compEnvC scope cl C X.env) fp) tg (gT X.K t)) (ht : ∀ (s : Shared) (H : Hp) (C : Addr) (cl : List (Str × Addr)) (fp : List Addr), PTs (X.blk s H scope (compEnvC scope cl C X.env) fp) ifs (tT (gx X T₀) (fun _ _ _ _ => False) fc))
    (he : ∀ (s : Shared) (H : Hp) (C : Addr) (cl : List (Str × Addr)) (fp : List Addr), PE (X.blk s H scope (compEnvC scope cl C X.env) fp) elt (tE (gx X T₀) (fun _ _ _ _ => False) fe)) (hs : ∀ x, foldedSetIterable iter X.env x = pure x) :
    PE X (.ListComp elt [⟨tg, iter, ifs, 0⟩] scope pos) (tE (gx X T₀) W (eLc fi t fc fe (own.map (·.2)))) := (pe_lc hc hN hi ok hg ht he hs).weak fun σ H Q h => tE_lc h
end
end Ev

set_option Elab.async false
set_option linter.all false
set_option maxRecDepth 100000
set_option maxHeartbeats 4000000
namespace Ev
open PySem PySem.Spec PyProof.Rows L2
def sNx : S := fun ρ μ => .nx ρ μ
def sSeq (a b : S) : S := fun ρ μ => match a ρ μ with
  | .nx ρ' μ' => b ρ' μ'
  | r => r
def sSet (t : Tg) (e : E) : S := fun ρ μ => (e ρ μ).st ρ fun d μ1 => match t.set μ1 d ρ with
  | some ρ' => .nx ρ' μ1
  | none => .er
/-- o[i] = v -/
def putD : D → D → D → Mem → Option Mem
  | .loc n, .int k, v, μ => match lstAt μ n with
    | some xs => match ixN xs.length k with
      | some j => some (μ.set n (.lst (xs.set j v)))
      | none => none
    | none => none
  | _, _, _, _ => none
def sSub (o i e : E) : S := fun ρ μ => (e ρ μ).st ρ fun v μ1 => (o ρ μ1).st ρ fun x μ2 => (i ρ μ2).st ρ fun y μ3 => match putD x y v μ3 with
  | some μ4 => .nx ρ μ4
  | none => .er
def sExpr (e : E) : S := fun ρ μ => (e ρ μ).st ρ fun _ μ1 => .nx ρ μ1
def sRet (e : E) : S := fun ρ μ => (e ρ μ).st ρ fun d μ1 => .rt d μ1
def sRetN : S := fun _ μ => .rt .non μ
def sIf (t : T) (a b : S) : S := fun ρ μ => (t ρ μ).st ρ fun c μ1 => if c = true then a ρ μ1 else b ρ μ1
def sBk : S := fun ρ μ => .bk ρ μ
def sCt : S := fun ρ μ => .ct ρ μ
/-- raise X('..') -/
def sRaise (x : Str) : S := fun ρ μ => .ex { c := x } ρ μ
def whGo (t : T) (b : S) : Nat → Env → Mem → RS
  | 0, _, _ => .er
  | k + 1, ρ, μ => (t ρ μ).st ρ fun c μ1 => if c = true then (match b ρ μ1 with
      | .nx ρ' μ' => whGo t b k ρ' μ'
      | .ct ρ' μ' => whGo t b k ρ' μ'
      | .bk ρ' μ' => .nx ρ' μ'
      | r => r) else .nx ρ μ1
def sWhile (n : Nat) (t : T) (b : S) : S := fun ρ μ => whGo t b n ρ μ
def foGo (src : Src) (tg : Tg) (b : S) : Nat → Nat → Env → Mem → RS
  | 0, i, ρ, μ => match src.nxt i μ with
    | some none => .nx ρ μ
    | _ => .er
  | k + 1, i, ρ, μ => match src.nxt i μ with
    | some none => .nx ρ μ
    | some (some d) => match tg.set μ d ρ with
      | some ρ1 => (match b ρ1 μ with
        | .nx ρ' μ' => foGo src tg b k (i + 1) ρ' μ'
        | .ct ρ' μ' => foGo src tg b k (i + 1) ρ' μ'
        | .bk ρ' μ' => .nx ρ' μ'
        | r => r)
      | none => .er
    | none => .er
def sFor (it : Iv) (tg : Tg) (b : S) : S := fun ρ μ => (it ρ μ).st ρ fun src μ1 => foGo src tg b (src.bnd μ1) 0 ρ μ1
section
variable {X : Cx} {T₀ : TX} {W : WX} {G : Gc} {ι : List Addr} {H : Hp} {μ : Mem} {σ : St} {ρ : Env} {D₀ : Ends}
/-- an expression within a statement -/
theorem Pst.st {f : R D} {g : D → Mem → RS} (w : Wd G ι μ H) (e : EnvR G ι H ρ σ) (h : PsS G ι H W D₀ (f.st ρ g)) :
    Pst G ι H (fun c d H' => W c d σ H') (fun x H1 => ∃ d μ1 ι1, Grow G ι H ι1 H1 ∧ Wd G ι1 μ1 H1 ∧ EnvR G ι1 H1 ρ σ ∧ RelD G ι1 H1 d x ∧ PsS G ι1 H1 W D₀ (g d μ1)) f := by
  cases f with
  | ok d m => exact fun v H' ι' g' w' r => ⟨d, m, ι', g', w', e.grow w g', r, PsS.grow g' h⟩
  | ex x m => exact fun H' ι' cls od g' w' r => h σ H' ι' cls od g' w' (e.grow w g') r
  | er => exact h
theorem PsB.st {f : R Bool} {g : Bool → Mem → RS} (w : Wd G ι μ H) (e : EnvR G ι H ρ σ) (h : PsS G ι H W D₀ (f.st ρ g)) :
    PsB G ι H (fun c d H' => W c d σ H') (fun c H1 => ∃ μ1 ι1, Grow G ι H ι1 H1 ∧ Wd G ι1 μ1 H1 ∧ EnvR G ι1 H1 ρ σ ∧ PsS G ι1 H1 W D₀ (g c μ1)) f := by
  cases f with
  | ok d m => exact fun H' ι' g' w' => ⟨m, ι', g', w', e.grow w g', PsS.grow g' h⟩
  | ex x m => exact fun H' ι' cls od g' w' r => h σ H' ι' cls od g' w' (e.grow w g') r
  | er => exact h
theorem PsI.st {f : R Src} {g : Src → Mem → RS} (w : Wd G ι μ H) (e : EnvR G ι H ρ σ) (h : PsS G ι H W D₀ (f.st ρ g)) :
    PsI G ι H (fun c d H' => W c d σ H') (fun J H1 => ∃ s μ1 ι1, Grow G ι H ι1 H1 ∧ Wd G ι1 μ1 H1 ∧ EnvR G ι1 H1 ρ σ ∧ SrcOk G ι1 H1 s J ∧ PsS G ι1 H1 W D₀ (g s μ1)) f := by
  cases f with
  | ok s m => exact fun J H' ι' g' w' k => ⟨s, m, ι', g', w', e.grow w g', k, PsS.grow g' h⟩
  | ex x m => exact fun H' ι' cls od g' w' r => h σ H' ι' cls od g' w' (e.grow w g') r
  | er => exact h
theorem tE_of {f : E} {Q : VK} (w : Wd G ι μ H) (e : EnvR G ι H ρ σ) (h : Pst G ι H (fun c d H' => W c d σ H') Q (f ρ μ)) : tE G W f σ H Q := ⟨ρ, μ, ι, w, e, h⟩
variable {a b c o e : Expr} {fa fb fc fo fe : E} {pos : Pos} {st : Stmt} {sts : List Stmt} {s u : S}
theorem pss_nilE : PSs X [] (tS (gx X T₀) W sNx) := pss_nil.weak fun D σ H ⟨ρ, μ, ι, w, ev, q⟩ => q σ H ι .refl w ev
theorem tS_seq {D : Ends} {σ : St} {H : Hp} (h : tS G W (sSeq s u) D σ H) : tSeq (tS G W s) (tS G W u) D σ H := by
  obtain ⟨ρ, μ, ι, w, ev, q⟩ := h
  refine ⟨ρ, μ, ι, w, ev, ?_⟩
  unfold sSeq at q
  cases hs : s ρ μ with
  | nx ρ' μ' =>
    rw [hs] at q
    exact fun σ' H' ι' g' w' ev' => ⟨ρ', μ', ι', w', ev', PsS.grow g' q⟩
  | _ => rw [hs] at q; exact q
theorem pss_consE (h1 : PS X st (tS (gx X T₀) W s)) (h2 : PSs X sts (tS (gx X T₀) W u)) : PSs X (st :: sts) (tS (gx X T₀) W (sSeq s u)) := (pss_cons h1 h2).weak fun D σ H h => tS_seq h
theorem tS_set {t : Tg} {D : Ends} {σ : St} {H : Hp} (h : tS G W (sSet t fe) D σ H) : tAsg (tE G W fe) (gT G.K t) D σ H := by
  obtain ⟨ρ, μ, ι, w, ev, q⟩ := h
  refine ⟨ρ, μ, ι, w, ev, ?_⟩
  have q1 := Pst.st w ev q
  cases hf : fe ρ μ with
  | ok d m =>
    rw [hf] at q1
    intro v H' ι' g' w' r
    obtain ⟨d1, μ1, ι1, g1, w1, e1, r1, q2⟩ := q1 v H' ι' g' w' r
    split at q2
    · rename_i ρ' e2
      exact gT_ok w1 r1 e1 e2 fun σ' ev' _ => q2 σ' _ ι1 .refl w1 ev'
    · exact q2.elim
  | ex x m => rw [hf] at q1; exact q1
  | er => rw [hf] at q1; exact q1
theorem ps_setE {tg : Expr} {t : Tg} (he : PE X e (tE (gx X T₀) W fe)) (hg : PG X tg (gT X.K t)) (hs : swapsWithSole [tg] e pos.line X.env = pure false) (hw : swappedStores [tg] e X.env = pure none) (h1 : (assignEach [tg] X.env).map (·.2) = [assign tg X.env]) :
    PS X (.Assign [tg] e pos) (tS (gx X T₀) W (sSet t fe)) := (ps_asg he hg hs hw h1).weak fun D σ H h => tS_set h
theorem ps_lcE {i : Nat} {y : Str} {py : Pos} {elt tg iter : Expr} {ifs : List Expr} {scope : Scope} {own : List (Str × Nat)} {pos spos : Pos} {fi : Iv} {t : Tg} {fc : T} {fe : E} (hc : X.calm = true) (hN : X.N.Nodup) (hy : X.N[i]? = some y) (hyl : X.env.scope.names.lookup y = some .local)
    (hsw : swapsWith (.ListComp elt [⟨tg, iter, ifs, 0⟩] scope pos) (some (.Name y py)) spos.line X.env = pure true) (hi : PI X tg iter (tI (gx X T₀) W fi)) (ok : BlkOk X.N X.env.scope scope own)
    (hg : ∀ (s : Shared) (H : Hp) (C : Addr) (cl : List (Str × Addr)) (fp : List Addr), PG (X.blk s H scope (compEnvC scope cl C X.env) fp) tg (gT X.K t)) (ht : ∀ (s : Shared) (H : Hp) (C : Addr) (cl : List (Str × Addr)) (fp : List Addr), PTs (X.blk s H scope (compEnvC scope cl C X.env) fp) ifs (tT (gx X T₀) (fun _ _ _ _ => False) fc))
    (he : ∀ (s : Shared) (H : Hp) (C : Addr) (cl : List (Str × Addr)) (fp : List Addr), PE (X.blk s H scope (compEnvC scope cl C X.env) fp) elt (tE (gx X T₀) (fun _ _ _ _ => False) fe)) (hs : ∀ x, foldedSetIterable iter X.env x = pure x) :
    PS X (.Assign [.Name y py] (.ListComp elt [⟨tg, iter, ifs, 0⟩] scope pos) spos) (tS (gx X T₀) W (sSet (.nm i) (eLc fi t fc fe (own.map (·.2))))) := (ps_setLc hc hN hy hyl hsw hi ok hg ht he hs).weak fun D σ H h => by
  have h := tS_set h
  obtain ⟨ρ, μ, ι, w, ev, q⟩ := h
  exact tE_lc ⟨ρ, μ, ι, w, ev, q⟩
theorem put_ok : PSet X (fun o i v H Q => ∃ d e f μ ι, Wd (gx X T₀) ι μ H ∧ RelD (gx X T₀) ι H d o ∧ RelD (gx X T₀) ι H e i ∧ RelD (gx X T₀) ι H f v ∧ ∃ μ', putD d e f μ = some μ' ∧ ∀ H' ι', Grow (gx X T₀) ι H ι' H' → Wd (gx X T₀) ι' μ' H' → Q H') := by
  intro pins s σ H o i v ov iv u Q I ro ri rv h
  obtain ⟨d, e, f, μ, ι, w, rd, re, rf, μ', h, q⟩ := h
  unfold putD at h
  split at h
  · cases re
    split at h
    · rename_i xs e1
      split at h
      · rename_i j e2
        cases h
        obtain ⟨p, vs, rfl, i1, l, qq⟩ := w.lst rd (lstAt_some e1)
        refine set_list pins s σ H _ _ _ ov iv u Q I ro ri rv ⟨p, vs, _, j, rfl, rfl, l, by rw [← qq.length]; exact e2, ?_⟩
        exact q _ ι (.write i1) (w.write (m := .lst _) i1 rfl (lst_ne_code l) ⟨_, upd_same, (qq.set rf j).grow w (.write i1)⟩)
      · cases h
    · cases h
  · cases h
theorem ps_subE {i : Expr} {fi : E} {tp : Pos} (ho : PE X o (tE (gx X T₀) W fo)) (hi : PE X i (tE (gx X T₀) W fi)) (he : PE X e (tE (gx X T₀) W fe)) (hs : swapsWithSole [.Subscript o i tp] e pos.line X.env = pure false) (hw : swappedStores [.Subscript o i tp] e X.env = pure none)
    (ha : ∀ v, assign (.Subscript o i tp) X.env v = (do
      let ov ← holding [v] (eval o X.env)
      let iv ← holding [v, ov] (eval i X.env)
      standAt tp
      holding [v, ov, iv] (setItem ov iv v)
      release [v, ov, iv] [])) (h1 : (assignEach [.Subscript o i tp] X.env).map (·.2) = [assign (.Subscript o i tp) X.env]) :
    PS X (.Assign [.Subscript o i tp] e pos) (tS (gx X T₀) W (sSub fo fi fe)) := (ps_asg he (pg_sub ho hi (put_ok (T₀ := T₀)) ha) hs hw h1).weak fun D σ H ⟨ρ, μ, ι, w, ev, q⟩ => by
  refine ⟨ρ, μ, ι, w, ev, ?_⟩
  have q1 := Pst.st w ev q
  cases hf : fe ρ μ with
  | ex x m => rw [hf] at q1; exact q1
  | er => rw [hf] at q1; exact q1
  | ok d m =>
    rw [hf] at q1
    intro v H' ι' g' w' r
    obtain ⟨d1, μ1, ι1, g1, w1, e1, r1, q2⟩ := q1 v H' ι' g' w' r
    refine ⟨ρ, μ1, ι1, w1, e1, ?_⟩
    have q3 := Pst.st w1 e1 q2
    cases hg : fo ρ μ1 with
    | ex x m => rw [hg] at q3; exact q3
    | er => rw [hg] at q3; exact q3
    | ok d' m' =>
      rw [hg] at q3
      intro v' H'' ι'' g'' w'' r'
      obtain ⟨d2, μ2, ι2, g2, w2, e2, r2, q4⟩ := q3 v' H'' ι'' g'' w'' r'
      refine ⟨ρ, μ2, ι2, w2, e2, ?_⟩
      have q5 := Pst.st w2 e2 q4
      cases hh : fi ρ μ2 with
      | ex x m => rw [hh] at q5; exact q5
      | er => rw [hh] at q5; exact q5
      | ok d3 m3 =>
        rw [hh] at q5
        intro v3 H3 ι3 g3 w3 r3
        obtain ⟨d4, μ4, ι4, g4, w4, e4, r4, q6⟩ := q5 v3 H3 ι3 g3 w3 r3
        split at q6
        · rename_i μ5 e5
          exact ⟨d2, d4, d1, μ4, ι4, w4, r2.grow w2 g4, r4, r1.grow w1 (g2.trans g4), μ5, e5, fun H5 ι5 g5 w5 => q6 σ H5 ι5 g5 w5 (e4.grow w4 g5)⟩
        · exact q6.elim
theorem ps_exprE (he : PE X e (tE (gx X T₀) W fe)) (hs : swapsWith e none pos.line X.env = pure false) : PS X (.Expr e pos) (tS (gx X T₀) W (sExpr fe)) := (ps_expr he hs).weak fun D σ H ⟨ρ, μ, ι, w, ev, q⟩ => by
  refine tE_mono (tE_of w ev (Pst.st w ev q)) fun x H1 ⟨d1, μ1, ι1, g1, w1, e1, r1, q2⟩ => q2 σ H1 ι1 .refl w1 e1
theorem ps_retE (he : PE X e (tE (gx X T₀) W fe)) : PS X (.Return (some e) pos) (tS (gx X T₀) W (sRet fe)) := (ps_ret he).weak fun D σ H ⟨ρ, μ, ι, w, ev, q⟩ => by
  refine tE_mono (tE_of w ev (Pst.st w ev q)) fun x H1 ⟨d1, μ1, ι1, g1, w1, e1, r1, q2⟩ => q2 x H1 ι1 .refl w1 r1
theorem ps_retNE : PS X (.Return none pos) (tS (gx X T₀) W sRetN) := ps_retN.weak fun D σ H ⟨ρ, μ, ι, w, ev, q⟩ => q .non H ι .refl w .non
theorem ps_passE : PS X (.Pass pos) (tS (gx X T₀) W sNx) := ps_pass.weak fun D σ H ⟨ρ, μ, ι, w, ev, q⟩ => q σ H ι .refl w ev
theorem ps_bkE : PS X (.Break pos) (tS (gx X T₀) W sBk) := ps_break.weak fun D σ H ⟨ρ, μ, ι, w, ev, q⟩ => q σ H ι .refl w ev
theorem ps_ctE : PS X (.Continue pos) (tS (gx X T₀) W sCt) := ps_continue.weak fun D σ H ⟨ρ, μ, ι, w, ev, q⟩ => q σ H ι .refl w ev
theorem ps_ifE {t : T} {xs ys : List Stmt} (hc : PT X c (tT (gx X T₀) W t)) (ha : PSs X xs (tS (gx X T₀) W s)) (hb : PSs X ys (tS (gx X T₀) W u)) : PS X (.If c xs ys pos) (tS (gx X T₀) W (sIf t s u)) := (ps_if hc ha hb).weak fun D σ H ⟨ρ, μ, ι, w, ev, q⟩ => by
  refine ⟨ρ, μ, ι, w, ev, ?_⟩
  have q1 := PsB.st w ev q
  cases hf : t ρ μ with
  | ex x m => rw [hf] at q1; exact q1
  | er => rw [hf] at q1; exact q1
  | ok d m =>
    rw [hf] at q1
    intro H' ι' g' w'
    obtain ⟨μ1, ι1, g1, w1, e1, q2⟩ := q1 H' ι' g' w'
    cases d with
    | true => rw [if_pos rfl] at q2 ⊢; exact ⟨ρ, μ1, ι1, w1, e1, q2⟩
    | false => rw [if_neg Bool.false_ne_true] at q2 ⊢; exact ⟨ρ, μ1, ι1, w1, e1, q2⟩
theorem ps_whileE {t : T} {xs : List Stmt} {n : Nat} (hp : PassesOwn (model X.prog X.w) X.A X.env X.xe) (hc : PT X c (tT (gx X T₀) W t)) (hb : PSs X xs (tS (gx X T₀) W s)) : PS X (.While c xs [] pos) (tS (gx X T₀) W (sWhile n t s)) := (ps_while hp hc hb).weak fun D σ H ⟨ρ, μ, ι, w, ev, q⟩ => by
  refine ⟨fun m σ' H' => ∃ ρ' μ' ι', Wd (gx X T₀) ι' μ' H' ∧ EnvR (gx X T₀) ι' H' ρ' σ' ∧ PsS (gx X T₀) ι' H' W D (whGo t s m ρ' μ'), ⟨n, ρ, μ, ι, w, ev, q⟩, ?_⟩
  rintro m σ' H' ⟨ρ', μ', ι', w', ev', q'⟩
  cases m with
  | zero => exact q'.elim
  | succ k =>
    refine ⟨ρ', μ', ι', w', ev', ?_⟩
    unfold whGo at q'
    have q1 := PsB.st w' ev' q'
    cases hf : t ρ' μ' with
    | ex x m => rw [hf] at q1; exact q1
    | er => rw [hf] at q1; exact q1
    | ok d m =>
      rw [hf] at q1
      intro H2 ι2 g2 w2
      obtain ⟨μ1, ι1, g1, w1, e1, q2⟩ := q1 H2 ι2 g2 w2
      cases d with
      | false => rw [if_neg Bool.false_ne_true] at q2 ⊢; exact q2 σ' H2 ι1 .refl w1 e1
      | true =>
        rw [if_pos rfl] at q2 ⊢
        refine ⟨fun σ3 H3 => ∃ ρ' μ' ι', Wd (gx X T₀) ι' μ' H3 ∧ EnvR (gx X T₀) ι' H3 ρ' σ3 ∧ PsS (gx X T₀) ι' H3 W D (whGo t s k ρ' μ'), fun σ3 H3 h3 => ⟨k, Nat.lt_succ_self k, h3⟩, ρ', μ1, ι1, w1, e1, ?_⟩
        cases hb : s ρ' μ1 with
        | nx ρ4 μ4 => rw [hb] at q2; exact fun σ4 H4 ι4 g4 w4 e4 => ⟨ρ4, μ4, ι4, w4, e4, PsS.grow g4 q2⟩
        | ct ρ4 μ4 => rw [hb] at q2; exact fun σ4 H4 ι4 g4 w4 e4 => ⟨ρ4, μ4, ι4, w4, e4, PsS.grow g4 q2⟩
        | bk ρ4 μ4 => rw [hb] at q2; exact q2
        | rt d μ4 => rw [hb] at q2; exact q2
        | ex x ρ4 μ4 => rw [hb] at q2; exact q2
        | er => rw [hb] at q2; exact q2
theorem ps_forE {tg iter : Expr} {fi : Iv} {t : Tg} {xs : List Stmt} (hp : PassesOwn (model X.prog X.w) X.A X.env X.xe) (hc : X.calm = true) (hi : PI X tg iter (tI (gx X T₀) W fi)) (hg : PG X tg (gT X.K t)) (hb : PSs X xs (tS (gx X T₀) W s)) (hs : ∀ x, foldedSetIterable iter X.env x = pure x) :
    PS X (.For tg iter xs [] pos) (tS (gx X T₀) W (sFor fi t s)) := (ps_for hp hc hi hg hb hs).weak fun D σ H ⟨ρ, μ, ι, w, ev, q⟩ => by
  refine ⟨ρ, μ, ι, w, ev, ?_⟩
  have q1 := PsI.st w ev q
  cases hf : fi ρ μ with
  | ex x m => rw [hf] at q1; exact q1
  | er => rw [hf] at q1; exact q1
  | ok src m =>
    rw [hf] at q1
    intro J H1 ι1 g1 w1 sk1
    have q2 : PsS (gx X T₀) ι H W D (foGo src t s (src.bnd m) 0 ρ m) := by
      unfold sFor at q
      rw [hf] at q
      exact q
    refine ⟨fun i m' σ' H' => ∃ ρ' μ' ι', Grow (gx X T₀) ι1 H1 ι' H' ∧ Wd (gx X T₀) ι' μ' H' ∧ EnvR (gx X T₀) ι' H' ρ' σ' ∧ PsS (gx X T₀) ι' H' W D (foGo src t s m' i ρ' μ'), ⟨src.bnd m, ρ, m, ι1, .refl, w1, ev.grow w g1, PsS.grow g1 q2⟩, ?_⟩
    rintro i m' σ' H' ⟨ρ', μ', ι', g', w', ev', q'⟩
    have sk' := sk1 ι' H' μ' i g' w'
    cases m' with
    | zero =>
      unfold foGo at q'
      split at q'
      · rename_i e
        rw [e] at sk'
        exact .inl ⟨sk', q' σ' H' ι' .refl w' ev'⟩
      · exact q'.elim
    | succ k =>
      unfold foGo at q'
      split at q'
      · rename_i e
        rw [e] at sk'
        exact .inl ⟨sk', q' σ' H' ι' .refl w' ev'⟩
      · rename_i d e
        rw [e] at sk'
        obtain ⟨go, yl⟩ := sk'
        split at q'
        · rename_i ρ1 e1
          refine .inr ⟨go, fun σ2 H2 => ∃ ρ' μ' ι', Grow (gx X T₀) ι1 H1 ι' H2 ∧ Wd (gx X T₀) ι' μ' H2 ∧ EnvR (gx X T₀) ι' H2 ρ' σ2 ∧ PsS (gx X T₀) ι' H2 W D (foGo src t s k (i + 1) ρ' μ'), fun σ2 H2 h2 => ⟨k, Nat.lt_succ_self k, h2⟩, fun x H2 hy => ?_⟩
          obtain ⟨g2, w2, r2⟩ := yl x H2 hy
          refine gT_ok w2 r2 (ev'.grow w' g2) e1 fun σ2 ev2 _ => ⟨ρ1, μ', ι', w2, ev2, ?_⟩
          have q' := PsS.grow g2 q'
          cases hb : s ρ1 μ' with
          | nx ρ4 μ4 => rw [hb] at q'; exact fun σ4 H4 ι4 g4 w4 e4 => ⟨ρ4, μ4, ι4, (g'.trans g2).trans g4, w4, e4, PsS.grow g4 q'⟩
          | ct ρ4 μ4 => rw [hb] at q'; exact fun σ4 H4 ι4 g4 w4 e4 => ⟨ρ4, μ4, ι4, (g'.trans g2).trans g4, w4, e4, PsS.grow g4 q'⟩
          | bk ρ4 μ4 => rw [hb] at q'; exact q'
          | rt d μ4 => rw [hb] at q'; exact q'
          | ex x ρ4 μ4 => rw [hb] at q'; exact q'
          | er => rw [hb] at q'; exact q'
        · exact q'.elim
      · exact q'.elim
/-- an exception class of the text, without own __init__ -/
structure ExcOk (K : PySem.W.Frag) (mg : Str → Option Value) (x : Str) : Prop where
  ex : ∃ C, mg x = some (.ref C) ∧ PySem.W.excIn K C [.type "ValueError", .type "Exception", .type "BaseException", .type "object"] "ValueError.__new__" = true ∧ PySem.W.keepIn K (.ref C) = true ∧ PySem.W.subIn K (.ref C) (.type "BaseException") = some true ∧ PySem.W.typeIn K (.ref C) = some (.type "type")
theorem ps_raiseE {x m : Str} {j : Nat} {p p2 pos' : Pos} (hc : X.calm = true) (tk : L2N.Takes X W) (h : ExcOk X.K X.mg x) (hg : Gl X x) (hdb : (x == ("__debug__" : Str)) = false) : PS X (.Raise (some (.Call (.Name x p) [.Constant (.str m) j p2] [] pos)) none pos') (tS (gx X T₀) W (sRaise x)) := by
  obtain ⟨C, gC, q, kC, b, t⟩ := h.ex
  exact (L2N.ps_raise hc tk (L2N.pmk_own PySem.F.excBase_ValueError q gC kC (raises_own b t) hg hdb)).weak fun D σ H ⟨ρ, μ, ι, w, ev, q⟩ => q σ H ι (.ref C) none .refl w ev ⟨gC, rfl, rfl⟩
end
end Ev

set_option Elab.async false
set_option linter.all false
set_option maxRecDepth 100000
set_option maxHeartbeats 4000000
namespace Ev
open PySem PySem.Spec PyProof.Rows L2
/-! ### isinstance of built-in classes; f-strings -/
def tyOfD (μ : Mem) : D → Option String
  | .non => some "NoneType" | .bl _ => some "bool" | .int _ => some "int" | .str _ => some "str" | .tup _ => some "tuple" | .fl _ => some "list"
  | .loc n => match lstAt μ n with
    | some _ => some "list"
    | none => none
  | .gl _ => none
  | .rw _ => none
def isaB (a b : String) : Bool := a == b || (a == "bool" && b == "int")
def isiD (ts : List String) : D → Mem → O := fun d μ => (tyOfD μ d).map fun t => (.bl (ts.any (isaB t)), μ)
/-- texts of an f-string's parts -/
def fmtD : D → Option Str
  | .str y => some y
  | .int i => if i.natAbs.log2 < 1920 then some (toString i) else none
  | _ => none
def eFmt (a : E) : E := eUn (fun d μ => match fmtD d with
  | some y => if y.length ≤ sizeLine then some (.str y, μ) else none
  | none => none) a
def joinGo : List E → Str → Env → Mem → R Str
  | [], acc, _, μ => .ok acc μ
  | a :: as, acc, ρ, μ => (a ρ μ).bind fun x μ1 => match x with
    | .str y => if (acc ++ y).length ≤ sizeLine then joinGo as (acc ++ y) ρ μ1 else .er
    | _ => .er
def eJoin (as : List E) : E := fun ρ μ => (joinGo as Str.empty ρ μ).bind fun y μ1 => .ok (.str y) μ1
/-! ### the evaluator -/
structure Cfg where
  N : List Str
  sc : Scope
  /-- the names that may be stored -/
  st : List (Str × NameKind)
  call : Tab
  gv : Str → Option D
  bn : Str → Bool
  exc : Str → Bool
  law : Option Str
  fuel : Nat
def slot : List Str → Str → Option Nat
  | [], _ => none
  | y :: r, x => if y = x then some 0 else (slot r x).map (· + 1)
def eEr : E := fun _ _ => .er
def sEr : S := fun _ _ => .er
def tEr : T := fun _ _ => .er
def badName (x : Str) : Bool := x == ("__debug__" : Str) || x == ("__classdict__" : Str) || x == ("__name__" : Str)
def visK : Option NameKind → Bool
  | some .local => true | some .cell => true | some .free => true
  | _ => false
def locK : Option NameKind → Bool
  | some .local => true | some .cell => true
  | _ => false
/-- a name's slot -/
def Cfg.loc (c : Cfg) (x : Str) : Option Nat := if visK (c.sc.names.lookup x) && !badName x then slot c.N x else none
def Cfg.glb (c : Cfg) (x : Str) : Bool := decide (c.sc.names.lookup x = some .globalImplicit) && !badName x
/-- where a name is stored -/
def Cfg.sto (c : Cfg) (x : Str) : Option Nat := if locK (c.st.lookup x) then slot c.N x else none
structure Rec where
  e : Cfg → Expr → E
  t : Cfg → Expr → T
  s : Cfg → Stmt → S
def isStar : Expr → Bool
  | .Starred _ _ => true
  | _ => false
def isSetE : Expr → Bool
  | .Set _ _ _ => true
  | _ => false
def isSlice : Expr → Bool
  | .Slice _ _ _ _ => true
  | _ => false
def isComp : Expr → Bool
  | .ListComp _ _ _ _ => true | .SetComp _ _ _ _ => true | .DictComp _ _ _ _ _ => true
  | _ => false
def isCall0 : Expr → Bool
  | .Call _ [] [] _ => true
  | _ => false
def evEs (r : Rec) (c : Cfg) : List Expr → Es
  | [] => esNil
  | e :: es => if isStar e then fun _ _ => .er else esCons (r.e c e) (evEs r c es)
def evL (r : Rec) (c : Cfg) : List Expr → List E
  | [] => []
  | e :: es => r.e c e :: evL r c es
def evO (r : Rec) (c : Cfg) : Option Expr → OE
  | none => oNo
  | some e => oSo (r.e c e)
def constE : Const → E
  | .none => eK .non | .bool b => eK (.bl b) | .int i => eK (.int i) | .str x => eK (.str x)
  | _ => eEr
mutual
def tgOf (c : Cfg) : Expr → Option Tg
  | .Name x _ => (c.sto x).map .nm
  | .Tuple es _ _ => (tgsOf c es).map .tp
  | _ => none
def tgsOf (c : Cfg) : List Expr → Option (List Tg)
  | [] => some []
  | e :: es => if isStar e then none else match tgOf c e, tgsOf c es with
    | some t, some ts => some (t :: ts)
    | _, _ => none
end
/-- what a for walks -/
def evI (r : Rec) (c : Cfg) (tg : Expr) : Expr → Iv
  | .Call (.Name x p) [a] [] pos => if isStar a || isSetE a then fun _ _ => .er
      else if x = ("range" : Str) ∧ c.glb x ∧ c.bn x then iRg1 (evEs r c [a])
      else if x = ("enumerate" : Str) ∧ c.glb x ∧ c.bn x then (match tg with
        | .Tuple _ _ _ => iEn (evEs r c [a])
        | _ => fun _ _ => .er)
      else iSeq (r.e c (.Call (.Name x p) [a] [] pos))
  | .Call (.Name x p) [a, b] [] pos => if isStar a || isStar b then fun _ _ => .er
      else if x = ("range" : Str) ∧ c.glb x ∧ c.bn x then iRg2 (evEs r c [a, b])
      else if x = ("zip" : Str) ∧ c.glb x ∧ c.bn x then (match tg with
        | .Tuple _ _ _ => iZl (evEs r c [a, b])
        | _ => fun _ _ => .er)
      else iSeq (r.e c (.Call (.Name x p) [a, b] [] pos))
  | e => if isSetE e then fun _ _ => .er else iSeq (r.e c e)
def bfTab : List (Str × String) := [("len", "len"), ("abs", "abs"), ("max", "max"), ("min", "min"), ("all", "all"), ("any", "any"), ("sum", "sum")]
def btTab : List (Str × String) := [("int", "int"), ("bool", "bool"), ("str", "str"), ("list", "list"), ("tuple", "tuple")]
/-- the classes of isinstance -/
def clsOf (c : Cfg) : Expr → Option (List String)
  | .Name x _ => if c.glb x && c.bn x then (btTab.lookup x).map fun t => [t] else none
  | .Tuple [.Name x _, .Name y _] _ _ => if c.glb x && c.bn x && c.glb y && c.bn y then (match btTab.lookup x, btTab.lookup y with
    | some t, some u => some [t, u]
    | _, _ => none) else none
  | _ => none
/-- what is told of an error -/
def lawCls : List Str := ["InvalidComing", "InvalidMachine", "InvalidName", "InvalidNumber", "InvalidRow", "InvalidRule", "NoText", "NothingToUndo"]
def lawEx (x : Exc) : Option D := if x.d.isNone && lawCls.contains x.c then some (.tup [.str (x.c ++ " +")]) else none
def eLaw (f : E) : E := fun ρ μ => match f ρ μ with
  | .ok d μ' => .ok (.tup [.str "told", d]) μ'
  | .ex x μ' => match lawEx x with
    | some d => .ok d μ'
    | none => .er
  | .er => .er
def evCall (r : Rec) (c : Cfg) (x : Str) (a : Expr) (es : List Expr) : E :=
  if isStar a || badName x || es.any isStar then eEr
  else if visK (c.sc.names.lookup x) then (match slot c.N x with
    | some i => eCallV c.call i (evEs r c (a :: es))
    | none => eEr)
  else if c.glb x then
    if c.bn x then
      if x = ("isinstance" : Str) then (match es with
        | [k] => (match clsOf c k with
          | some ts => eUn (isiD ts) (r.e c a)
          | none => eEr)
        | _ => eEr)
      else match bfTab.lookup x with
        | some n => (match biD n with
          | some p => eApp p (evEs r c (a :: es))
          | none => eEr)
        | none => match btTab.lookup x with
          | some n => (match tyD n with
            | some p => eApp p (evEs r c (a :: es))
            | none => eEr)
          | none => eEr
    else if c.law = some x then (match a, es with
      | .Lambda params body scope _, [] => if LamX.lamSB c.sc scope && params.posonlyargs.isEmpty && params.args.isEmpty && params.vararg.isNone && params.kwonlyargs.isEmpty && params.kw_defaults.isEmpty && params.kwarg.isNone && params.defaults.isEmpty then eLaw (r.e { c with sc := scope, st := [], law := none } body) else eEr
      | _, _ => eEr)
    else match c.call x with
      | some f => eCall f (evEs r c (a :: es))
      | none => eEr
  else eEr
def evMeth (r : Rec) (c : Cfg) (o : Expr) (m : Str) (a : Expr) (es : List Expr) : E :=
  if isStar a || es.any isStar || isCall0 o || decide (20 < es.length) then eEr
  else if m = ("append" : Str) then eMt "list" appendD (r.e c o) (evEs r c (a :: es))
  else if m = ("extend" : Str) then eMt "list" extendD (r.e c o) (evEs r c (a :: es))
  else if m = ("count" : Str) then eMt "str" countD (r.e c o) (evEs r c (a :: es))
  else if m = ("split" : Str) then eMt "str" splitD (r.e c o) (evEs r c (a :: es))
  else if m = ("index" : Str) then fun ρ μ => match r.e c o ρ μ with
    | .ok (.str _) _ => eMt "str" indexSD (r.e c o) (evEs r c (a :: es)) ρ μ
    | _ => eMt "list" indexLD (r.e c o) (evEs r c (a :: es)) ρ μ
  else eEr
/-- a comprehension's own names -/
def ownOf (N : List Str) (names : List (Str × NameKind)) : List (Str × Nat) := names.filterMap fun y => if locK (some y.2) then (slot N y.1).map fun i => (y.1, i) else none
def evLc (r : Rec) (c : Cfg) (elt tg iter : Expr) (ifs : List Expr) (scope : Scope) : E :=
  let own := ownOf c.N scope.names
  let c' : Cfg := { c with sc := relS scope c.sc, st := scope.names, law := none }
  if blkC c.N c.sc scope own && !isSetE iter then match tgOf c' tg with
    | some t => (match ifs with
      | [] => eLc (evI r c tg iter) t tYesT (r.e c' elt) (own.map (·.2))
      | [k] => eLc (evI r c tg iter) t (r.t c' k) (r.e c' elt) (own.map (·.2))
      | _ => eEr)
    | none => eEr
  else eEr
def stepE (r : Rec) (c : Cfg) : Expr → E
  | .Constant k _ _ => constE k
  | .Name x _ => match c.loc x with
    | some i => eVar i
    | none => if c.glb x then (match c.gv x with
      | some d => eK d
      | none => eEr) else eEr
  | .BoolOp _ [a] _ => r.e c a
  | .BoolOp .And (a :: b :: rest) pos => eAn (r.e c a) (r.e c (.BoolOp .And (b :: rest) pos))
  | .BoolOp .Or (a :: b :: rest) pos => eOr (r.e c a) (r.e c (.BoolOp .Or (b :: rest) pos))
  | .BinOp a op b _ => eBin (binD op) (r.e c a) (r.e c b)
  | .UnaryOp .Not a _ => eNo (r.e c a)
  | .UnaryOp .USub a _ => eUn negD (r.e c a)
  | .IfExp t a b _ => eIf (r.t c t) (r.e c a) (r.e c b)
  | .Compare a [op] [b] _ => if isSetE b then eEr else eBin (cmpD op) (r.e c a) (r.e c b)
  | .Compare a [op, op'] [b, d] _ => if isSetE d then eEr else eChain (cmpD op) (cmpD op') (r.e c a) (r.e c b) (r.e c d)
  | .Tuple es _ _ => eApp tupP (evEs r c es)
  | .List es _ => eApp lstP (evEs r c es)
  | .Subscript a (.Slice none none (some (.UnaryOp .USub (.Constant (.int 1) _ _) _)) _) _ => eUn revD (r.e c a)
  | .Subscript a (.Slice lo hi none _) _ => eSl (r.e c a) (evO r c lo) (evO r c hi)
  | .Subscript a b _ => if isSlice b then eEr else eBin ixD (r.e c a) (r.e c b)
  | .ListComp elt [⟨tg, iter, ifs, 0⟩] scope _ => evLc r c elt tg iter ifs scope
  | .FormattedValue a (-1) none _ => eFmt (r.e c a)
  | .JoinedStr (a :: b :: rest) _ => eJoin (evL r c (a :: b :: rest))
  | .JoinedStr [a] _ => r.e c a
  | .Call (.Name x _) (a :: es) [] _ => evCall r c x a es
  | .Call (.Attribute o m apos) (a :: es) [] cpos => if apos.endLine == cpos.line then evMeth r c o m a es else eEr
  | _ => eEr
def stepT (r : Rec) (c : Cfg) : Expr → T
  | .UnaryOp .Not a _ => tNo (r.t c a)
  | .BoolOp _ [a] _ => r.t c a
  | .BoolOp .And (a :: b :: rest) pos => tAn (r.t c a) (r.t c (.BoolOp .And (b :: rest) pos))
  | .BoolOp .Or (a :: b :: rest) pos => tOr' (r.t c a) (r.t c (.BoolOp .Or (b :: rest) pos))
  | .BoolOp _ _ _ => tEr
  | .IfExp _ _ _ _ => tEr
  | .Compare a [op] [b] _ => if isSetE b then tEr else tBl (eBin (cmpD op) (r.e c a) (r.e c b))
  | .Compare a [op, op'] [b, d] _ => if isSetE d then tEr else tBl (eChain (cmpD op) (cmpD op') (r.e c a) (r.e c b) (r.e c d))
  | .Compare _ _ _ _ => tEr
  | e => tTru (r.e c e)
def evSs (r : Rec) (c : Cfg) : List Stmt → S
  | [] => sNx
  | s :: ss => sSeq (r.s c s) (evSs r c ss)
def isDisp : Expr → Bool
  | .Tuple _ _ _ => true | .List _ _ => true
  | _ => false
/-- whether a tuple's stores are exchanged -/
def swB (names : List (Str × NameKind)) (ts vs : List Expr) : Option (Option (List Str)) :=
  if (!(ts.length == 2 || ts.length == 3) || vs.length != ts.length) = true then some none
  else if (vs.any fun | .Starred .. => true | _ => false) = true then some none
  else
    let line := (ts.head?.map (·.pos.line)).getD 0
    let ns := ts.filterMap fun
      | .Name id pos => if (names.lookup id == some .local && pos.line == line) = true then some id else none
      | _ => none
    if (ns.length != ts.length || ns.eraseDups.length != ns.length) = true then some none
    else if vs.all (foldedForSure 8) = true then some none
    else if vs.all (constantsAlone 8) = true then none
    else some (some ns)
def swOk (c : Cfg) (ts : List Expr) : Expr → Bool
  | .Tuple vs _ _ => match swB c.sc.names ts vs with
    | some none => true
    | some (some ns) => (match ts, vs with
      | [.Name x _, .Name y _], [_, _] => decide (ns = [x, y] ∧ x ≠ y) && decide (c.sc.names.lookup x = some .local) && decide (c.sc.names.lookup y = some .local)
      | [.Name x _, .Name y _, .Name z _], [_, _, _] => decide (ns = [x, y, z] ∧ x ≠ y ∧ x ≠ z ∧ y ≠ z) && decide (c.sc.names.lookup x = some .local) && decide (c.sc.names.lookup y = some .local) && decide (c.sc.names.lookup z = some .local)
      | _, _ => false)
    | none => false
  | _ => true
def stepS (r : Rec) (c : Cfg) : Stmt → S
  | .Pass _ => sNx
  | .Break _ => sBk
  | .Continue _ => sCt
  | .Return none _ => sRetN
  | .Return (some e) _ => sRet (r.e c e)
  | .Expr e _ => if isComp e then sEr else sExpr (r.e c e)
  | .If t xs ys _ => sIf (r.t c t) (evSs r c xs) (evSs r c ys)
  | .While t xs [] _ => sWhile c.fuel (r.t c t) (evSs r c xs)
  | .For tg it xs [] _ => if isSetE it then sEr else (match tgOf c tg with
    | some t => sFor (evI r c tg it) t (evSs r c xs)
    | none => sEr)
  | .Raise (some (.Call (.Name x _) [.Constant (.str _) _ _] [] _)) none _ => if c.exc x && c.glb x then sRaise x else sEr
  | .Assign [.Name x p] e pos => (match tgOf c (.Name x p) with
    | some t => sSet t (r.e c e)
    | none => sEr)
  | .Assign [.Tuple ts k p] e pos => if swOk c ts e then (match tgOf c (.Tuple ts k p) with
    | some t => sSet t (r.e c e)
    | none => sEr) else sEr
  | .Assign [.Subscript o i _] e _ => if isSlice i then sEr else sSub (r.e c o) (r.e c i) (r.e c e)
  | _ => sEr
def recN : Nat → Rec
  | 0 => ⟨fun _ _ => eEr, fun _ _ => tEr, fun _ _ => sEr⟩
  | n + 1 => ⟨stepE (recN n), stepT (recN n), stepS (recN n)⟩
end Ev

set_option Elab.async false
set_option linter.all false
set_option maxRecDepth 100000
set_option maxHeartbeats 4000000
namespace Ev
open PySem PySem.Spec PyProof.Rows L2
/-- the rule of the law's own call -/
def LawOk (X : Cx) (T : TX) (W : WX) (k : Nat) (x : Str) : Prop :=
  ∀ (params : Arguments) (body : Expr) (scope : Scope) (f : E) (p lpos pos : Pos), LamX.lamSB X.env.scope scope = true → params.posonlyargs = [] → params.args = [] → params.vararg = none → params.kwonlyargs = [] → params.kw_defaults = [] → params.kwarg = none → params.defaults = [] → Gl X x →
    (∀ (Y : Cx) (V : WX), Y.prog = X.prog → Y.w = X.w → Y.K = X.K → Y.mg = X.mg → Y.base = X.base → Y.N = X.N → Y.env.scope = scope → Y.calm = true → Room k Y.A → L2N.Takes Y V → PassesOwn (model Y.prog Y.w) Y.A Y.env Y.xe → PE Y body (tE (gx Y T) V f)) →
    PE X (.Call (.Name x p) [.Lambda params body scope lpos] [] pos) (tE (gx X T) W (eLaw f))
structure XOk (X : Cx) (T : TX) (W : WX) (c : Cfg) (k : Nat) : Prop where
  N : X.N = c.N
  nd : X.N.Nodup
  sc : X.env.scope = c.sc
  fk : X.env.scope.kind = .function
  calm : X.calm = true
  room : Room k X.A
  tk : L2N.Takes X W
  pass : PassesOwn (model X.prog X.w) X.A X.env X.xe
  st : ∀ x, locK (c.st.lookup x) = true → Loc X.env.scope x ∧ (X.fn x = true ∨ X.env.scope.names.lookup x = some .local)
  call : CallOk X.prog X.w X.K X.mg X.base T k c.call
  gv : ∀ x d, c.gv x = some d → ∃ u v, X.mg x = some u ∧ RelV v u ∧ ∀ ι H, RelD (gx X T) ι H d v
  bn : ∀ x, c.bn x = true → X.mg x = none
  exc : ∀ x, c.exc x = true → ExcOk X.K X.mg x
  law : ∀ x, c.law = some x → LawOk X T W k x
structure RecOk (r : Rec) : Prop where
  e : ∀ X T W c k, XOk X T W c k → ∀ e, PE X e (tE (gx X T) W (r.e c e))
  t : ∀ X T W c k, XOk X T W c k → ∀ e, PT X e (tT (gx X T) W (r.t c e))
  s : ∀ X T W c k, XOk X T W c k → ∀ s, PS X s (tS (gx X T) W (r.s c s))
  w : ∀ X T W c k, XOk X T W c k → ∀ op es pos, PW X (.BoolOp op es pos) (tT (gx X T) W (r.t c (.BoolOp op es pos)))
section
variable {X : Cx} {T : TX} {W : WX} {c : Cfg} {k : Nat} {r : Rec}
theorem pe_er {e : Expr} : PE X e (tE (gx X T) W eEr) := ⟨fun _ _ _ _ _ _ ⟨_, _, _, _, _, q⟩ => q.elim⟩
theorem pt_er {e : Expr} : PT X e (tT (gx X T) W tEr) := ⟨fun _ _ _ _ _ _ ⟨_, _, _, _, _, q⟩ => q.elim⟩
theorem ps_er {s : Stmt} : PS X s (tS (gx X T) W sEr) := ⟨fun _ _ _ _ _ _ ⟨_, _, _, _, _, q⟩ => q.elim⟩
theorem pa_er {e : List Expr} : PA X e (tEs (gx X T) W fun _ _ => .er) := ⟨fun _ _ _ _ _ _ _ ⟨_, _, _, _, _, q⟩ => q.elim⟩
theorem pi_er {tg e : Expr} : PI X tg e (tI (gx X T) W fun _ _ => .er) := ⟨fun _ _ _ _ _ _ ⟨_, _, _, _, _, q⟩ => q.elim⟩
/-! ### syntax -/
theorem star_eq {e : Expr} {es : List Expr} {env : PySem.Env} (h : isStar e = false) : starEach (e :: es) env = (false, eval e env) :: starEach es env := by
  cases e <;> first | rfl | cases h
theorem star_any {es : List Expr} {env : PySem.Env} {pos : Pos} (h : es.any isStar = false) : (backTo pos (starEach es env)).any (·.1) = false := by
  induction es with
  | nil => rfl
  | cons e es ih =>
    rw [List.any_cons, Bool.or_eq_false_iff] at h
    rw [star_eq h.1]
    show ((false, _) :: backTo pos (starEach es env)).any (·.1) = false
    rw [List.any_cons, ih h.2]
    rfl
theorem star_all {es : List Expr} {env : PySem.Env} {pos : Pos} (h : es.any isStar = false) : (backTo pos (starEach es env)).all (fun x => !x.1) = true := by
  have := star_any (env := env) (pos := pos) h
  rw [List.all_eq_true]
  intro y hy
  rw [List.any_eq_false] at this
  have := this y hy
  simpa using this
theorem base_eq {o : Expr} {m : Str} {env : PySem.Env} {w : Sem Value} (h : isCall0 o = false) : attributeBase o m env w = w := by
  cases o with
  | Call f as ks pos =>
    cases f with
    | Name id p =>
      cases as with
      | nil =>
        cases ks with
        | nil => cases h
        | cons _ _ => rfl
      | cons _ _ => rfl
    | _ => rfl
  | _ => rfl
theorem set_eq {e : Expr} {env : PySem.Env} (h : isSetE e = false) : ∀ x, foldedSetIterable e env x = pure x := by
  intro x
  cases e <;> first | rfl | cases h
theorem marks_eq {e : Expr} {op : CmpOp} (h : isSetE e = false) : behindInMarks op e = false := by
  cases e <;> first | rfl | cases h
theorem marks2_eq {e b : Expr} {op op' : CmpOp} (h : isSetE e = false) : lastMarks [op, op'] [b, e] = false := by
  show behindInMarks op' e = false
  exact marks_eq h
theorem plainIx_eq {b : Expr} (h : isSlice b = false) : PlainIx b := by
  intro o i
  cases b <;> first | rfl | cases h
theorem asgn1_eq {tg : Expr} {env : PySem.Env} (h : isStar tg = false) : (assignEach [tg] env).map (·.2) = [assign tg env] := by
  cases tg <;> first | rfl | cases h
theorem slot_get : ∀ {N : List Str} {x : Str} {i : Nat}, slot N x = some i → N[i]? = some x
  | [], _, _, h => by cases h
  | y :: r, x, i, h => by
    unfold slot at h
    split at h
    · rename_i e
      cases h
      rw [e]
      rfl
    · cases e : slot r x with
      | none => rw [e] at h; cases h
      | some j =>
        rw [e] at h
        cases h
        show r[j]? = some x
        exact slot_get e
theorem bad_dbg {x : Str} (h : badName x = false) : (x == ("__debug__" : Str)) = false ∧ (x == ("__classdict__" : Str)) = false ∧ x ≠ "__name__" := by
  unfold badName at h
  rw [Bool.or_eq_false_iff, Bool.or_eq_false_iff] at h
  refine ⟨h.1.1, h.1.2, fun e => ?_⟩
  have := h.2
  rw [e] at this
  simp at this
theorem vis_of {sc : Scope} {x : Str} (h : visK (sc.names.lookup x) = true) : Vis sc x := by
  unfold visK at h
  split at h
  · exact .inl (by assumption)
  · exact .inr (.inl (by assumption))
  · exact .inr (.inr (by assumption))
  · cases h
theorem loc_of {c : Cfg} {x : Str} {i : Nat} (h : c.loc x = some i) : c.N[i]? = some x ∧ Vis c.sc x ∧ badName x = false := by
  unfold Cfg.loc at h
  split at h
  · rename_i e
    rw [Bool.and_eq_true, Bool.not_eq_true'] at e
    exact ⟨slot_get h, vis_of e.1, e.2⟩
  · cases h
theorem glb_of {c : Cfg} {x : Str} (h : c.glb x = true) : c.sc.names.lookup x = some .globalImplicit ∧ badName x = false := by
  unfold Cfg.glb at h
  rw [Bool.and_eq_true, Bool.not_eq_true', decide_eq_true_eq] at h
  exact h
variable (ok : XOk X T W c k) (R : RecOk r)
include ok R
theorem snd_es : ∀ es, PA X es (tEs (gx X T) W (evEs r c es))
  | [] => pa_nilE
  | e :: es => by
    unfold evEs
    split
    · exact pa_er
    · rename_i h
      exact pa_consE (R.e X T W c k ok e) (snd_es es) (star_eq (by simpa using h))
theorem snd_o : ∀ o, PO X o (tO (gx X T) W (evO r c o))
  | none => po_noE
  | some e => po_soE (R.e X T W c k ok e)
omit R in
theorem hu64 : X.A.units + 64 < cLine := ok.room.units
omit R in
theorem gl_of {x : Str} (h : c.glb x = true) : Gl X x := by
  show X.env.scope.names.lookup x = _
  rw [ok.sc]
  exact (glb_of h).1
omit R in
mutual
theorem snd_tg : ∀ {e : Expr} {t : Tg}, tgOf c e = some t → PG X e (gT X.K t)
  | .Name x p, t, h => by
    unfold tgOf at h
    cases e : c.sto x with
    | none => rw [e] at h; cases h
    | some i =>
      rw [e] at h
      cases h
      unfold Cfg.sto at e
      split at e
      · rename_i hl
        obtain ⟨h1, h2⟩ := ok.st x hl
        exact pg_name ok.nd (by rw [ok.N]; exact slot_get e) h1 h2
      · cases e
  | .Tuple es n p, t, h => by
    unfold tgOf at h
    cases e : tgsOf c es with
    | none => rw [e] at h; cases h
    | some ts =>
      rw [e] at h
      cases h
      obtain ⟨h1, h2, h3⟩ := snd_tgs e
      exact ⟨fun pins s σ H v u Q I r q => q.elim ((pg_tup ok.calm h1 h2 h3).run pins s σ H v u Q I r) ((pg_lst ok.calm h1 h2 h3).run pins s σ H v u Q I r)⟩
  | .BoolOp .., _, h => by cases h
  | .NamedExpr .., _, h => by cases h
  | .BinOp .., _, h => by cases h
  | .UnaryOp .., _, h => by cases h
  | .Lambda .., _, h => by cases h
  | .IfExp .., _, h => by cases h
  | .Dict .., _, h => by cases h
  | .Set .., _, h => by cases h
  | .ListComp .., _, h => by cases h
  | .SetComp .., _, h => by cases h
  | .DictComp .., _, h => by cases h
  | .GeneratorExp .., _, h => by cases h
  | .Await .., _, h => by cases h
  | .Yield .., _, h => by cases h
  | .YieldFrom .., _, h => by cases h
  | .Compare .., _, h => by cases h
  | .Call .., _, h => by cases h
  | .FormattedValue .., _, h => by cases h
  | .JoinedStr .., _, h => by cases h
  | .Constant .., _, h => by cases h
  | .Attribute .., _, h => by cases h
  | .Subscript .., _, h => by cases h
  | .Starred .., _, h => by cases h
  | .List .., _, h => by cases h
  | .Slice .., _, h => by cases h
theorem snd_tgs : ∀ {es : List Expr} {ts : List Tg}, tgsOf c es = some ts → PGs X es (gTs X.K ts) ∧ (assignEach es X.env).length = ts.length ∧ (assignEach es X.env).findIdx? (·.1) = none
  | [], ts, h => by
    cases h
    exact ⟨pgs_nil, rfl, rfl⟩
  | e :: es, ts, h => by
    unfold tgsOf at h
    split at h
    · cases h
    · rename_i hs
      split at h
      · rename_i t us e1 e2
        cases h
        obtain ⟨h1, h2, h3⟩ := snd_tgs e2
        have hs : isStar e = false := by simpa using hs
        have ha : assignEach (e :: es) X.env = (false, assign e X.env) :: assignEach es X.env := by cases e <;> first | rfl | cases hs
        refine ⟨pgs_cons (snd_tg e1) h1 (by rw [ha]; rfl), by rw [ha, List.length_cons, h2, List.length_cons], ?_⟩
        rw [ha, List.findIdx?_cons, h3]
        rfl
      · cases h
end
/-! ### what is walked -/
theorem snd_i (tg : Expr) : ∀ e, PI X tg e (tI (gx X T) W (evI r c tg e)) := by
  intro e
  unfold evI
  split
  · rename_i x p a pos
    split
    · exact pi_er
    · rename_i hs
      rw [Bool.or_eq_true, not_or, Bool.not_eq_true, Bool.not_eq_true] at hs
      split
      · rename_i h
        obtain ⟨rfl, h1, h2⟩ := h
        exact pi_rg1E (gl_of ok h1) (ok.bn _ h2) (snd_es ok R [a]) (star_eq hs.1)
      · split
        · rename_i h
          obtain ⟨rfl, h1, h2⟩ := h
          split
          · exact pi_enE (gl_of ok h1) (ok.bn _ h2) (snd_es ok R [a]) (star_eq hs.1)
          · exact pi_er
        · exact pi_seqE (R.e X T W c k ok _)
  · rename_i x p a b pos
    split
    · exact pi_er
    · rename_i hs
      rw [Bool.or_eq_true, not_or, Bool.not_eq_true, Bool.not_eq_true] at hs
      split
      · rename_i h
        obtain ⟨rfl, h1, h2⟩ := h
        exact pi_rg2E (gl_of ok h1) (ok.bn _ h2) (snd_es ok R [a, b]) (by rw [star_eq hs.1, star_eq hs.2]; rfl) (by rw [star_eq hs.2]; rfl)
      · split
        · rename_i h
          obtain ⟨rfl, h1, h2⟩ := h
          split
          · exact pi_zlE (gl_of ok h1) (ok.bn _ h2) (snd_es ok R [a, b]) (star_eq hs.1) (star_any (by rw [List.any_cons, hs.2]; rfl))
          · exact pi_er
        · exact pi_seqE (R.e X T W c k ok _)
  · split
    · exact pi_er
    · exact pi_seqE (R.e X T W c k ok _)
end
end Ev

set_option Elab.async false
set_option linter.all false
set_option maxRecDepth 100000
set_option maxHeartbeats 4000000
namespace Ev
open PySem PySem.Spec PyProof.Rows L2
section
variable {X : Cx} {T : TX} {W : WX} {c : Cfg} {k : Nat} {r : Rec} {ι : List Addr} {H : Hp} {μ : Mem}
/-! ### isinstance -/
theorem ty_rel {K : PySem.W.Frag} {mg} {d : D} {v : V} {ty : String} (w : Wd ⟨K, mg, T⟩ ι μ H) (rd : RelD ⟨K, mg, T⟩ ι H d v) (h : tyOfD μ d = some ty) : TyX K H v (.type ty) := by
  cases rd with
  | non => cases h; exact .base .non
  | bl b => cases h; exact .base (.bl b)
  | int i => cases h; exact .base (.int i)
  | str x => cases h; exact .base (.str x)
  | tup h1 q =>
    cases h
    rcases h1 with (h1 | ⟨o, h1⟩) | ⟨o, its, n, h1, h2, _⟩
    · exact .base (.tup h1)
    · exact .fTuple h1
    · exact .kTuple h1 h2
  | fl h1 q =>
    cases h
    rcases h1.sq with (h1 | ⟨o, h1⟩) | ⟨o, its, n, h1, h2, _⟩
    · exact .base (.lst h1)
    · exact .base (.frz h1)
    · exact .kList h1 h2
  | loc e =>
    unfold tyOfD at h
    dsimp only at h
    split at h
    · rename_i xs e1
      cases h
      obtain ⟨a, vs, e2, _, l, _⟩ := w.lst (.loc e) (lstAt_some e1)
      cases e2
      exact .base (.lst l)
    · cases h
  | gl _ => cases h
  | rw _ => cases h
def tysL : List String := ["NoneType", "bool", "int", "str", "tuple", "list"]
def tysR : List String := ["int", "bool", "str", "list", "tuple"]
theorem kit_tab : ∀ a ∈ tysL, ∀ b ∈ tysR, kitB a b = some (isaB a b) := by decide +kernel
theorem ty_in {d : D} {ty : String} (h : tyOfD μ d = some ty) : ty ∈ tysL := by
  unfold tyOfD at h
  split at h <;> first
    | (cases h; simp [tysL]; done)
    | (split at h <;> first | (cases h; simp [tysL]; done) | cases h)
    | cases h
theorem bt_in {x : Str} {t : String} (h : btTab.lookup x = some t) : t ∈ tysR := by
  unfold btTab at h
  have := PySem.mem_of_lookup h
  simp only [List.mem_cons, Prod.mk.injEq, List.not_mem_nil, or_false] at this
  rcases this with ⟨_, rfl⟩ | ⟨_, rfl⟩ | ⟨_, rfl⟩ | ⟨_, rfl⟩ | ⟨_, rfl⟩ <;> simp [tysR]
theorem bt_boot {x : Str} {t : String} (h : btTab.lookup x = some t) : bootBuiltins x = some (.type t) := by
  unfold btTab at h
  have := PySem.mem_of_lookup h
  simp only [List.mem_cons, Prod.mk.injEq, List.not_mem_nil, or_false] at this
  rcases this with ⟨rfl, rfl⟩ | ⟨rfl, rfl⟩ | ⟨rfl, rfl⟩ | ⟨rfl, rfl⟩ | ⟨rfl, rfl⟩ <;> decide +kernel
theorem bf_boot {x : Str} {t : String} (h : bfTab.lookup x = some t) : bootBuiltins x = some (.builtin t) := by
  unfold bfTab at h
  have := PySem.mem_of_lookup h
  simp only [List.mem_cons, Prod.mk.injEq, List.not_mem_nil, or_false] at this
  rcases this with ⟨rfl, rfl⟩ | ⟨rfl, rfl⟩ | ⟨rfl, rfl⟩ | ⟨rfl, rfl⟩ | ⟨rfl, rfl⟩ | ⟨rfl, rfl⟩ | ⟨rfl, rfl⟩ <;> decide +kernel
theorem pe_tyname {x : Str} {t : String} {p : Pos} (hg : Gl X x) (hm : X.mg x = none) (h : btTab.lookup x = some t) (hb : badName x = false) : PE X (.Name x p) (tC (.ty t)) :=
  pe_bltn hg hm (bt_boot h) rfl (bad_dbg hb).2.2 (bad_dbg hb).1
theorem pe_isi1 {a : Expr} {fa : E} {x : Str} {t : String} {p q pos : Pos} (hg : Gl X "isinstance") (hm : X.mg "isinstance" = none) (hgx : Gl X x) (hmx : X.mg x = none) (h : btTab.lookup x = some t) (hb : badName x = false) (ha : PE X a (tE (gx X T) W fa)) (hs : isStar a = false) :
    PE X (.Call (.Name "isinstance" p) [a, .Name x q] [] pos) (tE (gx X T) W (eUn (isiD [t]) fa)) :=
  (pe_callB call_isi hg hm boot_isinstance (pa_cons ha (pa_cons (pe_tyname hgx hmx h hb) pa_nil rfl) (star_eq hs)) (by decide) (by decide) (star_eq hs) rfl).weak fun σ H Q hq => tE_mono (tE_un hq) fun y H1 ⟨d, μ, ι, w, rd, q⟩ => by
    unfold isiD at q
    cases e : tyOfD μ d with
    | none => rw [e] at q; exact q.elim
    | some ty =>
      rw [e] at q
      refine ⟨y, .ty t, .type ty, .type t, isaB ty t, rfl, .ty t, ty_rel w rd e, kit_ty (kit_tab ty (ty_in e) t (bt_in h)), ?_⟩
      have q : Don (gx X T) ι H1 Q (some (.bl ([t].any (isaB ty)), μ)) := q
      rw [List.any_cons, List.any_nil, Bool.or_false] at q
      exact Don.val w (.bl _) q
theorem pe_isi2 {a : Expr} {fa : E} {x y : Str} {t u : String} {kk : Nat} {p q q1 q2 pos : Pos} (hg : Gl X "isinstance") (hm : X.mg "isinstance" = none) (hgx : Gl X x) (hmx : X.mg x = none) (h : btTab.lookup x = some t) (hb : badName x = false) (hgy : Gl X y) (hmy : X.mg y = none) (hy : btTab.lookup y = some u) (hby : badName y = false) (ha : PE X a (tE (gx X T) W fa)) (hs : isStar a = false) :
    PE X (.Call (.Name "isinstance" p) [a, .Tuple [.Name x q1, .Name y q2] kk q] [] pos) (tE (gx X T) W (eUn (isiD [t, u]) fa)) :=
  (pe_callB call_isiT hg hm boot_isinstance (pa_cons ha (pa_cons (pe_tup (pa_cons (pe_tyname hgx hmx h hb) (pa_cons (pe_tyname hgy hmy hy hby) pa_nil rfl) rfl)) pa_nil rfl) (star_eq hs)) (by decide) (by decide) (star_eq hs) rfl).weak fun σ H Q hq => tE_mono (tE_un hq) fun z H1 ⟨d, μ, ι, w, rd, q⟩ => by
    refine ⟨by show 2 ≤ sizeLine; rw [sizeLine_eq]; decide, fun p hp => ?_⟩
    unfold isiD at q
    cases e : tyOfD μ d with
    | none => rw [e] at q; exact q.elim
    | some ty =>
      rw [e] at q
      have w2 := w.obj (o := .tup [.ty t, .ty u]) hp
      have g2 : Grow (gx X T) ι H1 ι (upd H1 p (.tup [.ty t, .ty u])) := .obj hp
      have q : Don (gx X T) ι H1 Q (some (.bl ([t, u].any (isaB ty)), μ)) := q
      refine ⟨z, p, [.ty t, .ty u], .type ty, [.type t, .type u], [t, u].any (isaB ty), rfl, upd_same, .cons (.ty t) (.cons (.ty u) .nil), ty_rel w2 (rd.grow w g2) e, ?_, Don.val w2 (.bl _) (q.grow g2)⟩
      have k1 := kit_ty (K := X.K) (kit_tab ty (ty_in e) t (bt_in h))
      have k2 := kit_ty (K := X.K) (kit_tab ty (ty_in e) u (bt_in hy))
      rw [List.any_cons, List.any_cons, List.any_nil, Bool.or_false]
      cases hb1 : isaB ty t with
      | true =>
        rw [hb1] at k1
        exact kitAny_cons k1 (fun z => by cases z) fun _ => rfl
      | false =>
        rw [hb1] at k1
        refine kitAny_cons k1 (fun _ => ?_) (fun z => by cases z)
        refine kitAny_cons k2 (fun z => ?_) fun z => ?_
        · rw [z]; exact kitAny_nil
        · rw [z]; rfl
/-! ### a comprehension's block -/
theorem blk_ok (ok : XOk X T W c k) {scope : Scope} {own : List (Str × Nat)} (b : BlkOk X.N X.env.scope scope own) (s : Shared) (H : Hp) (C : Addr) (cl : List (Str × Addr)) (fp : List Addr) :
    XOk (X.blk s H scope (compEnvC scope cl C X.env) fp) T (fun _ _ _ _ => False) { c with sc := relS scope c.sc, st := scope.names, law := none } k where
  N := ok.N
  nd := ok.nd
  sc := by
    show relabel scope X.env = relS scope c.sc
    rw [← ok.sc]
    rfl
  fk := b.kind
  calm := ok.calm
  room := ok.room
  tk := fun _ _ ⟨_, _, _, _, _, _, _, _, _, _, _, _, _, _, _, _, z⟩ => z.elim
  pass := PassesOwn.never
  st := fun x hx => by
    have hx : locK (scope.names.lookup x) = true := hx
    unfold locK at hx
    have keep : ∀ {kd : NameKind}, kd ≠ .free → scope.names.lookup x = some kd → (relabel scope X.env).names.lookup x = some kd := fun {kd} hk hl => lookup_relS_keep (sc := X.env.scope) hk hl
    split at hx
    · rename_i e
      exact ⟨.inl (keep (by decide) e), .inr (keep (by decide) e)⟩
    · rename_i e
      exact ⟨.inr (keep (by decide) e), .inl (by show (scope.names.lookup x == some NameKind.cell) = true; rw [e]; rfl)⟩
    · cases hx
  call := ok.call
  gv := ok.gv
  bn := ok.bn
  exc := ok.exc
  law := fun _ h => by cases h
variable (ok : XOk X T W c k) (R : RecOk r)
include ok R
theorem snd_lc (elt tg iter : Expr) (ifs : List Expr) (scope : Scope) (pos : Pos) : PE X (.ListComp elt [⟨tg, iter, ifs, 0⟩] scope pos) (tE (gx X T) W (evLc r c elt tg iter ifs scope)) := by
  unfold evLc
  dsimp only
  split
  · rename_i h
    rw [Bool.and_eq_true, Bool.not_eq_true'] at h
    have b : BlkOk X.N X.env.scope scope (ownOf c.N scope.names) := by
      rw [ok.N, ok.sc]
      exact blkOk_by h.1
    split
    · rename_i t e
      have K := fun s H C cl fp => blk_ok ok b s H C cl fp
      split
      · exact pe_lcE ok.calm ok.nd (snd_i ok R tg iter) b (fun s H C cl fp => snd_tg (K s H C cl fp) e) (fun s H C cl fp => pts_nilE) (fun s H C cl fp => R.e _ T _ _ k (K s H C cl fp) elt) (set_eq h.2)
      · exact pe_lcE ok.calm ok.nd (snd_i ok R tg iter) b (fun s H C cl fp => snd_tg (K s H C cl fp) e) (fun s H C cl fp => ⟨fun pins s σ H Q I hw => (pts_one (R.t _ T _ _ k (K _ _ _ _ _) _)).run pins s σ H Q I hw⟩) (fun s H C cl fp => R.e _ T _ _ k (K s H C cl fp) elt) (set_eq h.2)
      · exact pe_er
    · exact pe_er
  · exact pe_er
/-- y = [..] -/
theorem snd_asgLc {x : Str} {p spos : Pos} {t : Tg} (elt tg iter : Expr) (ifs : List Expr) (scope : Scope) (pos : Pos) (ht : tgOf c (.Name x p) = some t) (hsw : swapsWith (.ListComp elt [⟨tg, iter, ifs, 0⟩] scope pos) (some (.Name x p)) spos.line X.env = pure true) (hl : X.env.scope.names.lookup x = some .local) :
    PS X (.Assign [.Name x p] (.ListComp elt [⟨tg, iter, ifs, 0⟩] scope pos) spos) (tS (gx X T) W (sSet t (evLc r c elt tg iter ifs scope))) := by
  unfold tgOf at ht
  cases e0 : c.sto x with
  | none => rw [e0] at ht; cases ht
  | some i =>
    rw [e0] at ht
    cases ht
    unfold Cfg.sto at e0
    split at e0
    · have hi : X.N[i]? = some x := by rw [ok.N]; exact slot_get e0
      unfold evLc
      dsimp only
      split
      · rename_i h
        rw [Bool.and_eq_true, Bool.not_eq_true'] at h
        have b : BlkOk X.N X.env.scope scope (ownOf c.N scope.names) := by
          rw [ok.N, ok.sc]
          exact blkOk_by h.1
        split
        · rename_i t e
          have K := fun s H C cl fp => blk_ok ok b s H C cl fp
          split
          · exact ps_lcE ok.calm ok.nd hi hl hsw (snd_i ok R tg iter) b (fun s H C cl fp => snd_tg (K s H C cl fp) e) (fun s H C cl fp => pts_nilE) (fun s H C cl fp => R.e _ T _ _ k (K s H C cl fp) elt) (set_eq h.2)
          · exact ps_lcE ok.calm ok.nd hi hl hsw (snd_i ok R tg iter) b (fun s H C cl fp => snd_tg (K s H C cl fp) e) (fun s H C cl fp => ⟨fun pins s σ H Q I hw => (pts_one (R.t _ T _ _ k (K _ _ _ _ _) _)).run pins s σ H Q I hw⟩) (fun s H C cl fp => R.e _ T _ _ k (K s H C cl fp) elt) (set_eq h.2)
          · exact ⟨fun _ _ _ _ _ _ ⟨_, _, _, _, _, q⟩ => q.elim⟩
        · exact ⟨fun _ _ _ _ _ _ ⟨_, _, _, _, _, q⟩ => q.elim⟩
      · exact ⟨fun _ _ _ _ _ _ ⟨_, _, _, _, _, q⟩ => q.elim⟩
    · cases e0
end
end Ev

set_option Elab.async false
set_option linter.all false
set_option maxRecDepth 100000
set_option maxHeartbeats 4000000
namespace Ev
open PySem PySem.Spec PyProof.Rows L2
section
variable {X : Cx} {T : TX} {W : WX} {c : Cfg} {k : Nat} {r : Rec} {ι : List Addr} {H : Hp} {μ : Mem}
variable (ok : XOk X T W c k) (R : RecOk r)
include ok R
theorem snd_meth (o : Expr) (m : Str) (apos cpos : Pos) (a : Expr) (es : List Expr) (hline : (apos.endLine == cpos.line) = true) : PE X (.Call (.Attribute o m apos) (a :: es) [] cpos) (tE (gx X T) W (evMeth r c o m a es)) := by
  unfold evMeth
  split
  · exact pe_er
  · rename_i h
    simp only [Bool.or_eq_true, not_or, Bool.not_eq_true, decide_eq_true_eq] at h
    obtain ⟨⟨⟨h1, h2⟩, h3⟩, h4⟩ := h
    have hf : ((backTo cpos (starEach (a :: es) X.env)).all (fun x => !x.1) && (backToKw cpos (keywordEach [] X.env)).all (fun x => x.1.isSome)
      && decide ((a :: es).length + ([] : List Keyword).length + (if ([] : List Keyword).isEmpty then 0 else 1) < 30)) = true := by
      rw [star_all (by rw [List.any_cons, h1, h2]; rfl)]
      rw [show (backToKw cpos (keywordEach [] X.env)).all (fun x => x.1.isSome) = true from rfl]
      simp only [Bool.true_and, decide_eq_true_eq, List.length_cons, List.length_nil, List.isEmpty_nil, if_true]
      omega
    have ho := R.e X T W c k ok o
    have ha := snd_es ok R (a :: es)
    have b := base_eq (m := m) (env := X.env) (w := eval o X.env) h3
    split
    · rename_i e; subst e
      exact pe_mtE (.inl rfl) PySem.F.plainAttrs_list PySem.F.slot_list_append PySem.F.type_list_append append_ok ho ha b hf hline (star_eq h1) (star_any h2)
    · split
      · rename_i e; subst e
        exact pe_mtE (.inl rfl) PySem.F.plainAttrs_list PySem.F.slot_list_extend PySem.F.type_list_extend extend_ok ho ha b hf hline (star_eq h1) (star_any h2)
      · split
        · rename_i e; subst e
          exact pe_mtE (.inr rfl) PySem.F.plainAttrs_str PySem.F.slot_str_count PySem.F.type_str_count count_ok ho ha b hf hline (star_eq h1) (star_any h2)
        · split
          · rename_i e; subst e
            exact pe_mtE (.inr rfl) PySem.F.plainAttrs_str PySem.F.slot_str_split PySem.F.type_str_split split_ok ho ha b hf hline (star_eq h1) (star_any h2)
          · split
            · rename_i e; subst e
              refine ((pe_mtE (T₀ := T) (.inr rfl) PySem.F.plainAttrs_str PySem.F.slot_str_index PySem.F.type_str_index (indexS_ok ok.calm) ho ha b hf hline (star_eq h1) (star_any h2)).or (pe_mtE (T₀ := T) (.inl rfl) PySem.F.plainAttrs_list PySem.F.slot_list_index PySem.F.type_list_index indexL_ok ho ha b hf hline (star_eq h1) (star_any h2))).weak fun σ H Q ⟨ρ, μ, ι, w, ev, q⟩ => ?_
              dsimp only at q
              split at q
              · exact .inl ⟨ρ, μ, ι, w, ev, q⟩
              · exact .inr ⟨ρ, μ, ι, w, ev, q⟩
            · exact pe_er
omit R in
theorem lam_ok {Y : Cx} {V : WX} {scope : Scope} (y1 : Y.prog = X.prog) (y2 : Y.w = X.w) (y3 : Y.K = X.K) (y4 : Y.mg = X.mg) (y5 : Y.base = X.base) (y6 : Y.N = X.N) (y7 : Y.env.scope = scope) (yk : scope.kind = .function) (y8 : Y.calm = true) (y10 : Room k Y.A) (y11 : L2N.Takes Y V) (y12 : PassesOwn (model Y.prog Y.w) Y.A Y.env Y.xe) :
    XOk Y T V { c with sc := scope, st := [], law := none } k where
  N := y6.trans ok.N
  nd := by rw [y6]; exact ok.nd
  sc := y7
  fk := by rw [y7]; exact yk
  calm := y8
  room := y10
  tk := y11
  pass := y12
  st := fun x h => by cases h
  call := by rw [y1, y2, y3, y4, y5]; exact ok.call
  gv := fun x d h => by
    obtain ⟨u, v, h1, h2, h3⟩ := ok.gv x d h
    exact ⟨u, v, by rw [y4]; exact h1, h2, fun ι H => by show RelD ⟨Y.K, Y.mg, T⟩ ι H d v; rw [y3, y4]; exact h3 ι H⟩
  bn := fun x h => by rw [y4]; exact ok.bn x h
  exc := fun x h => by rw [y3, y4]; exact ok.exc x h
  law := fun _ h => by cases h
theorem snd_call
    (x : Str) (p pos : Pos) (a : Expr) (es : List Expr) : PE X (.Call (.Name x p) (a :: es) [] pos) (tE (gx X T) W (evCall r c x a es)) := by
  unfold evCall
  split
  · exact pe_er
  · rename_i h
    simp only [Bool.or_eq_true, not_or, Bool.not_eq_true] at h
    obtain ⟨⟨h1, h2⟩, h3⟩ := h
    obtain ⟨d1, d2, d3⟩ := bad_dbg h2
    split
    · rename_i hv
      split
      · rename_i i e
        exact pe_callVE ok.call ok.room ok.tk (by rw [ok.N]; exact slot_get e) (by rw [ok.sc]; exact vis_of hv) (snd_es ok R (a :: es)) d1 d2 (star_eq h1) (star_any h3)
      · exact pe_er
    · split
      · rename_i hg
        have hgl := gl_of ok hg
        split
        · rename_i hb
          split
          · rename_i e; subst e
            match es, h3 with
            | [kx], h3 =>
              dsimp only
              split
              · rename_i ts e1
                unfold clsOf at e1
                split at e1
                · rename_i y q
                  split at e1
                  · rename_i hy
                    rw [Bool.and_eq_true] at hy
                    cases e2 : btTab.lookup y with
                    | none => rw [e2] at e1; cases e1
                    | some t =>
                      rw [e2] at e1
                      cases e1
                      exact pe_isi1 hgl (ok.bn _ hb) (gl_of ok hy.1) (ok.bn _ hy.2) e2 (glb_of hy.1).2 (R.e X T W c k ok a) h1
                  · cases e1
                · rename_i y q1 z q2 kk q
                  split at e1
                  · rename_i hy
                    simp only [Bool.and_eq_true] at hy
                    split at e1
                    · rename_i t u e2 e3
                      cases e1
                      exact pe_isi2 hgl (ok.bn _ hb) (gl_of ok hy.1.1.1) (ok.bn _ hy.1.1.2) e2 (glb_of hy.1.1.1).2 (gl_of ok hy.1.2) (ok.bn _ hy.2) e3 (glb_of hy.1.2).2 (R.e X T W c k ok a) h1
                    · cases e1
                  · cases e1
                · cases e1
              · exact pe_er
            | [], h3 => exact pe_er
            | _ :: _ :: _, h3 => exact pe_er
          · split
            · rename_i n e
              split
              · rename_i p' e2
                exact pe_bi (bi_ok ok.calm e2) hgl (ok.bn _ hb) (bf_boot e) (snd_es ok R (a :: es)) d3 d1 (star_eq h1) (star_any h3)
              · exact pe_er
            · split
              · rename_i n e
                split
                · rename_i p' e2
                  exact pe_ty (ty_ok e2) hgl (ok.bn _ hb) (bt_boot e) (snd_es ok R (a :: es)) d3 d1 (star_eq h1) (star_any h3)
                · exact pe_er
              · exact pe_er
        · split
          · rename_i hl
            match a, es, h1, h3 with
            | .Lambda params body scope lp, [], h1, h3 =>
              dsimp only
              split
              · rename_i hh
                simp only [Bool.and_eq_true] at hh
                obtain ⟨⟨⟨⟨⟨⟨⟨g1, g2⟩, g3⟩, g4⟩, g5⟩, g6⟩, g7⟩, g8⟩ := hh
                refine ok.law x hl params body scope (r.e { c with sc := scope, st := [], law := none } body) p lp pos (by rw [ok.sc]; exact g1) (List.isEmpty_iff.mp g2) (List.isEmpty_iff.mp g3) (Option.isNone_iff_eq_none.mp g4) (List.isEmpty_iff.mp g5) (List.isEmpty_iff.mp g6) (Option.isNone_iff_eq_none.mp g7) (List.isEmpty_iff.mp g8) hgl fun Y V y1 y2 y3 y4 y5 y6 y7 y8 y10 y11 y12 => ?_
                exact R.e Y T V _ k (lam_ok ok y1 y2 y3 y4 y5 y6 y7 (LamX.lamS_by g1).kind y8 y10 y11 y12) body
              · exact pe_er
            | .BoolOp .., _, _, _ => exact pe_er
            | .NamedExpr .., _, _, _ => exact pe_er
            | .BinOp .., _, _, _ => exact pe_er
            | .UnaryOp .., _, _, _ => exact pe_er
            | .IfExp .., _, _, _ => exact pe_er
            | .Dict .., _, _, _ => exact pe_er
            | .Set .., _, _, _ => exact pe_er
            | .ListComp .., _, _, _ => exact pe_er
            | .SetComp .., _, _, _ => exact pe_er
            | .DictComp .., _, _, _ => exact pe_er
            | .GeneratorExp .., _, _, _ => exact pe_er
            | .Await .., _, _, _ => exact pe_er
            | .Yield .., _, _, _ => exact pe_er
            | .YieldFrom .., _, _, _ => exact pe_er
            | .Compare .., _, _, _ => exact pe_er
            | .Call .., _, _, _ => exact pe_er
            | .FormattedValue .., _, _, _ => exact pe_er
            | .JoinedStr .., _, _, _ => exact pe_er
            | .Constant .., _, _, _ => exact pe_er
            | .Attribute .., _, _, _ => exact pe_er
            | .Subscript .., _, _, _ => exact pe_er
            | .Starred .., _, _, _ => exact pe_er
            | .Name .., _, _, _ => exact pe_er
            | .List .., _, _, _ => exact pe_er
            | .Tuple .., _, _, _ => exact pe_er
            | .Slice .., _, _, _ => exact pe_er
            | .Lambda .., _ :: _, _, _ => exact pe_er
          · split
            · rename_i f e
              exact pe_callD (ok.call x f e) ok.room ok.tk hgl (snd_es ok R (a :: es)) d1 (star_eq h1) (star_any h3)
            · exact pe_er
      · exact pe_er
end
end Ev

set_option Elab.async false
set_option linter.all false
set_option maxRecDepth 100000
set_option maxHeartbeats 4000000
namespace Ev
open PySem PySem.Spec PyProof.Rows L2
section
variable {X : Cx} {T : TX} {W : WX} {c : Cfg} {k : Nat} {r : Rec} {ι : List Addr} {H : Hp} {μ : Mem}
/-! ### stores exchanged -/
theorem sw_eq {env : PySem.Env} {ts vs : List Expr} {k1 k2 : Nat} {p1 p2 : Pos} {res : Option (List Str)} (hb : env.scope.kind = .function) (h : swB env.scope.names ts vs = some res) : swappedStores [.Tuple ts k1 p1] (.Tuple vs k2 p2) env = pure res := by
  have hbk : env.blockKind = .function := by unfold Env.blockKind; rw [hb]; rfl
  unfold swB at h
  unfold swappedStores
  simp only [hbk]
  split at h
  · rename_i h1
    cases h
    have : (!(ts.length == 2 || ts.length == 3) || vs.length != ts.length || (ScopeKind.function != ScopeKind.function)) = true := by rw [h1]; rfl
    simp only [this, if_true]
  · rename_i h1
    have : (!(ts.length == 2 || ts.length == 3) || vs.length != ts.length || (ScopeKind.function != ScopeKind.function)) = false := by
      rw [Bool.not_eq_true] at h1
      rw [h1]; rfl
    simp only [this]
    rw [if_neg Bool.false_ne_true]
    split at h
    · rename_i h2; cases h; exact if_pos h2
    · rename_i h2
      refine (if_neg h2).trans ?_
      dsimp only at h
      split at h
      · rename_i h3; cases h; exact if_pos h3
      · rename_i h3
        refine (if_neg h3).trans ?_
        split at h
        · rename_i h4; cases h; exact if_pos h4
        · rename_i h4
          refine (if_neg h4).trans ?_
          split at h
          · cases h
          · rename_i h5
            cases h
            exact if_neg h5
theorem sw_none {env : PySem.Env} {ts : List Expr} {e : Expr} {k1 : Nat} {p1 : Pos} (h : ∀ vs k2 p2, e ≠ .Tuple vs k2 p2) : swappedStores [.Tuple ts k1 p1] e env = pure none := by
  cases e <;> first | rfl | exact absurd rfl (h _ _ _)
/-- a, b, c = x, y, z with plain local names -/
def tPar3 (i j l : Nat) (ta : TA) : TS := fun D σ H => ta σ H fun vs H1 => ∃ v w z, vs = [v, w, z] ∧ D.nx (((σ.set i (some v)).set j (some w)).set l (some z)) H1
theorem ps_par3 {i j l : Nat} {x y z : Str} {a b c : Expr} {ta : TA} {px py pz pt pos : Pos} {kt k2 pt2} (hc : X.calm = true) (hN : X.N.Nodup) (hi : X.N[i]? = some x) (hj : X.N[j]? = some y) (hl : X.N[l]? = some z) (hij : i ≠ j) (hil : i ≠ l) (hjl : j ≠ l)
    (hx : X.env.scope.names.lookup x = some .local) (hy : X.env.scope.names.lookup y = some .local) (hz : X.env.scope.names.lookup z = some .local) (ha : PA X [a, b, c] ta)
    (hw : swappedStores [.Tuple [.Name x px, .Name y py, .Name z pz] kt pt] (.Tuple [a, b, c] k2 pt2) X.env = pure (some [x, y, z]))
    (hs : swapsWithSole [.Tuple [.Name x px, .Name y py, .Name z pz] kt pt] (.Tuple [a, b, c] k2 pt2) pos.line X.env = pure false := by rfl) :
    PS X (.Assign [.Tuple [.Name x px, .Name y py, .Name z pz] kt pt] (.Tuple [a, b, c] k2 pt2) pos) (tPar3 i j l ta) := by
  refine ⟨fun pins s σ H D I h => ?_⟩
  rw [exec_Assign_arm]
  refine wpAny_bind (wpAny_standAt ?_)
  rw [hs]
  refine wpAny_bind (wpAny_pure ?_)
  rw [if_neg (by decide)]
  refine wpAny_bind (Tuple_ (thn (ha.run _ pins s σ H _ I h) fun us s1 ⟨vs, H1, I1, r1, q1⟩ => ?_))
  obtain ⟨v, w, zz, e1, q1⟩ := q1
  subst e1
  obtain ⟨u1, u2, u3, rfl, rv, rw', rz⟩ : ∃ u1 u2 u3, us = [u1, u2, u3] ∧ RelV v u1 ∧ RelV w u2 ∧ RelV zz u3 := by
    cases r1 with
    | cons p q =>
      cases q with
      | cons p' q' =>
        cases q' with
        | cons p'' q'' =>
          cases q''
          exact ⟨_, _, _, rfl, p, p', p''⟩
  refine wpAny_newObj_type ?_ (by show 3 ≤ sizeLine; decide)
  have I2 : L2.Inv X pins σ H1 { s1 with heap := s1.heap.push { cls := .type "tuple", data := .seq [u1, u2, u3].toArray } } := I1.kept (t' := s1.toks) fun b o e => Heap.get?_push_of_some _ e
  rw [hw]
  refine wpAny_bind (wpAny_pure ?_)
  show wpAny (model X.prog X.w) X.A (do rule "assign.swapped-stores"; let items ← unpackItems (.ref s1.heap.objs.size) 3 none; assignInOrder [fun v => bindName X.env z v, fun v => bindName X.env y v, fun v => bindName X.env x v] items.reverse; pure Flow.next) _ _ _
  refine wpAny_bind (wpAny_rule (wpAny_bind (unpackItems_tuple (items := #[u1, u2, u3]) (I.ok.hd hc) (IsTup.new s1.heap _) fun h' hx' => ?_)))
  have I3 := I2.kept (h' := h') (t' := s1.toks) fun b o e => hx' b o (Nat.ne_of_lt (Heap.lt_size e)) e
  show wpAny _ _ (assignInOrder [fun v => bindName X.env z v, fun v => bindName X.env y v, fun v => bindName X.env x v] [u3, u2, u1] >>= fun _ => pure Flow.next) _ _ _
  refine wpAny_bind (assignInOrder_cons (wpAny_bindName (store_ok I3 hN hl (.inl hz) rz (fun s2 I4 => ?_) (.inr hz))))
  refine assignInOrder_cons (wpAny_bindName (store_ok I4 hN hj (.inl hy) rw' (fun s3 I5 => ?_) (.inr hy)))
  refine assignInOrder_cons (wpAny_bindName (store_ok I5 hN hi (.inl hx) rv (fun s4 I6 => assignInOrder_nil (wpAny_pure ?_)) (.inr hx)))
  rw [List.set_comm _ _ (Ne.symm hij), List.set_comm _ _ (Ne.symm hil), List.set_comm _ _ (Ne.symm hjl)] at I6
  exact ⟨_, H1, I6, q1⟩
end
end Ev

set_option Elab.async false
set_option linter.all false
set_option maxRecDepth 100000
set_option maxHeartbeats 4000000
namespace Ev
open PySem PySem.Spec PyProof.Rows L2
section
variable {X : Cx} {T : TX} {W : WX} {c : Cfg} {k : Nat} {r : Rec} {ι : List Addr} {H : Hp} {μ : Mem} {G : Gc} {σ : St} {ρ : Env}
/-! ### f-strings -/
theorem pe_fmtE {a : Expr} {fa : E} {pos : Pos} (ha : PE X a (tE (gx X T) W fa)) : PE X (.FormattedValue a (-1) none pos) (tE (gx X T) W (eFmt fa)) := (pe_fmt ha).weak fun σ H Q h => tE_mono (tE_un h) fun x H1 ⟨d, μ, ι, w, r, q⟩ => by
  cases r with
  | str y =>
    have q : Don (gx X T) ι H1 Q (if y.length ≤ sizeLine then some (.str y, μ) else none) := q
    split at q
    · rename_i hz
      exact .inl ⟨y, rfl, hz, Don.val w (.str _) q⟩
    · exact q.elim
  | int i =>
    have q : Don (gx X T) ι H1 Q (match (if i.natAbs.log2 < 1920 then some (toString i : Str) else none) with | some y => if y.length ≤ sizeLine then some (.str y, μ) else none | none => none) := q
    split at q
    · rename_i y e
      split at e
      · rename_i hz
        cases e
        split at q
        · exact .inr ⟨i, rfl, hz, Don.val w (.str _) q⟩
        · exact q.elim
      · cases e
    · exact q.elim
  | _ => exact q.elim
/-- a text from parts -/
def PsY (G : Gc) (ι : List Addr) (H : Hp) (E : XK) (Q : Str → Hp → Prop) : R Str → Prop
  | .ok d μ' => ∀ H' ι', Grow G ι H ι' H' → Wd G ι' μ' H' → Q d H'
  | .ex x μ' => ∀ H' ι' cls od, Grow G ι H ι' H' → Wd G ι' μ' H' → ExR G x cls od H' → E cls od H'
  | .er => False
theorem PsY.grow {ι1 : List Addr} {H1 : Hp} {E₀ : XK} {Q : Str → Hp → Prop} {r : R Str} (g : Grow G ι H ι1 H1) (h : PsY G ι H E₀ Q r) : PsY G ι1 H1 E₀ Q r := by
  cases r with
  | ok d m => exact fun H' ι' g' w => h H' ι' (g.trans g') w
  | ex x m => exact fun H' ι' cls od g' w r => h H' ι' cls od (g.trans g') w r
  | er => exact h
theorem tJs_go : ∀ (fs : List E) (acc : Str) {ρ : Env} {μ : Mem} {ι : List Addr} {σ : St} {H : Hp} {Q : Str → Hp → Prop}, Wd G ι μ H → EnvR G ι H ρ σ → PsY G ι H (fun c d H' => W c d σ H') Q (joinGo fs acc ρ μ) → tJs (fs.map (tE G W)) acc σ H Q
  | [], acc, ρ, μ, ι, σ, H, Q, w, ev, h => h H ι .refl w
  | f :: fs, acc, ρ, μ, ι, σ, H, Q, w, ev, h => by
    refine ⟨ρ, μ, ι, w, ev, ?_⟩
    unfold joinGo at h
    cases hf : f ρ μ with
    | ex x m => rw [hf] at h; exact h
    | er => rw [hf] at h; exact h
    | ok d m =>
      rw [hf] at h
      intro v H' ι' g' w' rv
      cases rv with
      | str y =>
        have h : PsY G ι H (fun c d H' => W c d σ H') Q (if (acc ++ y).length ≤ sizeLine then joinGo fs (acc ++ y) ρ m else .er) := h
        split at h
        · rename_i hz
          exact ⟨y, rfl, hz, tJs_go fs (acc ++ y) w' (ev.grow w g') (PsY.grow g' h)⟩
        · exact h.elim
      | _ => exact h.elim
variable (ok : XOk X T W c k) (R : RecOk r)
include ok R
theorem snd_pj : ∀ es, PJ X es ((evL r c es).map (tE (gx X T) W))
  | [] => .nil
  | e :: es => .cons (R.e X T W c k ok e) (snd_pj es)
theorem snd_join (a b : Expr) (rest : List Expr) (pos : Pos) : PE X (.JoinedStr (a :: b :: rest) pos) (tE (gx X T) W (eJoin (evL r c (a :: b :: rest)))) := (pe_joined (snd_pj ok R (a :: b :: rest))).weak fun σ H Q ⟨ρ, μ, ι, w, ev, q⟩ => by
  refine tJs_go (G := gx X T) _ Str.empty w ev ?_
  unfold eJoin at q
  cases hf : joinGo (evL r c (a :: b :: rest)) Str.empty ρ μ with
  | ok y m => rw [hf] at q; exact fun H' ι' g' w' => q (.str y) H' ι' g' w' (.str y)
  | ex x m => rw [hf] at q; exact q
  | er => rw [hf] at q; exact q
/-! ### the steps -/
theorem snd_E
    (e : Expr) : PE X e (tE (gx X T) W (stepE r c e)) := by
  have hu := ok.room.units
  have re := fun e => R.e X T W c k ok e
  have rt := fun e => R.t X T W c k ok e
  unfold stepE
  split
  · -- constants
    rename_i kk _ _
    cases kk with
    | none => exact pe_k pe_non fun _ _ => .non
    | bool b => exact pe_k pe_bl fun _ _ => .bl b
    | int i => exact pe_k pe_int fun _ _ => .int i
    | str x => exact pe_k pe_str fun _ _ => .str x
    | _ => exact pe_er
  · -- names
    rename_i x p
    split
    · rename_i i h
      obtain ⟨h1, h2, h3⟩ := loc_of h
      exact pe_v (pe_var (by rw [ok.N]; exact h1) (by rw [ok.sc]; exact h2) (bad_dbg h3).1 (bad_dbg h3).2.1)
    · split
      · rename_i hg
        split
        · rename_i d hd
          obtain ⟨u, v, h1, h2, h3⟩ := ok.gv x d hd
          exact pe_k (pe_glob (gl_of ok hg) h1 h2 (bad_dbg (glb_of hg).2).1) h3
        · exact pe_er
      · exact pe_er
  · exact pe_one (re _)
  · exact pe_anE (re _) (re _)
  · exact pe_orE (re _) (re _)
  · exact pe_bin _ (re _) (re _)
  · exact pe_noE (re _)
  · exact pe_negE (re _)
  · exact pe_ifE (rt _) (re _) (re _)
  · split
    · exact pe_er
    · rename_i h
      exact pe_cmpE hu _ (re _) (re _) (marks_eq (by simpa using h))
  · split
    · exact pe_er
    · rename_i h
      exact pe_chainE hu _ _ (re _) (re _) (re _) (marks2_eq (by simpa using h))
  · exact pe_tupE (snd_es ok R _)
  · exact pe_lstE (snd_es ok R _)
  · exact pe_revE (re _)
  · exact pe_slE (re _) (snd_o ok R _) (snd_o ok R _)
  · split
    · exact pe_er
    · rename_i h
      exact pe_ixE (re _) (re _) (plainIx_eq (by simpa using h))
  · exact snd_lc ok R _ _ _ _ _ _
  · exact pe_fmtE (re _)
  · exact snd_join ok R _ _ _ _
  · exact pe_joined1 (re _)
  · exact snd_call ok R _ _ _ _ _
  · split
    · rename_i h
      exact snd_meth ok R _ _ _ _ _ _ h
    · exact pe_er
  · exact pe_er
theorem snd_W (op : BoolOp) (es : List Expr) (pos : Pos) : PW X (.BoolOp op es pos) (tT (gx X T) W (stepT r c (.BoolOp op es pos))) := by
  have rt := fun e => R.t X T W c k ok e
  have rw' := fun op es pos => R.w X T W c k ok op es pos
  match op, es with
  | .And, [] => exact ⟨fun _ _ _ _ _ _ _ ⟨_, _, _, _, _, q⟩ => q.elim⟩
  | .Or, [] => exact ⟨fun _ _ _ _ _ _ _ ⟨_, _, _, _, _, q⟩ => q.elim⟩
  | .And, [a] => exact pw_and1 (rt a)
  | .Or, [a] => exact pw_or1 (rt a)
  | .And, a :: b :: rest => exact pw_anE (rt a) (rw' .And (b :: rest) pos)
  | .Or, a :: b :: rest => exact pw_orE (rt a) (rw' .Or (b :: rest) pos)
theorem snd_T (e : Expr) : PT X e (tT (gx X T) W (stepT r c e)) := by
  have hu := ok.room.units
  have re := fun e => R.e X T W c k ok e
  have rt := fun e => R.t X T W c k ok e
  cases e with
  | BoolOp op es pos => exact (snd_W ok R op es pos).pt
  | UnaryOp op a pos =>
    cases op with
    | Not => exact pt_no (rt _)
    | _ => exact pt_tru (re _) fun _ => rfl
  | IfExp _ _ _ _ => exact pt_er
  | Compare a ops cs pos =>
    match ops, cs with
    | [op], [b] =>
      show PT X _ (tT (gx X T) W (if isSetE b then tEr else tBl (eBin (cmpD op) (r.e c a) (r.e c b))))
      split
      · exact pt_er
      · rename_i h
        exact pt_cmpE hu _ (re _) (re _) (marks_eq (by simpa using h))
    | [op, op'], [b, d] =>
      show PT X _ (tT (gx X T) W (if isSetE d then tEr else tBl (eChain (cmpD op) (cmpD op') (r.e c a) (r.e c b) (r.e c d))))
      split
      · exact pt_er
      · rename_i h
        exact pt_chainE hu _ _ (re _) (re _) (re _) (marks2_eq (by simpa using h))
    | [], [] => exact pt_er
    | [], _ :: _ => exact pt_er
    | [_], [] => exact pt_er
    | [_], _ :: _ :: _ => exact pt_er
    | [_, _], [] => exact pt_er
    | [_, _], [_] => exact pt_er
    | [_, _], _ :: _ :: _ :: _ => exact pt_er
    | _ :: _ :: _ :: _, [] => exact pt_er
    | _ :: _ :: _ :: _, [_] => exact pt_er
    | _ :: _ :: _ :: _, _ :: _ :: _ => exact pt_er
  | _ => exact pt_tru (re _) fun _ => rfl
theorem snd_Ss : ∀ ss, PSs X ss (tS (gx X T) W (evSs r c ss))
  | [] => pss_nilE
  | s :: ss => pss_consE (R.s X T W c k ok s) (snd_Ss ss)
omit R in
theorem tgName_inv {x : Str} {p : Pos} {t : Tg} (h : tgOf c (.Name x p) = some t) : ∃ i, t = .nm i ∧ X.N[i]? = some x := by
  unfold tgOf at h
  cases e : c.sto x with
  | none => rw [e] at h; cases h
  | some i =>
    rw [e] at h
    cases h
    unfold Cfg.sto at e
    split at e
    · exact ⟨i, rfl, by rw [ok.N]; exact slot_get e⟩
    · cases e
omit R in
theorem tgT2 {x y : Str} {px py p : Pos} {kk : Nat} {t : Tg} (h : tgOf c (.Tuple [.Name x px, .Name y py] kk p) = some t) : ∃ i j, t = .tp [.nm i, .nm j] ∧ X.N[i]? = some x ∧ X.N[j]? = some y := by
  unfold tgOf tgsOf tgsOf tgsOf at h
  cases e1 : tgOf c (.Name x px) with
  | none => simp [e1] at h
  | some t1 =>
    cases e2 : tgOf c (.Name y py) with
    | none => simp [e1, e2] at h
    | some t2 =>
      obtain ⟨i, rfl, hi⟩ := tgName_inv ok e1
      obtain ⟨j, rfl, hj⟩ := tgName_inv ok e2
      refine ⟨i, j, ?_, hi, hj⟩
      simp [e1, e2, isStar] at h
      exact h.symm
omit R in
theorem tgT3 {x y z : Str} {px py pz p : Pos} {kk : Nat} {t : Tg} (h : tgOf c (.Tuple [.Name x px, .Name y py, .Name z pz] kk p) = some t) : ∃ i j l, t = .tp [.nm i, .nm j, .nm l] ∧ X.N[i]? = some x ∧ X.N[j]? = some y ∧ X.N[l]? = some z := by
  unfold tgOf tgsOf tgsOf tgsOf tgsOf at h
  cases e1 : tgOf c (.Name x px) with
  | none => simp [e1] at h
  | some t1 =>
    cases e2 : tgOf c (.Name y py) with
    | none => simp [e1, e2] at h
    | some t2 =>
      cases e3 : tgOf c (.Name z pz) with
      | none => simp [e1, e2, e3] at h
      | some t3 =>
        obtain ⟨i, rfl, hi⟩ := tgName_inv ok e1
        obtain ⟨j, rfl, hj⟩ := tgName_inv ok e2
        obtain ⟨l, rfl, hl⟩ := tgName_inv ok e3
        refine ⟨i, j, l, ?_, hi, hj, hl⟩
        simp [e1, e2, e3, isStar] at h
        exact h.symm
omit ok R in
theorem par2_weak {i j : Nat} {fs : Es} {D : Ends} {σ : St} {H : Hp} (h : tS G W (sSet (.tp [.nm i, .nm j]) (eApp tupP fs)) D σ H) : tPar i j (tEs G W fs) D σ H := by
  obtain ⟨ρ, μ, ι, w, ev, q⟩ := h
  refine ⟨ρ, μ, ι, w, ev, ?_⟩
  unfold sSet eApp at q
  cases hf : fs ρ μ with
  | ex x m => rw [hf] at q; exact fun H' ι' cls od g' w' r => q σ H' ι' cls od g' w' (ev.grow w g') r
  | er => rw [hf] at q; exact q
  | ok ds m =>
    rw [hf] at q
    intro vs H' ι' g' w' r
    have q : PsS G ι H W D ((tupP ds m).r.st ρ fun d μ1 => match Tg.set μ1 (.tp [.nm i, .nm j]) d ρ with | some ρ' => .nx ρ' μ1 | none => .er) := q
    unfold tupP at q
    split at q
    · have q : PsS G ι H W D (match Tg.sets m [.nm i, .nm j] ds ρ with | some ρ' => .nx ρ' m | none => .er) := q
      split at q
      · rename_i ρ' e
        match ds, r, e with
        | [d1, d2], .cons r1 (.cons r2 .nil), e =>
          simp only [Tg.sets, Tg.set] at e
          split at e
          · rename_i ρ1 e1
            split at e1
            · cases e1
              split at e
              · rename_i ρ2 e2
                split at e2
                · cases e2
                  cases e
                  exact ⟨_, _, rfl, q _ H' ι' g' w' (((ev.grow w g').set r1 i).set r2 j)⟩
                · cases e2
              · cases e
            · cases e1
          · cases e
        | [], _, e => simp [Tg.sets] at e
        | [_], _, e => simp only [Tg.sets, Tg.set] at e; split at e <;> cases e
        | _ :: _ :: _ :: _, _, e =>
          simp only [Tg.sets, Tg.set] at e
          split at e
          · split at e <;> cases e
          · cases e
      · exact q.elim
    · exact q.elim
omit ok R in
theorem par3_weak {i j l : Nat} {fs : Es} {D : Ends} {σ : St} {H : Hp} (h : tS G W (sSet (.tp [.nm i, .nm j, .nm l]) (eApp tupP fs)) D σ H) : tPar3 i j l (tEs G W fs) D σ H := by
  obtain ⟨ρ, μ, ι, w, ev, q⟩ := h
  refine ⟨ρ, μ, ι, w, ev, ?_⟩
  unfold sSet eApp at q
  cases hf : fs ρ μ with
  | ex x m => rw [hf] at q; exact fun H' ι' cls od g' w' r => q σ H' ι' cls od g' w' (ev.grow w g') r
  | er => rw [hf] at q; exact q
  | ok ds m =>
    rw [hf] at q
    intro vs H' ι' g' w' r
    have q : PsS G ι H W D ((tupP ds m).r.st ρ fun d μ1 => match Tg.set μ1 (.tp [.nm i, .nm j, .nm l]) d ρ with | some ρ' => .nx ρ' μ1 | none => .er) := q
    unfold tupP at q
    split at q
    · have q : PsS G ι H W D (match Tg.sets m [.nm i, .nm j, .nm l] ds ρ with | some ρ' => .nx ρ' m | none => .er) := q
      split at q
      · rename_i ρ' e
        match ds, r, e with
        | [d1, d2, d3], .cons r1 (.cons r2 (.cons r3 .nil)), e =>
          simp only [Tg.sets, Tg.set] at e
          split at e
          · rename_i ρ1 e1
            split at e1
            · cases e1
              split at e
              · rename_i ρ2 e2
                split at e2
                · cases e2
                  split at e
                  · rename_i ρ3 e3
                    split at e3
                    · cases e3
                      cases e
                      exact ⟨_, _, _, rfl, q _ H' ι' g' w' ((((ev.grow w g').set r1 i).set r2 j).set r3 l)⟩
                    · cases e3
                  · cases e
                · cases e2
              · cases e
            · cases e1
          · cases e
        | [], _, e => simp [Tg.sets] at e
        | [_], _, e => simp only [Tg.sets, Tg.set] at e; split at e <;> cases e
        | [_, _], _, e =>
          simp only [Tg.sets, Tg.set] at e
          split at e
          · split at e <;> cases e
          · cases e
        | _ :: _ :: _ :: _ :: _, _, e =>
          simp only [Tg.sets, Tg.set] at e
          split at e
          · split at e
            · split at e <;> cases e
            · cases e
          · cases e
      · exact q.elim
    · exact q.elim
theorem snd_S (hevlc : ∀ elt tg iter ifs scope pos, r.e c (.ListComp elt [⟨tg, iter, ifs, 0⟩] scope pos) = eEr ∨ ∃ r', RecOk r' ∧ r.e c (.ListComp elt [⟨tg, iter, ifs, 0⟩] scope pos) = evLc r' c elt tg iter ifs scope) (hevx : ∀ e, isComp e = true → (∀ elt tg iter ifs scope pos, e ≠ .ListComp elt [⟨tg, iter, ifs, 0⟩] scope pos) → r.e c e = eEr)
    (hevt : ∀ ts n p, r.e c (.Tuple ts n p) = eEr ∨ ∃ r', RecOk r' ∧ r.e c (.Tuple ts n p) = eApp tupP (evEs r' c ts)) (s : Stmt) : PS X s (tS (gx X T) W (stepS r c s)) := by
  have re := fun e => R.e X T W c k ok e
  have rt := fun e => R.t X T W c k ok e
  have noLc : ∀ {e : Expr} {st : Stmt} {t : Tg}, r.e c e = eEr → PS X st (tS (gx X T) W (sSet t (r.e c e))) := fun {e st t} h => by
    rw [h]
    exact ⟨fun _ _ _ _ _ _ ⟨_, _, _, _, _, q⟩ => q.elim⟩
  have nolc2 : ∀ {e : Expr} {t : Option Expr} {l : Nat}, isComp e = false → swapsWith e t l X.env = pure false := fun {e t l} h => by
    cases e <;> first | rfl | cases h
  unfold stepS
  split
  · exact ps_passE
  · exact ps_bkE
  · exact ps_ctE
  · exact ps_retNE
  · exact ps_retE (re _)
  · split
    · exact ps_er
    · rename_i h
      exact ps_exprE (re _) (nolc2 (by simpa using h))
  · exact ps_ifE (rt _) (snd_Ss ok R _) (snd_Ss ok R _)
  · exact ps_whileE ok.pass (rt _) (snd_Ss ok R _)
  · split
    · exact ps_er
    · rename_i h
      split
      · rename_i t ht
        exact ps_forE ok.pass ok.calm (snd_i ok R _ _) (snd_tg ok ht) (snd_Ss ok R _) (set_eq (by simpa using h))
      · exact ps_er
  · split
    · rename_i h
      rw [Bool.and_eq_true] at h
      exact ps_raiseE ok.calm ok.tk (ok.exc _ h.1) (gl_of ok h.2) (bad_dbg (glb_of h.2).2).1
    · exact ps_er
  · -- x = e
    rename_i x p e pos
    split
    · rename_i t ht
      by_cases hc : isComp e = true
      · by_cases hl : ∃ elt tg iter ifs scope pos, e = .ListComp elt [⟨tg, iter, ifs, 0⟩] scope pos
        · obtain ⟨elt, tg, iter, ifs, scope, p2, rfl⟩ := hl
          rcases hevlc elt tg iter ifs scope p2 with h | ⟨r', R', h⟩
          · exact noLc h
          · have hbk : X.env.blockKind = .function := by unfold Env.blockKind; rw [ok.fk]; rfl
            rw [h]
            cases hsw : (X.env.blockKind == .function && X.env.kindOf x == some .local && p.line == p2.line && !(scope.names.any fun (n, k) => n == x && (k == .local || k == .cell))) with
            | true =>
              have hsw' : swapsWith (.ListComp elt [⟨tg, iter, ifs, 0⟩] scope p2) (some (.Name x p)) pos.line X.env = pure true := by
                rw [← hsw]; rfl
              have hlo : X.env.scope.names.lookup x = some .local := by
                simp only [Bool.and_eq_true] at hsw
                exact eq_of_beq hsw.1.1.2
              exact snd_asgLc ok R' elt tg iter ifs scope p2 ht hsw' hlo
            | false =>
              have hsw' : swapsWith (.ListComp elt [⟨tg, iter, ifs, 0⟩] scope p2) (some (.Name x p)) pos.line X.env = pure false := by
                rw [← hsw]; rfl
              exact ps_setE (snd_lc ok R' elt tg iter ifs scope p2) (snd_tg ok ht) hsw' (by rfl) (by rfl)
        · exact noLc (hevx e hc fun elt tg iter ifs scope p2 h => hl ⟨elt, tg, iter, ifs, scope, p2, h⟩)
      · exact ps_setE (re e) (snd_tg ok ht) (show swapsWith e (some (.Name x p)) pos.line X.env = pure false from nolc2 (by simpa using hc)) (by cases e <;> rfl) (by rfl)
    · exact ps_er
  · -- a, b = e
    rename_i ts kk p e pos
    split
    · rename_i hsw
      split
      · rename_i t ht
        have hs1 : swapsWithSole [.Tuple ts kk p] e pos.line X.env = pure false := by
          show swapsWith e (some (.Tuple ts kk p)) pos.line X.env = pure false
          cases e <;> rfl
        by_cases he : ∃ vs k2 p2, e = .Tuple vs k2 p2
        · obtain ⟨vs, k2, p2, rfl⟩ := he
          unfold swOk at hsw
          dsimp only at hsw
          split at hsw
          · rename_i h
            rw [← ok.sc] at h
            exact ps_setE (re _) (snd_tg ok ht) hs1 (sw_eq ok.fk h) (by rfl)
          · rename_i ns h
            rw [← ok.sc] at h
            have hw := sw_eq (k1 := kk) (p1 := p) (k2 := k2) (p2 := p2) ok.fk h
            rcases hevt vs k2 p2 with h0 | ⟨r', R', h0⟩
            · exact noLc h0
            · rw [h0]
              split at hsw
              · rename_i x px y py a b
                simp only [Bool.and_eq_true, decide_eq_true_eq] at hsw
                obtain ⟨⟨⟨rfl, nxy⟩, hx⟩, hy⟩ := hsw
                obtain ⟨i, j, rfl, hi, hj⟩ := tgT2 ok ht
                have hij : i ≠ j := fun e => nxy (by rw [e, hj] at hi; cases hi; rfl)
                rw [← ok.sc] at hx hy
                exact (ps_par ok.calm ok.nd hi hj hij hx hy (snd_es ok R' [a, b]) hw).weak fun D σ H hh => par2_weak hh
              · rename_i x px y py z pz a b d
                simp only [Bool.and_eq_true, decide_eq_true_eq] at hsw
                obtain ⟨⟨⟨⟨rfl, nxy, nxz, nyz⟩, hx⟩, hy⟩, hz⟩ := hsw
                obtain ⟨i, j, l, rfl, hi, hj, hl⟩ := tgT3 ok ht
                have hij : i ≠ j := fun e => nxy (by rw [e, hj] at hi; cases hi; rfl)
                have hil : i ≠ l := fun e => nxz (by rw [e, hl] at hi; cases hi; rfl)
                have hjl : j ≠ l := fun e => nyz (by rw [e, hl] at hj; cases hj; rfl)
                rw [← ok.sc] at hx hy hz
                exact (ps_par3 ok.calm ok.nd hi hj hl hij hil hjl hx hy hz (snd_es ok R' [a, b, d]) hw).weak fun D σ H hh => par3_weak hh
              · cases hsw
          · cases hsw
        · exact ps_setE (re e) (snd_tg ok ht) hs1 (sw_none fun vs k2 p2 h => he ⟨vs, k2, p2, h⟩) (by rfl)
      · exact ps_er
    · exact ps_er
  · -- o[i] = e
    rename_i o i tp e pos
    split
    · exact ps_er
    · rename_i h
      have h : isSlice i = false := by simpa using h
      exact ps_subE (re o) (re i) (re e) (by show swapsWith e (some (.Subscript o i tp)) pos.line X.env = pure false; cases e <;> rfl) (by cases e <;> rfl) (fun v => by cases i <;> first | rfl | cases h) (by rfl)
  · exact ps_er
end
theorem rec_ok : ∀ n, RecOk (recN n)
  | 0 => ⟨fun _ _ _ _ _ _ _ => pe_er, fun _ _ _ _ _ _ _ => pt_er, fun _ _ _ _ _ _ _ => ps_er, fun _ _ _ _ _ _ _ _ _ => ⟨fun _ _ _ _ _ _ _ ⟨_, _, _, _, _, q⟩ => q.elim⟩⟩
  | n + 1 => by
    have R := rec_ok n
    refine ⟨fun X T W c k ok e => snd_E ok R e, fun X T W c k ok e => snd_T ok R e, fun X T W c k ok s => ?_, fun X T W c k ok op es pos => snd_W ok R op es pos⟩
    refine snd_S ok R (fun elt tg iter ifs scope pos => ?_) (fun e h1 h2 => ?_) (fun ts k p => ?_) s
    · cases n with
      | zero => exact .inl rfl
      | succ m => exact .inr ⟨recN m, rec_ok m, rfl⟩
    · cases n with
      | zero => rfl
      | succ m =>
        show stepE (recN m) c e = eEr
        unfold stepE
        split <;> first
          | rfl
          | (cases h1; done)
          | exact absurd rfl (h2 _ _ _ _ _ _)
    · cases n with
      | zero => exact .inl rfl
      | succ m => exact .inr ⟨recN m, rec_ok m, rfl⟩
end Ev

set_option Elab.async false
set_option linter.all false
set_option maxRecDepth 100000
set_option maxHeartbeats 4000000
namespace Ev
open PySem PySem.Spec PyProof.Rows L2 HotX
/-! ### the ends of iterators while an exception is handled -/
section
variable {prog : Program} {w : World} {A : Around} {E : Value → Shared → Prop} {s : Shared}
theorem HotAt.ne {x1 b : Addr} {o : Obj} {h : Heap} (hot : HotAt A x1 h) (e : h.get? b = some o) (n : ∀ vs : Array Value, o.data = .fields vs → vs[2]? ≠ some .none) : x1 ≠ b := fun z => by
  obtain ⟨_, o1, vs, h1, d1, c1⟩ := hot
  rw [z, e] at h1
  cases h1
  exact n vs d1 c1
theorem HotAt.to {x1 it : Addr} {h h' : Heap} (hot : HotAt A x1 h) (ne : x1 ≠ it) (k : Heap.ExtBut it h h') : HotAt A x1 h' := by
  obtain ⟨hh, o1, vs, h1, d1, c1⟩ := hot
  exact ⟨hh, o1, vs, k _ _ ne h1, d1, c1⟩
theorem newStop_hot {α : Type} {x1 : Addr} {Q : α → Shared → Prop} (hot : HotAt A x1 s.heap)
    (hE : ∀ h' e, (∀ b o, s.heap.get? b = some o → h'.get? b = some o) → (∃ o, h'.get? e = some o ∧ o.cls = .type "StopIteration") → E (.ref e) { s with heap := h' }) :
    wpAny (model prog w) A (newExc (.type "StopIteration") [] >>= fun e => (raiseNew e : Sem α)) Q E s := by
  obtain ⟨hh, o1, vs1, h1, d1, c1⟩ := hot
  refine wpAny_bind ?_
  simp only [newExc, newTuple]
  refine wpAny_bind (wpAny_newObj_type ?_ (by size_fits))
  refine wpAny_bind (m := firstArgMember _ _) (wpAny_of_eq (a := Value.none) (by first | rfl | (simp only [firstArgMember]; rfl)) ?_)
  refine wpAny_newObj_type ?_ (by size_fits)
  refine raiseNew_hot ⟨hh, o1, vs1, Heap.get?_push_of_some _ (Heap.get?_push_of_some _ h1), d1, c1⟩ (Nat.ne_of_lt (Heap.lt_size (Heap.get?_push_of_some _ h1))) (Heap.get?_push_size _ rfl) rfl (by first | (simp; done) | (simp; omega) | (simp only [Array.size_append]; simp; omega)) ?_
  refine hE _ _ (fun b o e => ?_) ⟨_, Heap.get?_update_self _ (Heap.get?_push_size _ rfl) rfl, rfl⟩
  rw [Heap.get?_update_other _ _ (Nat.ne_of_gt (Heap.lt_size (Heap.get?_push_of_some _ e)))]
  exact Heap.get?_push_of_some _ (Heap.get?_push_of_some _ e)
theorem nextOf_list_end_hot {it l x1 : Addr} {i : Nat} {items} {Q : Value → Shared → Prop} (hot : HotAt A x1 s.heap)
    (hit : s.heap.IsListIter it l i) (hl : s.heap.IsList l items) (hx : items[i]? = none)
    (hE : ∀ h' e, Heap.ExtBut it s.heap h' → (∃ o, h'.get? e = some o ∧ o.cls = .type "StopIteration") → E (.ref e) { s with heap := h' }) :
    wpAny (model prog w) A (Builtin.SmallTypes.nextOf (.ref it)) Q E s := by
  obtain ⟨o, ho, hc, hd⟩ := id hit
  obtain ⟨ol, hol, _, nl, hdl⟩ := hl
  have hne : x1 ≠ it := HotAt.ne hot ho fun vs e => by
    rw [hd] at e
    cases e
    simp
  obtain ⟨hh, o1, vs1, h1, d1, c1⟩ := hot
  unfold Builtin.SmallTypes.nextOf
  refine wpAny_bind (wpAny_callSpecial?_slot (name := Str.ofString "__next__") hit.typeIs slot_listiter_next
    (wpAny_call_entry slot_listiter_next hit.typeIs entry_listiter_next ?_ (args_listiter_next _)))
  show wpAny _ _ (field (.ref it) 0 >>= _) _ _ s
  refine wpAny_bind (wpAny_field ho hd (x := .ref l) rfl ?_)
  show wpAny _ _ (if (Value.ref l == Value.none) = true then _ else _) _ _ s
  rw [if_neg (show ¬ ((Value.ref l == Value.none) = true) from Bool.false_ne_true)]
  show wpAny _ _ (field (.ref it) 1 >>= _) _ _ s
  refine wpAny_bind (wpAny_field ho hd (x := .int i 0) rfl ?_)
  show wpAny _ _ (seqItems? (.ref l) >>= _) _ _ s
  refine wpAny_bind (wpAny_seqItems hol hdl ?_)
  simp only [Int.toNat_natCast, hx]
  refine wpAny_bind (wpAny_rule (wpAny_bind (wpAny_setField ho hd (by simp) ?_)))
  have hs' := Heap.SameBut.update (h := s.heap) (a := it) (f := Obj.mapFields (·.setIfInBounds 0 Value.none))
  exact newStop_hot (HotAt.to ⟨hh, o1, vs1, h1, d1, c1⟩ hne hs'.extBut) fun h' e k he => hE h' e (fun b o hb q => k b o (hs'.extBut b o hb q)) he
theorem zip_next_end_hot {z TI TO i1 i2 l1 l2 x1 : Addr} {k1 k2 : Nat} {xs ys : Array Value} {a b : Value} {Q : Fin → Shared → Prop} (hot : HotAt A x1 s.heap) (D : ZipApart z TI TO i1 i2 l1 l2)
    (hz : IsZip s.heap z TI TO .none) (hTI : IsPair s.heap TI (.ref i1) (.ref i2)) (hTO : IsPair s.heap TO a b)
    (h1 : s.heap.IsListIter i1 l1 k1) (h2 : s.heap.IsListIter i2 l2 k2) (hl1 : s.heap.IsList l1 xs) (hl2 : s.heap.IsList l2 ys) (hend : xs[k1]? = none ∨ ys[k2]? = none)
    (hE : ∀ h' e, (∀ c o, c ≠ z → c ≠ TO → c ≠ i1 → c ≠ i2 → s.heap.get? c = some o → h'.get? c = some o) → (∃ o, h'.get? e = some o ∧ o.cls = .type "StopIteration") → E (.ref e) { s with heap := h' }) :
    wpAny (model prog w) A (Builtin.«zip.__next__» ⟨[.ref z], []⟩) Q E s := by
  have nz : x1 ≠ z := HotAt.ne hot hz fun vs e => by cases e; simp
  have nTO : x1 ≠ TO := HotAt.ne hot hTO fun vs e => by cases e
  have n1 : x1 ≠ i1 := by
    obtain ⟨o, e, _, d⟩ := id h1
    exact HotAt.ne hot e fun vs e => by rw [d] at e; cases e; simp
  show wpAny _ _ (field (.ref z) 2 >>= _) _ _ _
  refine wpAny_bind (wpAny_field hz rfl (x := .bool false) rfl ?_)
  show wpAny _ _ (field (.ref z) 3 >>= _) _ _ _
  refine wpAny_bind (wpAny_field hz rfl (x := .ref TI) rfl ?_)
  refine wpAny_bind (wpAny_seqItems hTI rfl ?_)
  show wpAny _ _ (Builtin.SmallTypes.ownedTupleIsFree (.ref z) >>= _) _ _ _
  refine wpAny_bind ?_
  unfold Builtin.SmallTypes.ownedTupleIsFree
  refine wpAny_bind (wpAny_field hz rfl (x := .none) rfl (wpAny_pure ?_))
  simp only [if_true]
  refine wpAny_bind (wpAny_rule ?_)
  refine wpAny_bind (wpAny_field hz rfl (x := .ref TO) rfl ?_)
  refine wpAny_bind (wpAny_setField_rec hz (by simp) fun h₁ hz₁ hs₁ => ?_)
  replace hz₁ : IsZip h₁ z TI TO .ellipsis := hz₁
  have hot₁ : HotAt A x1 h₁ := HotAt.to hot nz hs₁.extBut
  refine wpAny_bind ?_
  simp only [List.zipIdx_cons, List.zipIdx_nil, List.forIn_cons, List.forIn_nil]
  refine wpAny_bind (wpAny_bind (wpAny_onRaise ?_))
  show wpAny _ _ (Builtin.SmallTypes.nextOf (.ref i1) >>= _) _ _ _
  cases hx : xs[k1]? with
  | none =>
    refine wpAny_bind (nextOf_list_end_hot hot₁ (h1.extBut hs₁.extBut D.i1z) (hl1.extBut hs₁.extBut D.l1z) hx fun h₂ e hs₂ he => ?_)
    obtain ⟨oe, hoe, hce⟩ := he
    have hz₂ : IsZip h₂ z TI TO .ellipsis := hs₂ _ _ D.i1z.symm hz₁
    have hez : e ≠ z := fun x => by subst x; rw [hz₂] at hoe; cases hoe; simp at hce
    refine wpAny_setField_rec hz₂ (by simp) fun h₃ _ hs₃ => hE h₃ e (fun c o c1 _ c3 _ x => hs₃.extBut _ _ c1 (hs₂ _ _ c3 (hs₁.extBut _ _ c1 x))) ⟨oe, hs₃.extBut _ _ hez hoe, hce⟩
  | some x =>
    have hy : ys[k2]? = none := by rcases hend with h | h; rw [hx] at h; cases h; exact h
    refine wpAny_bind (wpAny_nextOf_list_item (h1.extBut hs₁.extBut D.i1z) (hl1.extBut hs₁.extBut D.l1z) hx fun h₂ h1₂ hs₂ => wpAny_pure ?_)
    have hTO₂ : IsPair h₂ TO a b := hs₂.extBut _ _ D.TOi1 (hs₁.extBut _ _ D.TOz hTO)
    refine wpAny_bind (wpAny_seqItems hTO₂ rfl ?_)
    refine wpAny_bind (wpAny_updateSeq_pair hTO₂ fun h₃ hTO₃ hs₃ => ?_)
    refine wpAny_bind (wpAny_letGo (wpAny_pure ?_))
    refine wpAny_bind (wpAny_bind (wpAny_onRaise ?_))
    have hot₃ : HotAt A x1 h₃ := HotAt.to (HotAt.to hot₁ n1 hs₂.extBut) nTO hs₃.extBut
    show wpAny _ _ (Builtin.SmallTypes.nextOf (.ref i2) >>= _) _ _ _
    refine wpAny_bind (nextOf_list_end_hot hot₃ (((h2.extBut hs₁.extBut D.i2z).extBut hs₂.extBut D.i12.symm).extBut hs₃.extBut D.TOi2.symm)
      (((hl2.extBut hs₁.extBut D.l2z).extBut hs₂.extBut D.l2i1).extBut hs₃.extBut D.l2TO) hy fun h₄ e hs₄ he => ?_)
    obtain ⟨oe, hoe, hce⟩ := he
    have hz₄ : IsZip h₄ z TI TO .ellipsis := hs₄ _ _ D.i2z.symm (hs₃.extBut _ _ D.TOz.symm (hs₂.extBut _ _ D.i1z.symm hz₁))
    have hez : e ≠ z := fun x => by subst x; rw [hz₄] at hoe; cases hoe; simp at hce
    refine wpAny_setField_rec hz₄ (by simp) fun h₅ _ hs₅ => hE h₅ e (fun c o c1 c2 c3 c4 x => hs₅.extBut _ _ c1 (hs₄ _ _ c4 (hs₃.extBut _ _ c2 (hs₂.extBut _ _ c3 (hs₁.extBut _ _ c1 x))))) ⟨oe, hs₅.extBut _ _ hez hoe, hce⟩
theorem pyNext_zip_end_hot {z TI TO i1 i2 l1 l2 x1 : Addr} {k1 k2 : Nat} {xs ys : Array Value} {a b : Value} {Q : Option Value → Shared → Prop} (hot : HotAt A x1 s.heap) (D : ZipApart z TI TO i1 i2 l1 l2)
    (hz : IsZip s.heap z TI TO .none) (hTI : IsPair s.heap TI (.ref i1) (.ref i2)) (hTO : IsPair s.heap TO a b)
    (h1 : s.heap.IsListIter i1 l1 k1) (h2 : s.heap.IsListIter i2 l2 k2) (hl1 : s.heap.IsList l1 xs) (hl2 : s.heap.IsList l2 ys) (hend : xs[k1]? = none ∨ ys[k2]? = none)
    (hQ : ∀ h', (∀ c o, c ≠ z → c ≠ TO → c ≠ i1 → c ≠ i2 → s.heap.get? c = some o → h'.get? c = some o) → Q none { s with heap := h' }) : wpAny (model prog w) A (pyNext (.ref z)) Q E s := by
  have hT : s.TypeIs (.ref z) "zip" := ⟨_, hz, rfl⟩
  unfold pyNext
  refine wpAny_bind (wpAny_attempt (wpAny_callSpecial?_slot (name := Str.ofString "__next__") hT F.slot_zip_next
    (wpAny_call_entry F.slot_zip_next hT F.entry_zip_next (zip_next_end_hot hot D hz hTI hTO h1 h2 hl1 hl2 hend fun h' e hk he => ?_) (F.args_zip_next_1 _))))
  obtain ⟨o, ho, hc⟩ := he
  refine wpAny_bind (wpAny_isInstance (T := "StopIteration") (b := true) ⟨o, ho, hc⟩ isSubtype_stop ?_)
  exact wpAny_pure (hQ _ hk)
/-! ### a tuple taken apart -/
theorem next_tuple_end_hot {it t x1 : Addr} {i : Nat} {items} {Q : Option Value → Shared → Prop} (hot : HotAt A x1 s.heap)
    (hit : IsTupIter s.heap it t i) (ht : IsTup s.heap t items) (hx : items[i]? = none)
    (hQ : ∀ h', Heap.ExtBut it s.heap h' → Q none { s with heap := h' }) : wpAny (model prog w) A (pyNext (.ref it)) Q E s := by
  obtain ⟨o, ho, hc, hd⟩ := id hit
  obtain ⟨ol, hol, _, nl, hdl⟩ := ht
  have hne : x1 ≠ it := HotAt.ne hot ho fun vs e => by
    rw [hd] at e
    cases e
    simp
  obtain ⟨hh, o1, vs1, h1, d1, c1⟩ := hot
  unfold pyNext
  refine wpAny_bind (wpAny_attempt (wpAny_callSpecial?_slot (name := Str.ofString "__next__") hit.typeIs slot_tupleiter_next
    (wpAny_call_entry slot_tupleiter_next hit.typeIs entry_tupleiter_next ?_ (args_tupleiter_next _))))
  show wpAny _ _ (field (.ref it) 0 >>= _) _ _ s
  refine wpAny_bind (wpAny_field ho hd (x := .ref t) rfl ?_)
  show wpAny _ _ (if (Value.ref t == Value.none) = true then _ else _) _ _ s
  rw [if_neg (show ¬ ((Value.ref t == Value.none) = true) from Bool.false_ne_true)]
  show wpAny _ _ (field (.ref it) 1 >>= _) _ _ s
  refine wpAny_bind (wpAny_field ho hd (x := .int i 0) rfl ?_)
  show wpAny _ _ (seqItems? (.ref t) >>= _) _ _ s
  refine wpAny_bind (wpAny_seqItems hol hdl ?_)
  simp only [Int.toNat_natCast, hx]
  refine wpAny_bind (wpAny_rule (wpAny_bind (wpAny_setField ho hd (by simp) ?_)))
  have hs' := Heap.SameBut.update (h := s.heap) (a := it) (f := Obj.mapFields (·.setIfInBounds 0 Value.none))
  refine newStop_hot (HotAt.to ⟨hh, o1, vs1, h1, d1, c1⟩ hne hs'.extBut) fun h' e k ⟨oe, h1, h2⟩ => ?_
  refine wpAny_bind (wpAny_isInstance (T := "StopIteration") (b := true) ⟨oe, h1, h2⟩ isSubtype_stop ?_)
  exact wpAny_pure (hQ _ fun b o hb q => k b o (hs'.extBut b o hb q))
theorem next_list_end_hot {it l x1 : Addr} {i : Nat} {items} {Q : Option Value → Shared → Prop} (hot : HotAt A x1 s.heap)
    (hit : s.heap.IsListIter it l i) (hl : s.heap.IsList l items) (hx : items[i]? = none)
    (hQ : ∀ h', Heap.ExtBut it s.heap h' → Q none { s with heap := h' }) : wpAny (model prog w) A (pyNext (.ref it)) Q E s := by
  obtain ⟨o, ho, hc, hd⟩ := id hit
  obtain ⟨ol, hol, _, nl, hdl⟩ := hl
  have hne : x1 ≠ it := HotAt.ne hot ho fun vs e => by
    rw [hd] at e
    cases e
    simp
  obtain ⟨hh, o1, vs1, h1, d1, c1⟩ := hot
  unfold pyNext
  refine wpAny_bind (wpAny_attempt (wpAny_callSpecial?_slot (name := Str.ofString "__next__") hit.typeIs slot_listiter_next
    (wpAny_call_entry slot_listiter_next hit.typeIs entry_listiter_next ?_ (args_listiter_next _))))
  show wpAny _ _ (field (.ref it) 0 >>= _) _ _ s
  refine wpAny_bind (wpAny_field ho hd (x := .ref l) rfl ?_)
  show wpAny _ _ (if (Value.ref l == Value.none) = true then _ else _) _ _ s
  rw [if_neg (show ¬ ((Value.ref l == Value.none) = true) from Bool.false_ne_true)]
  show wpAny _ _ (field (.ref it) 1 >>= _) _ _ s
  refine wpAny_bind (wpAny_field ho hd (x := .int i 0) rfl ?_)
  show wpAny _ _ (seqItems? (.ref l) >>= _) _ _ s
  refine wpAny_bind (wpAny_seqItems hol hdl ?_)
  simp only [Int.toNat_natCast, hx]
  refine wpAny_bind (wpAny_rule (wpAny_bind (wpAny_setField ho hd (by simp) ?_)))
  have hs' := Heap.SameBut.update (h := s.heap) (a := it) (f := Obj.mapFields (·.setIfInBounds 0 Value.none))
  refine newStop_hot (HotAt.to ⟨hh, o1, vs1, h1, d1, c1⟩ hne hs'.extBut) fun h' e k ⟨oe, h1, h2⟩ => ?_
  refine wpAny_bind (wpAny_isInstance (T := "StopIteration") (b := true) ⟨oe, h1, h2⟩ isSubtype_stop ?_)
  exact wpAny_pure (hQ _ fun b o hb q => k b o (hs'.extBut b o hb q))
theorem unpackItems_list_hot {t x1 : Addr} {items : Array Value} {Q : List Value → Shared → Prop} (hot : HotAt A x1 s.heap) (ht : s.heap.IsList t items)
    (hQ : ∀ h', Heap.ExtBut s.heap.objs.size s.heap h' → Q items.toList { s with heap := h' }) : wpAny (model prog w) A (unpackItems (.ref t) items.size none) Q E s := by
  have hlt : t ≠ s.heap.objs.size := by obtain ⟨o, ho, _⟩ := ht; exact Nat.ne_of_lt (Heap.lt_size ho)
  have hx1 : x1 ≠ s.heap.objs.size := by obtain ⟨_, o, _, ho, _⟩ := hot; exact Nat.ne_of_lt (Heap.lt_size ho)
  unfold unpackItems
  refine wpAny_bind ?_
  · unfold notIterableAtAll
    refine wpAny_bind (wpAny_specialOf ht.typeIs slot_list_iter.lookup ?_)
    refine wpAny_pure ?_
    simp only [Bool.false_eq_true, if_false]
    refine wpAny_bind (wpAny_holding (wpAny_pyIter_list ht ?_))
    refine wpAny_bind (wpAny_holding (PySem.W.kun_draw hlt items.size 0 _ _ ⟨_, Heap.get?_push_size _ rfl, rfl, rfl⟩ (ht.push _) (by omega) fun h₁ hit₁ hs₁ => ?_))
    have hall : List.take items.size (List.drop 0 items.toList) = items.toList := by
      rw [List.drop_zero]; exact List.take_of_length_le (by simp)
    rw [hall]
    rw [if_neg (by simp)]
    have ht₁ : h₁.IsList t items := (ht.push _).extBut hs₁.extBut hlt
    have hot₁ : HotAt A x1 h₁ := HotAt.to hot hx1 fun b o hb e => hs₁.extBut b o hb (Heap.get?_push_of_some _ e)
    refine wpAny_bind (wpAny_holding (next_list_end_hot hot₁ hit₁ ht₁ (by simp) fun h₂ he₂ => ?_))
    simp only [Option.isSome_none, Bool.false_eq_true, if_false]
    refine wpAny_pure (hQ h₂ fun b o hb e => he₂ b o hb (hs₁.extBut b o hb (Heap.get?_push_of_some _ e)))
theorem assign_Tuple_list_hot {env : PySem.Env} {elts : List Expr} {x1} {pos : Pos} {t x : Addr} {items : Array Value} {Q : Unit → Shared → Prop} (hot : HotAt A x s.heap) (ht : s.heap.IsList t items)
    (hn : (assignEach elts env).length = items.size) (hstar : (assignEach elts env).findIdx? (·.1) = none)
    (h : ∀ h', Heap.ExtBut s.heap.objs.size s.heap h' → wpAny (model prog w) A (assignInOrder ((assignEach elts env).map (·.2)) items.toList) Q E { s with heap := h' }) :
    wpAny (model prog w) A (assign (.Tuple elts x1 pos) env (.ref t)) Q E s := by
  rw [assign_Tuple]
  refine wpAny_bind (wpAny_standAt ?_)
  unfold unpack
  rw [hn, hstar]
  exact wpAny_bind (wpAny_holding (unpackItems_list_hot hot ht h))
theorem unpackItems_tuple_hot {t x1 : Addr} {items : Array Value} {Q : List Value → Shared → Prop} (hot : HotAt A x1 s.heap) (ht : IsTup s.heap t items)
    (hQ : ∀ h', Heap.ExtBut s.heap.objs.size s.heap h' → Q items.toList { s with heap := h' }) : wpAny (model prog w) A (unpackItems (.ref t) items.size none) Q E s := by
  have hlt : t ≠ s.heap.objs.size := by obtain ⟨o, ho, _⟩ := ht; exact Nat.ne_of_lt (Heap.lt_size ho)
  have hx1 : x1 ≠ s.heap.objs.size := by obtain ⟨_, o, _, ho, _⟩ := hot; exact Nat.ne_of_lt (Heap.lt_size ho)
  unfold unpackItems
  refine wpAny_bind ?_
  · unfold notIterableAtAll
    refine wpAny_bind (wpAny_specialOf ht.typeIs slot_tuple_iter.lookup ?_)
    refine wpAny_pure ?_
    simp only [Bool.false_eq_true, if_false]
    refine wpAny_bind (wpAny_holding (iter_tuple ht ?_))
    refine wpAny_bind (wpAny_holding (draw_tuple hlt items.size 0 _ _ ⟨_, Heap.get?_push_size _ rfl, rfl, rfl⟩ (ht.push _) (by omega) fun h₁ hit₁ hs₁ => ?_))
    have hall : List.take items.size (List.drop 0 items.toList) = items.toList := by
      rw [List.drop_zero]; exact List.take_of_length_le (by simp)
    rw [hall]
    rw [if_neg (by simp)]
    have ht₁ : IsTup h₁ t items := (ht.push _).extBut hs₁.extBut hlt
    have hot₁ : HotAt A x1 h₁ := HotAt.to hot hx1 fun b o hb e => hs₁.extBut b o hb (Heap.get?_push_of_some _ e)
    refine wpAny_bind (wpAny_holding (next_tuple_end_hot hot₁ hit₁ ht₁ (by simp) fun h₂ he₂ => ?_))
    simp only [Option.isSome_none, Bool.false_eq_true, if_false]
    refine wpAny_pure (hQ h₂ fun b o hb e => he₂ b o hb (hs₁.extBut b o hb (Heap.get?_push_of_some _ e)))
theorem assign_Tuple_tuple_hot {env : PySem.Env} {elts : List Expr} {x1} {pos : Pos} {t x : Addr} {items : Array Value} {Q : Unit → Shared → Prop} (hot : HotAt A x s.heap) (ht : IsTup s.heap t items)
    (hn : (assignEach elts env).length = items.size) (hstar : (assignEach elts env).findIdx? (·.1) = none)
    (h : ∀ h', Heap.ExtBut s.heap.objs.size s.heap h' → wpAny (model prog w) A (assignInOrder ((assignEach elts env).map (·.2)) items.toList) Q E { s with heap := h' }) :
    wpAny (model prog w) A (assign (.Tuple elts x1 pos) env (.ref t)) Q E s := by
  rw [assign_Tuple]
  refine wpAny_bind (wpAny_standAt ?_)
  unfold unpack
  rw [hn, hstar]
  exact wpAny_bind (wpAny_holding (unpackItems_tuple_hot hot ht h))
end
/-! ### the same for the rules: hotness as a premise at the state -/
def Hot (A : Around) (pins : List (Addr × Obj)) : Prop := ∃ p ∈ pins, L2H.Hot1 A p
theorem Hot.at {X : Cx} {pins : List (Addr × Obj)} {σ : St} {H : Hp} {s : Shared} (c : Hot X.A (X.pn ++ pins)) (I : Inv X pins σ H s) : ∃ x1, HotAt X.A x1 s.heap := by
  obtain ⟨p, hp, hh, v1, e1, c1⟩ := c
  exact ⟨p.1, hh, p.2, v1, (I.pin p hp).1, e1, c1⟩
theorem Hot.mono {A : Around} {l l' : List (Addr × Obj)} (h : Hot A l) (k : ∀ p ∈ l, p ∈ l') : Hot A l' := let ⟨p, hp, q⟩ := h; ⟨p, k p hp, q⟩
structure PGH (X : Cx) (tg : Expr) (t : TG) : Prop where
  run : ∀ (pins : List (Addr × Obj)) (s : Shared) (σ : St) (H : Hp) (v : V) (u : Value) (Q : St → Hp → Prop), Hot X.A (X.pn ++ pins) → Inv X pins σ H s → RelV v u → t v σ H Q →
    wpAny (model X.prog X.w) X.A (assign tg X.env u) (fun _ s' => ∃ σ' H', Inv X pins σ' H' s' ∧ Q σ' H') X.xe s
theorem pgH_tup {X : Cx} {es : List Expr} {k : Nat} {t : TGs} {n : Nat} {pos : Pos} (h : PGs X es t)
    (hn : (assignEach es X.env).length = n) (hst : (assignEach es X.env).findIdx? (·.1) = none) : PGH X (.Tuple es k pos) (gTup X.K n t) := by
  refine ⟨fun pins s σ H v u Q hot I r hw => ?_⟩
  obtain ⟨a, xs, e1, hq, hl, hw⟩ := hw
  subst e1
  cases r
  obtain ⟨its, rv, ht, hz⟩ := I.tuple hq
  obtain ⟨x1, ha⟩ := hot.at I
  refine assign_Tuple_tuple_hot ha ht (by simp [hn, ← hl, rv.length]) hst fun h' hx => ?_
  have I1 : Inv X pins σ H { s with heap := h' } := I.kept (t' := s.toks) fun b o e => hx b o (Nat.ne_of_lt (Heap.lt_size e)) e
  exact h.run pins _ σ H xs _ Q I1 (by simpa using rv) hw
theorem pgH_lst {X : Cx} {es : List Expr} {k : Nat} {t : TGs} {n : Nat} {pos : Pos} (h : PGs X es t)
    (hn : (assignEach es X.env).length = n) (hst : (assignEach es X.env).findIdx? (·.1) = none) : PGH X (.Tuple es k pos) (gLst X.K n t) := by
  refine ⟨fun pins s σ H v u Q hot I r hw => ?_⟩
  obtain ⟨a, xs, e1, hq, hl, hw⟩ := hw
  subst e1
  cases r
  obtain ⟨its, rv, pl, hz⟩ := I.list hq
  obtain ⟨x1, ha⟩ := hot.at I
  refine assign_Tuple_list_hot ha pl.isList (by simp [hn, ← hl, rv.length]) hst fun h' hx => ?_
  have I1 : Inv X pins σ H { s with heap := h' } := I.kept (t' := s.toks) fun b o e => hx b o (Nat.ne_of_lt (Heap.lt_size e)) e
  exact h.run pins _ σ H xs _ Q I1 (by simpa using rv) hw
theorem PGH.or {X : Cx} {tg : Expr} {t u : TG} (h : PGH X tg t) (h' : PGH X tg u) : PGH X tg (fun v σ H Q => t v σ H Q ∨ u v σ H Q) := ⟨fun pins s σ H v w Q hot I r q => q.elim (h.run pins s σ H v w Q hot I r) (h'.run pins s σ H v w Q hot I r)⟩
end Ev

set_option Elab.async false
set_option linter.all false
set_option maxRecDepth 100000
set_option maxHeartbeats 4000000
namespace Ev
open PySem PySem.Spec PyProof.Rows L2 HotX
structure TurnZ (P : Program) (w : World) (K : PySem.W.Frag) (tg : Expr) (J : It) (fp : List Addr) (it : Addr) (tn : Nat → Heap → Prop) : Prop where
  mem : it ∈ fp
  obj : ∀ i h, tn i h → ∀ b ∈ fp, ∃ o, h.get? b = some o ∧ ∀ v, o.data ≠ .cell v
  keep : ∀ i h h', tn i h → (∀ b ∈ fp, ∀ o, h.get? b = some o → h'.get? b = some o) → tn i h'
  item : ∀ (X : Cx), X.prog = P → X.w = w → X.K = K → ∀ (i : Nat) (pins : List (Addr × Obj)) (s : Shared) (σ : St) (H : Hp) (E : Value → Shared → Prop), Inv X pins σ H s → (∀ b ∈ fp, FpOk X pins H b) → tn i s.heap → J.go i H →
    wpAny (model P w) X.A (pyNext (.ref it)) (fun r s1 => ∃ u, r = some u ∧
      wpAny (model P w) X.A (letOwnedTupleGo tg (.ref it) u) (fun _ s2 => ∃ x H', Inv X pins σ H' s2 ∧ RelV x u ∧ J.yld i H x H' ∧ tn (i + 1) s2.heap ∧ ∀ b ∈ fp, H' b = none) E s1) E s
  done : ∀ (X : Cx), X.prog = P → X.w = w → X.K = K → ∀ (i : Nat) (pins : List (Addr × Obj)) (s : Shared) (σ : St) (H : Hp) (E : Value → Shared → Prop), (∃ x1, HotAt X.A x1 s.heap) → Inv X pins σ H s → (∀ b ∈ fp, FpOk X pins H b) → tn i s.heap → J.stop i H →
    wpAny (model P w) X.A (pyNext (.ref it)) (fun r s1 => r = none ∧ Inv X pins σ H s1) E s
  self : ∀ (A : Around) (i : Nat) (s : Shared) (Q : Value → Shared → Prop) (E : Value → Shared → Prop), tn i s.heap → Q (.ref it) s → wpAny (model P w) A (pyIter (.ref it)) Q E s
theorem turn_zipZ {P : Program} {w : World} {K : PySem.W.Frag} {elts : List Expr} {kk : Nat} {tpos : Pos} {a b z TI TO i1 i2 : Addr} (D : ZipApart z TI TO i1 i2 a b) :
    TurnZ P w K (.Tuple elts kk tpos) (Itz K a b) [z, TI, TO, i1, i2] z (fun i h => IsZip h z TI TO .none ∧ IsPair h TI (.ref i1) (.ref i2) ∧ (∃ x y, IsPair h TO x y) ∧ h.IsListIter i1 a i ∧ h.IsListIter i2 b i) where
  mem := by simp
  obj := fun i h st c hc => by
    obtain ⟨hz, hTI, ⟨x, y, hTO⟩, ⟨o1, e1, _, d1⟩, ⟨o2, e2, _, d2⟩⟩ := st
    have e' : c = z ∨ c = TI ∨ c = TO ∨ c = i1 ∨ c = i2 := by simpa using hc
    rcases e' with q | q | q | q | q
    · rw [q]; exact ⟨_, hz, fun v q => nomatch q⟩
    · rw [q]; exact ⟨_, hTI, fun v q => nomatch q⟩
    · rw [q]; exact ⟨_, hTO, fun v q => nomatch q⟩
    · rw [q]; exact ⟨o1, e1, fun v q => by rw [d1] at q; cases q⟩
    · rw [q]; exact ⟨o2, e2, fun v q => by rw [d2] at q; cases q⟩
  keep := fun i h h' st k => by
    obtain ⟨hz, hTI, ⟨x, y, hTO⟩, h1, h2⟩ := st
    exact ⟨k z (by simp) _ hz, k TI (by simp) _ hTI, ⟨x, y, k TO (by simp) _ hTO⟩, h1.at fun o q => k i1 (by simp) o q, h2.at fun o q => k i2 (by simp) o q⟩
  item := by
    intro X hP hw hK i pins s σ H E I hf st hg
    subst hP hw hK
    obtain ⟨hz, hTI, ⟨x0, y0, hTO⟩, h1, h2⟩ := st
    obtain ⟨xs, ys, x, y, hqx, hqy, hx, hy⟩ := hg
    obtain ⟨its, rv, p, _⟩ := I.list hqx
    obtain ⟨its2, rv2, p2, _⟩ := I.list hqy
    obtain ⟨u, hu, ru⟩ := rv.get hx
    obtain ⟨u2, hu2, ru2⟩ := rv2.get hy
    have hzl : z < s.heap.objs.size := Heap.lt_size hz
    refine wpAny_pyNext_zip_item D hz hTI hTO h1 h2 p.isList p2.isList (x := u) (y := u2) (by simpa using hu) (by simpa using hu2) fun h' z' TO' h1' h2' hT hsz hk => ?_
    refine ⟨_, rfl, wpAny_letOwnedTupleGo_zip (s := { s with heap := h' }) z' fun h'' z'' sb => ?_⟩
    have hT2 : h''.get? s.heap.objs.size = some { cls := .type "tuple", data := .seq #[u, u2] } := (sb.2 _ (Nat.ne_of_gt hzl)).trans hT
    have new : ObjOk X.prog X.w (upd H s.heap.objs.size (.tup [x, y])) h'' s.heap.objs.size (.tup [x, y]) :=
      ⟨by show 2 ≤ sizeLine; decide, [u, u2], .cons ru (.cons ru2 .nil), ⟨_, hT2, rfl, _, rfl⟩⟩
    have I1 : Inv X pins σ (upd H s.heap.objs.size (.tup [x, y])) { s with heap := h'' } :=
      I.turnedNew (t' := s.toks) (ch := [z, TI, TO, i1, i2]) (fun c o hb q => (sb.2 c (fun q' => hb (by simp [q']))).trans (hk c o (fun q' => hb (by simp [q'])) (fun q' => hb (by simp [q'])) (fun q' => hb (by simp [q'])) (fun q' => hb (by simp [q'])) q)) hf (Nat.le_refl _) new
    refine ⟨.ref s.heap.objs.size, _, I1, rfl, ⟨_, x, y, rfl, I.hok.fresh (Nat.le_refl _), rfl, fun l hl => by rw [I.list_inj hl hqx]; exact hx, fun l hl => by rw [I.list_inj hl hqy]; exact hy⟩, ⟨z'', ?_, ⟨u, u2, ?_⟩, ?_, ?_⟩, fun c hcm => ?_⟩
    · exact (sb.2 _ D.TIz).trans (hk _ _ D.TIz D.TITO D.TIi1 D.TIi2 hTI)
    · exact (sb.2 _ D.TOz).trans TO'
    · exact h1'.at fun o q => (sb.2 _ D.i1z).trans q
    · exact h2'.at fun o q => (sb.2 _ D.i2z).trans q
    · have hlt : c < s.heap.objs.size := by
        have e' : c = z ∨ c = TI ∨ c = TO ∨ c = i1 ∨ c = i2 := by simpa using hcm
        rcases e' with q | q | q | q | q
        · rw [q]; exact hzl
        · rw [q]; exact Heap.lt_size hTI
        · rw [q]; exact Heap.lt_size hTO
        · rw [q]; obtain ⟨_, e1, _⟩ := h1; exact Heap.lt_size e1
        · rw [q]; obtain ⟨_, e2, _⟩ := h2; exact Heap.lt_size e2
      rw [upd_ne (Nat.ne_of_lt hlt)]
      exact (hf c hcm).1
  done := by
    intro X hP hw hK i pins s σ H E hot I hf st hg
    obtain ⟨x1, hot⟩ := hot
    subst hP hw hK
    obtain ⟨hz, hTI, ⟨x0, y0, hTO⟩, h1, h2⟩ := st
    obtain ⟨xs, ys, hqx, hqy, hend⟩ := hg
    obtain ⟨its, rv, p, _⟩ := I.list hqx
    obtain ⟨its2, rv2, p2, _⟩ := I.list hqy
    have l1 := rv.length
    have l2 := rv2.length
    have he : its.toArray[i]? = none ∨ its2.toArray[i]? = none := by
      rcases hend with q | q
      · exact .inl (by simp; omega)
      · exact .inr (by simp; omega)
    exact pyNext_zip_end_hot hot D hz hTI hTO h1 h2 p.isList p2.isList he fun h' hk => ⟨rfl, I.turnedL (t' := s.toks) (ch := [z, TI, TO, i1, i2]) (fun c o hb q =>
      hk c o (fun q' => hb (by simp [q'])) (fun q' => hb (by simp [q'])) (fun q' => hb (by simp [q'])) (fun q' => hb (by simp [q'])) q) hf⟩
  self := fun A i s Q E st h => wpAny_pyIter_zip st.1 h
def PIEZ (X : Cx) (pins : List (Addr × Obj)) (σ : St) (tg : Expr) (R : It → Hp → Prop) (itv : Value) (s2 : Shared) : Prop :=
  ∃ (it : Addr) (fp : List Addr) (tn : Nat → Heap → Prop) (J : It) (H' : Hp), itv = .ref it ∧ Inv X pins σ H' s2 ∧ TurnZ X.prog X.w X.K tg J fp it tn ∧ tn 0 s2.heap ∧ (∀ b ∈ fp, FpOk X pins H' b) ∧ R J H'
structure PIZ (X : Cx) (tg iter : Expr) (wi : TI) : Prop where
  run : ∀ (pins : List (Addr × Obj)) (s : Shared) (σ : St) (H : Hp) (R : It → Hp → Prop), Inv X pins σ H s → wi σ H R →
    wpAny (model X.prog X.w) X.A (eval iter X.env) (fun v s1 => wpAny (model X.prog X.w) X.A (pyIter v) (PIEZ X pins σ tg R) X.xe s1) X.xe s
theorem piZ_zip {X : Cx} {e e2 : Expr} {ta : TA} {p pos tpos : Pos} {elts : List Expr} {kk : Nat} (hg : Gl X "zip") (hm : X.mg "zip" = none) (ha : PA X [e, e2] ta)
    (hs : starEach [e, e2] X.env = (false, eval e X.env) :: starEach [e2] X.env) (hpl : (backTo pos (starEach [e2] X.env)).any (·.1) = false) :
    PIZ X (.Tuple elts kk tpos) (.Call (.Name "zip" p) [e, e2] [] pos) (iZip X.K ta) := by
  refine ⟨fun pins s σ H R I h => ?_⟩
  refine Call_ (ld_blt I hg hm PyProof.Rows.boot_zip (PyProof.Rows.callWith_type1 (thn (ha.run pos pins s σ H _ I h) fun us s1 ⟨vs, H1, I1, r1, q1⟩ => ?_) hs hpl))
  obtain ⟨a, b, xs, ys, ex, hqx, hqy, q⟩ := q1
  subst ex
  cases r1 with
  | cons r rr =>
    cases rr with
    | cons r' rr =>
      cases rr
      cases r
      cases r'
      obtain ⟨its, rv, p1, _⟩ := I1.list hqx
      obtain ⟨its2, rv2, p2, _⟩ := I1.list hqy
      have la : a < s1.heap.objs.size := p1.lt
      have lb : b < s1.heap.objs.size := p2.lt
      refine call_zip_2 p1.isList p2.isList fun h' hz hTI hTO h1 h2 hsz hk => wpAny_pyIter_zip hz ?_
      have I2 : Inv X pins σ H1 { s1 with heap := h' } := I1.kept (t' := s1.toks) hk
      refine ⟨s1.heap.objs.size + 4, [s1.heap.objs.size + 4, s1.heap.objs.size + 2, s1.heap.objs.size + 3, s1.heap.objs.size, s1.heap.objs.size + 1], _, _, H1, rfl, I2, turn_zipZ (PySem.W.ktu_apart s1.heap.objs.size a b la lb), ⟨hz, hTI, ⟨_, _, hTO⟩, h1, h2⟩, fun c hcm => ?_, q⟩
      have e' : c = s1.heap.objs.size + 4 ∨ c = s1.heap.objs.size + 2 ∨ c = s1.heap.objs.size + 3 ∨ c = s1.heap.objs.size ∨ c = s1.heap.objs.size + 1 := by simpa using hcm
      have hle : s1.heap.objs.size ≤ c := by
        rcases e' with z | z | z | z | z
        · rw [z]; exact Nat.le_add_right _ _
        · rw [z]; exact Nat.le_add_right _ _
        · rw [z]; exact Nat.le_add_right _ _
        · rw [z]; exact Nat.le_refl _
        · rw [z]; exact Nat.le_add_right _ _
      exact I1.fpOk hle (I1.hok.fresh hle)
theorem lcZ_core {X : Cx} {pins : List (Addr × Obj)} {s : Shared} {σ : St} {H : Hp} {Q : VK} {elt tg iter : Expr} {ifs : List Expr} {scope : Scope} {own : List (Str × Nat)} {pos pos' : Pos} {wi : TI} {g : TG} {tt : TT} {te : TE} {use : Option (Value → Sem Unit)} {Qf : Value → Shared → Prop}
    (hc : L2H.HotC X) (hN : X.N.Nodup) (I : Inv X pins σ H s) (hi : PIZ X tg iter wi) (ok : BlkOk X.N X.env.scope scope own)
    (hg : ∀ (s : Shared) (H : Hp) (C : Addr) (cl : List (Str × Addr)) (fp : List Addr), PGH (X.blk s H scope (compEnvC scope cl C X.env) fp) tg g) (ht : ∀ (s : Shared) (H : Hp) (C : Addr) (cl : List (Str × Addr)) (fp : List Addr), PTs (X.blk s H scope (compEnvC scope cl C X.env) fp) ifs tt)
    (he : ∀ (s : Shared) (H : Hp) (C : Addr) (cl : List (Str × Addr)) (fp : List Addr), PE (X.blk s H scope (compEnvC scope cl C X.env) fp) elt te) (hs : ∀ x, foldedSetIterable iter X.env x = pure x)
    (h : tLc wi g tt te (own.map (·.2)) σ H Q)
    (hRR : ∀ D C s' m H', Inv X pins σ H' s' → Q (.ref D) H' → s'.heap.Ns C m → FpOk X pins H' C → compPost (model X.prog X.w) X.A X.xe use Qf (.ref D) C (.ok .next) s') :
    wpAny (model X.prog X.w) X.A (comprehension (.ListComp elt [⟨tg, iter, ifs, 0⟩] scope pos) scope X.env pos' (newList []) false (eval iter X.env) use) Qf X.xe s := by
  have hfree : ∀ y ∈ scope.names, y.2 = .free → ∃ c, X.env.cells.lookup y.1 = some c := fun y hy e => by
    rcases ok.free y hy e with k | k
    · exact I.ok.has _ (.inl k)
    · exact I.ok.has _ (.inr k)
  refine wpAny_comprehension_free (use := use) rfl hs (closure_ok hfree) ok.kind (fun y hy e => by rw [ok.uniq y hy, e])
    (thn (hi.run pins s σ H _ I h) fun xv s1 hx => thn hx fun itv s2 h2 => ?_)
  obtain ⟨it, fp, tn, J, H2, e, I2, T, st2, f2, q⟩ := h2
  subst e
  refine wpAny_newObj_type (newEnv_comp ?_) (by show 0 ≤ sizeLine; decide)
  generalize hD : s2.heap.objs.size = D
  have hDn : H2 D = none := I2.hok.fresh (Nat.le_of_eq hD)
  obtain ⟨W, ⟨m0, w0⟩, turn⟩ := q D hDn
  -- the new list
  generalize hs3 : ({ s2 with heap := s2.heap.push { cls := .type "list", data := .seq ([] : List Value).toArray } } : Shared) = s3
  have I3 : Inv X pins σ (upd H2 D (.lst [])) s3 := by
    rw [← hs3]
    refine I2.laid (t' := s2.toks) (fun b o e => Heap.get?_push_of_some _ e) (Nat.le_of_eq hD) ⟨Nat.zero_le _, [], 0, .nil, ?_⟩
    rw [← hD]
    exact Heap.get?_push_size _ rfl
  have h3 : s3.heap = s2.heap.push { cls := .type "list", data := .seq ([] : List Value).toArray } := by rw [← hs3]
  have sz : ∀ b ∈ fp, b < s2.heap.objs.size := fun b hb => by
    obtain ⟨o, e, _⟩ := T.obj _ _ st2 b hb
    exact Heap.lt_size e
  have f3 : ∀ b ∈ fp, FpOk X pins (upd H2 D (.lst [])) b ∧ b < s3.heap.objs.size := fun b hb => by
    have hlt := sz b hb
    refine ⟨⟨?_, (f2 b hb).2⟩, by rw [h3, Heap.size_push]; exact Nat.lt_succ_of_lt hlt⟩
    rw [upd_ne (by rw [← hD]; exact Nat.ne_of_lt hlt)]
    exact (f2 b hb).1
  have st3 : tn 0 s3.heap := T.keep _ _ _ st2 fun b _ o e => by rw [h3]; exact Heap.get?_push_of_some _ e
  have I4 := block_start I3 ok hN f3
  obtain ⟨p, hot1, hpn⟩ := hc
  have pg := hg s3 (upd H2 D (.lst [])) s3.heap.objs.size (cellsFrom (s3.heap.objs.size + 1) scope.names (cloFrom X.env.cells scope.names [])) fp
  have pt := ht s3 (upd H2 D (.lst [])) s3.heap.objs.size (cellsFrom (s3.heap.objs.size + 1) scope.names (cloFrom X.env.cells scope.names [])) fp
  have pe := he s3 (upd H2 D (.lst [])) s3.heap.objs.size (cellsFrom (s3.heap.objs.size + 1) scope.names (cloFrom X.env.cells scope.names [])) fp
  show codeAny _ _ (.compStart (.ListComp elt [⟨tg, iter, ifs, 0⟩] scope pos) 0 (.ref it) (.ref D) (compEnvC scope (cellsFrom (s3.heap.objs.size + 1) scope.names (cloFrom X.env.cells scope.names [])) s3.heap.objs.size X.env)) (compPost (model X.prog X.w) X.A X.xe use Qf (.ref D) s3.heap.objs.size) { s3 with heap := pushCells (s3.heap.push { cls := .type "dict", data := .dict #[] }) scope.names }
  have nfp : ∀ b ∈ fp, (upd H2 D (.lst [])) b = none := fun b hb => (f3 b hb).1.1
  generalize hce : compEnvC scope (cellsFrom (s3.heap.objs.size + 1) scope.names (cloFrom X.env.cells scope.names [])) s3.heap.objs.size X.env = ce at I4 pg pt pe ⊢
  have cL : ce.locals = s3.heap.objs.size := by subst hce; rfl
  generalize hH3 : upd H2 D (.lst []) = H3 at I3 I4 pg pt pe w0 nfp f3
  generalize hs4 : ({ s3 with heap := pushCells (s3.heap.push { cls := .type "dict", data := .dict #[] }) scope.names } : Shared) = s4 at I4 ⊢
  have st4 : tn 0 s4.heap := T.keep _ _ _ st3 fun b _ o e => by rw [← hs4]; exact pushCells_keeps _ _ _ _ (Heap.get?_push_of_some _ e)
  have P3 := I3.pin p (List.mem_append_left _ hpn)
  have I4p : Inv (X.blk s3 H3 scope ce fp) [p] (wipe σ (own.map (·.2))) H3 s4 := I4.pins_of fun q hq => by
    have eq : q = p := by simpa using (show q ∈ ([] : List (Addr × Obj)) ++ [p] from hq)
    rw [eq]
    refine ⟨by rw [← hs4]; exact pushCells_keeps _ _ _ _ (Heap.get?_push_of_some _ P3.1), P3.2.1, ?_, ?_, P3.2.2.2.2⟩
    · show p.1 ≠ ce.locals
      rw [cL]
      exact Nat.ne_of_lt (Heap.lt_size P3.1)
    · exact fun hm => (List.mem_cons.mp (I3.stkSub p.1 hm)).elim P3.2.2.1 P3.2.2.2.1
  have stat : ∀ {σ' : St} {H' : Hp} {s' : Shared}, Inv (X.blk s3 H3 scope ce fp) [p] σ' H' s' → (∀ b ∈ fp, H' b = none) → ∀ b ∈ fp, FpOk (X.blk s3 H3 scope ce fp) [p] H' b := fun {σ' H' s'} I' hn b hb =>
    ⟨hn b hb, (I'.ok.exf b hb).1, I'.ok.exfs b hb, .inl hb, fun x c e => (I'.ok.exf b hb).2 x c e, fun q hq => by
      have eq : q = p := by simpa using (show q ∈ ([] : List (Addr × Obj)) ++ [p] from hq)
      rw [eq]
      exact (f3 b hb).1.2.2.2.2.2 p (List.mem_append_left _ hpn)⟩
  have loop : codeAny (model X.prog X.w) X.A (.compLoop (.ListComp elt [⟨tg, iter, ifs, 0⟩] scope pos) 0 (.ref it) (.ref D) ce) (compPost (model X.prog X.w) X.A X.xe use Qf (.ref D) s3.heap.objs.size) s4 := by
    refine compLoop_any (fun n s' => ∃ i H', Inv (X.blk s3 H3 scope ce fp) [p] (wipe σ (own.map (·.2))) H' s' ∧ tn i s'.heap ∧ (∀ b ∈ fp, H' b = none) ∧ W i n H') ?_ m0 ⟨0, H3, I4p, st4, nfp, w0⟩
    rintro n s5 ⟨i, H5, I5, st5, n5, w5⟩
    rcases turn i n H5 w5 with ⟨stop, qq⟩ | ⟨go, Nx, hNx, step⟩
    · have td := T.done (X.blk s3 H3 scope ce fp) rfl rfl rfl i [p] s5 _ H5 (fun _ _ => False) (Hot.at (X := X.blk s3 H3 scope ce fp) (pins := [p]) ⟨p, List.mem_append_right _ (List.mem_singleton.mpr rfl), hot1⟩ I5) I5 (stat I5 n5) st5 stop
      refine thnF td fun r s6 ⟨hr, I6⟩ => ?_
      subst hr
      -- back in the def's context
      have I7 : Inv X pins σ H5 s6 := I3.call' (ch := fp) I6.os I6.base I6.hok I6.bare fun b hb => ⟨(f3 b hb).1.2.2.2.1, (f3 b hb).1.2.1, (f3 b hb).1.2.2.2.2.1, (f3 b hb).1.2.2.2.2.2⟩
      have nC : H5 s3.heap.objs.size = none := by
        have z : H5 ce.locals = none := I6.free
        rw [cL] at z
        exact z
      obtain ⟨m, hn, _⟩ := I6.loc
      have hn : s6.heap.Ns ce.locals m := hn
      rw [cL] at hn
      exact hRR D s3.heap.objs.size s6 m H5 I7 qq hn (I3.fpOk (Nat.le_refl _) nC)
    · have ti := T.item (X.blk s3 H3 scope ce fp) rfl rfl rfl i [p] s5 _ H5 (fun _ _ => False) I5 (stat I5 n5) st5 go
      refine thnF ti fun r s6 ⟨u, hr, h6⟩ => ?_
      subst hr
      refine thnF h6 fun _ s7 ⟨x, H7, I7, r7, y7, st7, n7⟩ => ?_
      have I7' := I7.pinned (stat I7 n7) (T.obj _ _ st7)
      refine thnF (pg.run _ s7 _ H7 x u _ ⟨p, List.mem_append_right _ (List.mem_append_left _ (List.mem_singleton.mpr rfl)), hot1⟩ I7' r7 (step x H7 y7)) fun _ s8 ⟨σ8, H8, I8, hw8, q8⟩ => ?_
      refine thnF (pt.run _ s8 σ8 H8 _ I8 q8) fun b s9 ⟨H9, I9, q9⟩ => ?_
      -- the turn's end
      have fin : ∀ {s' : Shared} {H' : Hp}, Inv (X.blk s3 H3 scope ce fp) ([p] ++ pinsAt fp s7.heap) σ8 H' s' → Nx H' → ∃ m, m < n ∧ ∃ i H', Inv (X.blk s3 H3 scope ce fp) [p] (wipe σ (own.map (·.2))) H' s' ∧ tn i s'.heap ∧ (∀ b ∈ fp, H' b = none) ∧ W i m H' := fun {s' H'} I' nx => by
        obtain ⟨m', hm, w'⟩ := hNx H' nx
        have pin' : ∀ b ∈ fp, ∀ o, s7.heap.get? b = some o → s'.heap.get? b = some o ∧ H' b = none := fun b hb o e =>
          let z := I'.pin (b, o) (List.mem_append_right _ (List.mem_append_right _ (mem_pinsAt hb e)))
          ⟨z.1, z.2.1⟩
        have hl : (wipe σ (own.map (·.2))).length = σ8.length := by rw [← hw8, wipe_length]
        refine ⟨m', hm, i + 1, H', (I'.unpinned (pins := [p])).weak hl (fun j v e => ?_), T.keep _ _ _ st7 fun b hb o e => (pin' b hb o e).1, fun b hb => ?_, w'⟩
        · rw [← hw8] at e
          exact (wipe_some e).1
        · obtain ⟨o, e, _⟩ := T.obj _ _ st7 b hb
          exact (pin' b hb o e).2
      cases b with
      | false =>
        simp only [Bool.false_eq_true, if_false] at q9 ⊢
        exact fin I9 q9
      | true =>
        simp only [if_true] at q9 ⊢
        refine thnF (pe.run _ s9 σ8 H9 _ I9 q9) fun z s10 ⟨yv, H10, I10, r10, acc, hD10, hz10, nx⟩ => ?_
        exact app_ok (X := X.blk s3 H3 scope ce fp) I10 hD10 hz10 r10 fun s11 I11 => fin I11 nx
  exact codeAny_compStart_list loop (T.self X.A 0 _ _ _ st4 loop)
theorem peZ_lc {X : Cx} {elt tg iter : Expr} {ifs : List Expr} {scope : Scope} {own : List (Str × Nat)} {pos : Pos} {wi : TI} {g : TG} {tt : TT} {te : TE} (hc : L2H.HotC X) (hN : X.N.Nodup) (hi : PIZ X tg iter wi) (ok : BlkOk X.N X.env.scope scope own)
    (hg : ∀ (s : Shared) (H : Hp) (C : Addr) (cl : List (Str × Addr)) (fp : List Addr), PGH (X.blk s H scope (compEnvC scope cl C X.env) fp) tg g) (ht : ∀ (s : Shared) (H : Hp) (C : Addr) (cl : List (Str × Addr)) (fp : List Addr), PTs (X.blk s H scope (compEnvC scope cl C X.env) fp) ifs tt)
    (he : ∀ (s : Shared) (H : Hp) (C : Addr) (cl : List (Str × Addr)) (fp : List Addr), PE (X.blk s H scope (compEnvC scope cl C X.env) fp) elt te) (hs : ∀ x, foldedSetIterable iter X.env x = pure x) :
    PE X (.ListComp elt [⟨tg, iter, ifs, 0⟩] scope pos) (tLc wi g tt te (own.map (·.2))) := by
  refine ⟨fun pins s σ H Q I h => ?_⟩
  rw [eval_ListComp]
  refine lcZ_core hc hN I hi ok hg ht he hs h fun D C s' m H' I' q hn f => ⟨m, hn, fun h'' sb => ?_⟩
  obtain ⟨f0, f1, f2, f3, f4, f5⟩ := f
  exact ⟨.ref D, H', I'.turned (t' := s'.toks) (fun b o hb e => (sb.2 b hb).trans e) f0 f1 f3 f4 f5, rfl, q⟩
end Ev

set_option Elab.async false
set_option linter.all false
set_option maxRecDepth 100000
set_option maxHeartbeats 4000000
namespace Ev
open PySem PySem.Spec PyProof.Rows L2 HotX
/-! ### " ".join(a list of texts) -/
def joinD (sep : Str) : D → Mem → O := fun d μ => match d with
  | .loc n => match lstAt μ n with
    | some xs => match strsD xs with
      | some ys => if (ys.map (·.length)).sum + ys.length * sep.length ≤ 16777216 then some (.str (Txt.join sep ys), μ) else none
      | none => none
    | none => none
  | _ => none
section
variable {X : Cx} {T : TX} {W : WX}
theorem pe_joinE {o e : Expr} {sep : Str} {fe : E} {apos pos : Pos} (ho : PE X o (tC (.str sep))) (he : PE X e (tE (gx X T) W fe)) (hs : starEach [e] X.env = [(false, eval e X.env)]) (hbase : attributeBase o "join" X.env (eval o X.env) = eval o X.env) (hline : (apos.endLine == pos.line) = true) :
    PE X (.Call (.Attribute o "join" apos) [e] [] pos) (tE (gx X T) W (eUn (joinD sep) fe)) :=
  (pe_join ho he hs hbase hline).weak fun σ H Q h => ⟨⟨sep, rfl⟩, tE_mono (tE_un h) fun y H1 ⟨d, μ, ι, w, rd, q⟩ => by
    unfold joinD at q
    split at q
    · rename_i n
      split at q
      · rename_i xs e1
        split at q
        · rename_i ys e2
          split at q
          · rename_i hz
            obtain ⟨a, vs, rfl, e4, l, rr⟩ := w.lst rd (lstAt_some e1)
            exact ⟨sep, a, ys, rfl, rfl, .inl (by rw [← strsD_rel rr e2]; exact SqL.of l), hz, Don.val w (.str _) q⟩
          · exact q.elim
        · exact q.elim
      · exact q.elim
    · exact q.elim⟩
end
/-! ### isinstance of the exception at hand -/
def excE (i : Nat) (b : Bool) : E := fun ρ μ => match ρ[i]? with
  | some (some (.rw 0)) => .ok (.bl b) μ
  | _ => .er
theorem call_isEp {X : Cx} {p : Addr × Obj} {D : Addr} (hp : p ∈ X.pn) (C : ExcC X.K D) (hz : Zc (.ref D) none p.2) (hf : ∃ vs, p.2.data = .fields vs) : CallR X (.builtin "isinstance") (rIsE X.K D p.1) := by
  intro pins s σ H xs us Q I r h
  obtain ⟨c, cv, b, rfl, hcv, e, q⟩ := h
  cases r with
  | cons rx rr =>
    cases rr with
    | cons rt rr =>
      cases rr
      cases rx
      have ec := hcv _ rt
      subst ec
      obtain ⟨hget, _⟩ := I.pin p (List.mem_append_left _ hp)
      obtain ⟨vs, hv⟩ := hf
      have J : PySem.W.InstAt s.heap p.1 p.2 D none := by
        obtain ⟨a, oe⟩ := p
        obtain ⟨oc, od, oda, osl⟩ := oe
        obtain ⟨h1, h2⟩ := hz
        dsimp only at h1 h2 hv
        subst h1 h2 hv
        exact ⟨hget, rfl, rfl, trivial⟩
      exact PySem.W.kia_one (PySem.W.handS_kitx_exc C.hg C.hk C.hs C.hd C.ha C.hn C.ht C.hm) I.kIn J e (fun z => nomatch z) fun tk => ⟨.bl b, H, I.kept (t' := tk) fun _ _ z => z, rfl, q⟩
/-- what the name y is, and what isinstance says of D by it -/
def IsxOk (K : PySem.W.Frag) (mg : Str → Option Value) (D : Addr) (y : Str) (b : Bool) : Prop :=
  (∃ C : Addr, mg y = some (.ref C) ∧ PySem.W.kitOne K (.ref D) (.ref C) = some b) ∨ (∃ t : String, mg y = none ∧ bootBuiltins y = some (.type t) ∧ PySem.W.kitOne K (.ref D) (.type t) = some b)
theorem pe_isx {X : Cx} {T : TX} {W : WX} {p : Addr × Obj} {D : Addr} {i : Nat} {e y : Str} {b : Bool} {p1 p2 p3 pos : Pos} (ht : T.x 0 = some p.1) (hp : p ∈ X.pn) (C : ExcC X.K D) (hz : Zc (.ref D) none p.2) (hf : ∃ vs, p.2.data = .fields vs) (hy : IsxOk X.K X.mg D y b)
    (hg : Gl X "isinstance") (hm : X.mg "isinstance" = none) (he : PE X (.Name e p2) (tVar i)) (hgy : Gl X y) (hb : badName y = false) :
    PE X (.Call (.Name "isinstance" p1) [.Name e p2, .Name y p3] [] pos) (tE (gx X T) W (excE i b)) := by
  have key : ∀ {c : V} {cv : Value}, PE X (.Name y p3) (tC c) → (∀ u, RelV c u → u = cv) → PySem.W.kitOne X.K (.ref D) cv = some b → PE X (.Call (.Name "isinstance" p1) [.Name e p2, .Name y p3] [] pos) (tE (gx X T) W (excE i b)) := fun {c cv} h1 h2 h3 =>
    (pe_callB (call_isEp hp C hz hf) hg hm boot_isinstance (pa_cons he (pa_cons h1 pa_nil rfl) rfl) (by decide) (by decide) rfl rfl).weak fun σ H Q ⟨ρ, μ, ι, w, ev, q⟩ => by
      unfold excE at q
      split at q
      · rename_i ha
        obtain ⟨v, h4, r⟩ := ev.2 i _ ha
        cases r with
        | rw h =>
          have e0 := h.symm.trans ht
          cases e0
          exact ⟨_, h4, c, cv, b, rfl, h2, h3, Pst.here w (.bl b) q⟩
      · exact q.elim
  rcases hy with ⟨C', h1, h2⟩ | ⟨t, h1, h2, h3⟩
  · exact key (pe_glob (v := .ref C') hgy h1 rfl (bad_dbg hb).1) (fun u r => r) h2
  · exact key (pe_bltn (v := .ty t) hgy h1 h2 rfl (bad_dbg hb).2.2 (bad_dbg hb).1) (fun u r => r) h3
end Ev

set_option Elab.async false
set_option linter.all false
set_option maxRecDepth 100000
set_option maxHeartbeats 4000000
namespace Ev
open PySem PySem.Spec PyProof.Rows L2 HotX
/-! ### a small evaluator for a def called while an exception is handled -/
structure HC where
  N : List Str
  sc : Scope
  isx : Str → Option Bool
def HC.cfg (h : HC) : Cfg := { N := h.N, sc := h.sc, st := h.sc.names, call := fun _ => none, gv := fun _ => none, bn := fun _ => false, exc := fun _ => false, law := none, fuel := 0 }
def hEs (f : Expr → E) : List Expr → Es
  | [] => esNil
  | e :: es => if isStar e then fun _ _ => .er else esCons (f e) (hEs f es)
/-- [w for x, y in zip(u, v) if t] -/
def hLc (h : HC) (w x y u v t z : Str) (scope : Scope) : E :=
  let own := ownOf h.N scope.names
  let c' : Cfg := { h.cfg with sc := relS scope h.sc, st := scope.names }
  if blkC h.N h.sc scope own && h.cfg.glb z && decide (z = "zip") then (match h.cfg.loc u, h.cfg.loc v, c'.sto x, c'.sto y, c'.loc w, c'.loc t with
    | some iu, some iv, some ix, some iy, some iw, some it => eLc (iZl (esCons (eVar iu) (esCons (eVar iv) esNil))) (.tp [.nm ix, .nm iy]) (tTru (eVar it)) (eVar iw) (own.map (·.2))
    | _, _, _, _, _, _ => eEr)
  else eEr
def hE (h : HC) : Nat → Expr → E
  | 0, _ => eEr
  | n + 1, e => match e with
    | .Constant k _ _ => constE k
    | .Name x _ => match h.cfg.loc x with
      | some i => eVar i
      | none => eEr
    | .BinOp x op y _ => eBin (binD op) (hE h n x) (hE h n y)
    | .List es _ => eApp lstP (hEs (hE h n) es)
    | .Call (.Name f _) [.Name e _, .Name k _] [] _ => if h.cfg.glb f && decide (f = "isinstance") && h.cfg.glb k then (match h.cfg.loc e, h.isx k with
      | some i, some b => excE i b
      | _, _ => eEr) else eEr
    | .Call (.Attribute (.Constant (.str sep) _ _) m apos) [.ListComp (.Name w _) [⟨.Tuple [.Name x _, .Name y _] _ _, .Call (.Name z _) [.Name u _, .Name v _] [] _, [.Name t _], 0⟩] scope _] [] cpos =>
      if m = ("join" : Str) ∧ (apos.endLine == cpos.line) = true then eUn (joinD sep) (hLc h w x y u v t z scope) else eEr
    | _ => eEr
def hS (h : HC) (n : Nat) : Stmt → S
  | .Assign [.Name x _] e _ => if isComp e then sEr else match h.cfg.sto x with
    | some i => sSet (.nm i) (hE h n e)
    | none => sEr
  | .Expr (.Call (.Attribute (.Name o _) m apos) [e] [] cpos) _ => if m = ("append" : Str) ∧ (apos.endLine == cpos.line) = true ∧ isStar e = false then (match h.cfg.loc o with
    | some i => sExpr (eMt "list" appendD (eVar i) (esCons (hE h n e) esNil))
    | none => sEr) else sEr
  | .Return (some e) _ => sRet (hE h n e)
  | _ => sEr
def hSs (h : HC) (n : Nat) : List Stmt → S
  | [] => sNx
  | s :: ss => sSeq (hS h n s) (hSs h n ss)
structure XH (X : Cx) (T : TX) (h : HC) (p : Addr × Obj) (D : Addr) : Prop where
  N : X.N = h.N
  nd : X.N.Nodup
  sc : X.env.scope = h.sc
  st : ∀ x, locK (h.sc.names.lookup x) = true → Loc X.env.scope x ∧ (X.fn x = true ∨ X.env.scope.names.lookup x = some .local)
  ht : T.x 0 = some p.1
  hp : p ∈ X.pn
  hot : L2H.Hot1 X.A p
  C : ExcC X.K D
  hz : Zc (.ref D) none p.2
  hf : ∃ vs, p.2.data = .fields vs
  isx : ∀ y b, h.isx y = some b → IsxOk X.K X.mg D y b
  bz : X.mg "zip" = none
  bi : X.mg "isinstance" = none
section
variable {X : Cx} {T : TX} {W : WX} {h : HC} {p : Addr × Obj} {D : Addr}
theorem pe_loc {x : Str} {i : Nat} {pos : Pos} {c : Cfg} (hN : X.N = c.N) (hsc : X.env.scope = c.sc) (e : c.loc x = some i) : PE X (.Name x pos) (tVar i) := by
  obtain ⟨h1, h2, h3⟩ := loc_of e
  exact pe_var (by rw [hN]; exact h1) (by rw [hsc]; exact h2) (bad_dbg h3).1 (bad_dbg h3).2.1
theorem sto_of {c : Cfg} {x : Str} {i : Nat} (e : c.sto x = some i) : locK (c.st.lookup x) = true ∧ c.N[i]? = some x := by
  unfold Cfg.sto at e
  split at e
  · rename_i hl
    exact ⟨hl, slot_get e⟩
  · cases e
theorem gl_of' {X : Cx} {c : Cfg} {x : Str} (hsc : X.env.scope = c.sc) (e : c.glb x = true) : Gl X x := by
  show X.env.scope.names.lookup x = _
  rw [hsc]
  exact (glb_of e).1
theorem piZ_zlE {a b : Expr} {fs : Es} {pos p tpos : Pos} {elts : List Expr} {kk : Nat} (hg : Gl X "zip") (hm : X.mg "zip" = none) (ha : PA X [a, b] (tEs (gx X T) W fs)) (hs : starEach [a, b] X.env = (false, eval a X.env) :: starEach [b] X.env) (hpl : (backTo pos (starEach [b] X.env)).any (·.1) = false) : PIZ X (.Tuple elts kk tpos) (.Call (.Name "zip" p) [a, b] [] pos) (tI (gx X T) W (iZl fs)) :=
  ⟨fun pins s σ H R I q => (piZ_zip hg hm ha hs hpl).run pins s σ H R I (tEs_mono (tEs_src q) fun vs H1 ⟨ds, μ, ι, w, r, q⟩ => by
    split at q
    · rename_i n m
      obtain ⟨v, u, rfl, rv, ru⟩ := RelDs.two r
      split at q
      · rename_i xs ys e e'
        obtain ⟨p, ws, rfl, e2, l, q1⟩ := w.lst rv (lstAt_some e)
        obtain ⟨p', ws', rfl, e2', l', q1'⟩ := w.lst ru (lstAt_some e')
        exact ⟨p, p', ws, ws', rfl, SqL.of l, SqL.of l', PsI.here w (src_zll e2 e2') q⟩
      · exact q.elim
    · exact q.elim)⟩
variable (ok : XH X T h p D)
include ok
theorem hsnd_lc (w x y u v t z : Str) (scope : Scope) {p1 p2 p3 p4 p5 p6 p7 p8 p9 p10 : Pos} {kk : Nat} : PE X (.ListComp (.Name w p1) [⟨.Tuple [.Name x p2, .Name y p3] kk p4, .Call (.Name z p5) [.Name u p6, .Name v p7] [] p8, [.Name t p9], 0⟩] scope p10) (tE (gx X T) W (hLc h w x y u v t z scope)) := by
  unfold hLc
  dsimp only
  split
  · rename_i hh
    simp only [Bool.and_eq_true, decide_eq_true_eq] at hh
    obtain ⟨⟨hb, hgz⟩, hz⟩ := hh
    subst hz
    have b : BlkOk X.N X.env.scope scope (ownOf h.N scope.names) := by
      rw [ok.N, ok.sc]
      exact blkOk_by hb
    split
    · rename_i iu iv ix iy iw it e1 e2 e3 e4 e5 e6
      have hsc : ∀ C cl, (compEnvC scope cl C X.env).scope = relS scope h.sc := fun C cl => by
        show relabel scope X.env = relS scope h.sc
        rw [← ok.sc]
        rfl
      have st : ∀ {x : Str} {i : Nat} (s : Shared) (H : Hp) (C : Addr) (cl : List (Str × Addr)) (fp : List Addr) (pos : Pos), ({ h.cfg with sc := relS scope h.sc, st := scope.names } : Cfg).sto x = some i → PG (X.blk s H scope (compEnvC scope cl C X.env) fp) (.Name x pos) (gName i) := fun {x i} s H C cl fp pos e => by
        obtain ⟨hx, hi⟩ := sto_of e
        have hx : locK (scope.names.lookup x) = true := hx
        have hi : h.N[i]? = some x := hi
        unfold locK at hx
        have keep : ∀ {kd : NameKind}, kd ≠ .free → scope.names.lookup x = some kd → (relabel scope X.env).names.lookup x = some kd := fun {kd} hk hl => lookup_relS_keep (sc := X.env.scope) hk hl
        split at hx
        · rename_i e
          exact pg_name ok.nd (by show X.N[i]? = _; rw [ok.N]; exact hi) (.inl (keep (by decide) e)) (.inr (keep (by decide) e))
        · rename_i e
          exact pg_name ok.nd (by show X.N[i]? = _; rw [ok.N]; exact hi) (.inr (keep (by decide) e)) (.inl (by show (scope.names.lookup x == some NameKind.cell) = true; rw [e]; rfl))
        · cases hx
      refine (peZ_lc ⟨p, ok.hot, ok.hp⟩ ok.nd (piZ_zlE (T := T) (W := W) (gl_of' ok.sc hgz) ok.bz (pa_consE (pe_v (pe_loc ok.N ok.sc e1)) (pa_consE (pe_v (pe_loc ok.N ok.sc e2)) pa_nilE rfl) rfl) rfl rfl) b
        (g := gT X.K (.tp [.nm ix, .nm iy])) (tt := tT (gx X T) (fun _ _ _ _ => False) (tTru (eVar it))) (te := tE (gx X T) (fun _ _ _ _ => False) (eVar iw))
        (fun s H C cl fp => (pgH_tup (t := gCons (gName ix) (gCons (gName iy) gNil)) (pgs_cons (st s H C cl fp _ e3) (pgs_cons (st s H C cl fp _ e4) pgs_nil rfl) rfl) rfl rfl).or (pgH_lst (t := gCons (gName ix) (gCons (gName iy) gNil)) (pgs_cons (st s H C cl fp _ e3) (pgs_cons (st s H C cl fp _ e4) pgs_nil rfl) rfl) rfl rfl))
        (fun s H C cl fp => ⟨fun pins s' σ H' Q I hw => (pts_one (pt_tru (pe_v (pe_loc (X := X.blk s H scope (compEnvC scope cl C X.env) fp) (c := { h.cfg with sc := relS scope h.sc, st := scope.names }) ok.N (hsc _ _) e6)) (fun _ => rfl))).run pins s' σ H' Q I hw⟩)
        (fun s H C cl fp => pe_v (pe_loc (X := X.blk s H scope (compEnvC scope cl C X.env) fp) (c := { h.cfg with sc := relS scope h.sc, st := scope.names }) ok.N (hsc _ _) e5)) (fun _ => rfl)).weak fun σ H Q h => tE_lc h
    · exact pe_er
  · exact pe_er
theorem hsnd_E : ∀ n e, PE X e (tE (gx X T) W (hE h n e))
  | 0, e => pe_er
  | n + 1, e => by
    have ih := hsnd_E n
    have ihs : ∀ es, PA X es (tEs (gx X T) W (hEs (hE h n) es)) := fun es => by
      induction es with
      | nil => exact pa_nilE
      | cons e es ih2 =>
        unfold hEs
        split
        · exact pa_er
        · rename_i hs
          exact pa_consE (ih e) ih2 (star_eq (by simpa using hs))
    unfold hE
    split
    · rename_i k _ _
      unfold constE
      split
      · exact pe_k pe_non fun _ _ => .non
      · exact pe_k pe_bl fun _ _ => .bl _
      · exact pe_k pe_int fun _ _ => .int _
      · exact pe_k pe_str fun _ _ => .str _
      · exact pe_er
    · split
      · rename_i i e
        exact pe_v (pe_loc ok.N ok.sc e)
      · exact pe_er
    · exact pe_bin _ (ih _) (ih _)
    · exact pe_lstE (ihs _)
    · split
      · rename_i hh
        simp only [Bool.and_eq_true, decide_eq_true_eq] at hh
        obtain ⟨⟨h1, h2⟩, h3⟩ := hh
        subst h2
        split
        · rename_i i b e1 e2
          exact pe_isx ok.ht ok.hp ok.C ok.hz ok.hf (ok.isx _ _ e2) (gl_of' ok.sc h1) ok.bi (pe_loc ok.N ok.sc e1) (gl_of' ok.sc h3) (glb_of h3).2
        · exact pe_er
      · exact pe_er
    · split
      · rename_i hh
        obtain ⟨rfl, hl⟩ := hh
        exact pe_joinE pe_str (hsnd_lc ok _ _ _ _ _ _ _ _) rfl rfl hl
      · exact pe_er
    · exact pe_er
theorem hsnd_S (n : Nat) (s : Stmt) : PS X s (tS (gx X T) W (hS h n s)) := by
  unfold hS
  split
  · split
    · exact ps_er
    · rename_i hc
      split
      · rename_i x p1 e pos _ i hi
        obtain ⟨h1, h2⟩ := sto_of hi
        obtain ⟨h3, h4⟩ := ok.st x h1
        refine ps_setE (hsnd_E ok n e) (show PG X (.Name x p1) (gT X.K (.nm i)) from pg_name ok.nd (by rw [ok.N]; exact h2) h3 h4) ?_ ?_ rfl
        · have hc : isComp e = false := by simpa using hc
          show swapsWith e (some (.Name x p1)) pos.line X.env = pure false
          cases e <;> first | rfl | cases hc
        · cases e <;> rfl
      · exact ps_er
  · split
    · rename_i hh
      obtain ⟨rfl, hl, hst⟩ := hh
      split
      · rename_i i hi
        exact ps_exprE (pe_mtE (.inl rfl) PySem.F.plainAttrs_list PySem.F.slot_list_append PySem.F.type_list_append append_ok (pe_v (pe_loc ok.N ok.sc hi)) (pa_consE (hsnd_E ok n _) pa_nilE (star_eq hst)) rfl
          (by rw [star_all (by rw [List.any_cons, hst]; rfl)]; rfl) hl (star_eq hst) rfl) rfl
      · exact ps_er
    · exact ps_er
  · exact ps_retE (hsnd_E ok n _)
  · exact ps_er
theorem hsnd_Ss (n : Nat) : ∀ ss, PSs X ss (tS (gx X T) W (hSs h n ss))
  | [] => pss_nilE
  | s :: ss => pss_consE (hsnd_S ok n s) (hsnd_Ss n ss)
end
end Ev

set_option Elab.async false
set_option linter.all false
set_option maxRecDepth 100000
set_option maxHeartbeats 4000000
namespace Ev
open PySem PySem.Spec PyProof.Rows L2 LamX
/-! ### a lambda made, and called -/
theorem lam_make3 {X : Cx} {pins : List (Addr × Obj)} {σ : L2.St} {H : Hp} {s : Shared} {T : List (Addr × Str)} {c P : Addr} {params : Arguments} {body : Expr} {scope : Scope} {pos : Pos} {E : Value → Shared → Prop} {Q : Value → Shared → Prop} (I : Inv X pins σ H s) (TB : TabB X.base X.mg c P) (hcode : X.env.code = .ref c)
    (hm : (P, X.env.qual ++ "<lambda>") ∈ T) (hu : ∀ p ∈ T, p.1 = P → p.2 = X.env.qual ++ "<lambda>") (hT : Tabs T H) (hdef : defaultsOf params X.env = ([], [])) (hfree : ∀ y ∈ scope.names, y.2 = .free → ∃ c, X.env.cells.lookup y.1 = some c)
    (h : ∀ (f c' : Addr) (pm ctv : Value) (H1 : Hp) (s' : Shared), Inv X pins σ H1 s' → ExtN H H1 → (∀ b ps, H b = some (.tbl ps) → ∃ ps', H1 b = some (.tbl ps')) → Tabs T H1 →
      s'.heap.get? f = some (PySem.W.kla_obj "<lambda>" (X.env.qual ++ "<lambda>") params body scope (cloFrom X.env.cells scope.names []) pm c' ctv) → H1 f = none → f ∉ frs X.stack → H1 c' = some (CodeO c' (X.env.qual ++ "<lambda>")) → Q (.ref f) s') :
    wpAny (model X.prog X.w) X.A (eval (.Lambda params body scope pos) X.env) Q E s := by
  obtain ⟨ps, hP, ht, ha⟩ := hT _ hm
  refine PySem.W.kla_eval hdef ?_
  have bP : s.heap.BuiltinsAt X.mg P := TB.bm.keeps I.bk
  have hP' : s.heap.get? P = some { cls := .none, data := .fields ps } := I.hok P _ hP
  have nofr : ∀ f, s.heap.objs.size ≤ f → f ∉ frs X.stack := fun f hf z => by
    rcases List.mem_cons.mp (I.stkSub _ z) with e | e
    · have h1 := I.lt
      rw [← e] at h1
      exact Nat.lt_irrefl _ (Nat.lt_of_lt_of_le h1 hf)
    · exact I.nofs hf e
  cases hc : codeAmong pos ps.toList with
  | none =>
    refine PySem.W.kla_makeFunction (mg := X.mg) (c := c) (P := P) (ps := ps) (closure_ok hfree) I.ok.glob (I.mod.glob.keeps I.bk) hcode (TB.code.keeps I.bk) hP' ht hc TB.gP bP fun c' ctv h' tk hx hge hlt hrec htb => ?_
    obtain ⟨c2, oc, vs, t, e2, hoc, hd, hv⟩ := hrec
    cases e2
    have hsz : s.heap.objs.size ≤ h'.objs.size := Nat.le_trans hge (Nat.le_of_lt hlt)
    have nC : H c' = none := I.hok.fresh hge
    have I1 := inv_table (t' := tk) (more := #[rawInt pos.line, rawInt pos.col, .ref c']) (h' := h'.push (PySem.W.kla_obj "<lambda>" (X.env.qual ++ "<lambda>") params body scope (cloFrom X.env.cells scope.names []) ((X.mg "__name__").getD .none) c' ctv)) I hP
      (fun b o hb e => Heap.get?_push_of_some _ (hx b o hb e)) (Heap.get?_push_of_some _ htb) hge ⟨oc, vs, t, Heap.get?_push_of_some _ hoc, hd, hv⟩
    have hE : ExtN H (upd (upd H P (.tbl (ps ++ #[rawInt pos.line, rawInt pos.col, .ref c']))) c' (CodeO c' (X.env.qual ++ "<lambda>"))) := fun b o e n => by
      rw [upd_ne (ne_of_none e nC), upd_ne (fun z => n ps (Option.some.inj (e.symm.trans (by rw [z]; exact hP))))]
      exact e
    have eL : (ps ++ #[rawInt pos.line, rawInt pos.col, .ref c']).toList = ps.toList ++ [rawInt pos.line, rawInt pos.col, .ref c'] := by simp
    refine h h'.objs.size c' ((X.mg "__name__").getD .none) ctv _ _ I1 hE (fun b ps' e => ?_) (fun p hp => ?_) (Heap.get?_push_size _ rfl) ?_ (nofr _ hsz) upd_same
    · by_cases hb : b = P
      · rw [hb]
        exact ⟨_, by rw [upd_ne (ne_of_none hP nC), upd_same]⟩
      · exact ⟨ps', by rw [upd_ne (ne_of_none e nC), upd_ne hb]; exact e⟩
    · by_cases hb : p.1 = P
      · rw [hu p hp hb, hb]
        refine ⟨_, by rw [upd_ne (ne_of_none hP nC), upd_same], by rw [eL]; exact PySem.TriplesOk_snoc _ _ _ _ ht, fun p' cv hcv => ?_⟩
        rw [eL] at hcv
        rcases among_app _ ht hcv with z | z
        · obtain ⟨c0, e1, e2⟩ := ha p' cv z
          exact ⟨c0, e1, hE _ _ e2 codeO_ne⟩
        · exact ⟨c', z, upd_same⟩
      · obtain ⟨ps', a1, a2, a3⟩ := hT p hp
        refine ⟨ps', by rw [upd_ne (ne_of_none a1 nC), upd_ne hb]; exact a1, a2, fun p' cv hcv => ?_⟩
        obtain ⟨c0, e1, e2⟩ := a3 p' cv hcv
        exact ⟨c0, e1, hE _ _ e2 codeO_ne⟩
    · have n1 : h'.objs.size ≠ c' := Nat.ne_of_gt hlt
      have n2 : h'.objs.size ≠ P := Nat.ne_of_gt (Nat.lt_of_lt_of_le (Heap.lt_size hP') hsz)
      rw [upd_ne n1, upd_ne n2]
      exact I.hok.fresh hsz
  | some cv =>
    obtain ⟨c', e, hco⟩ := ha pos cv hc
    subst e
    refine PySem.W.kla_makeFunctionHit (mg := X.mg) (c := c) (P := P) (ps := ps) (closure_ok hfree) I.ok.glob (I.mod.glob.keeps I.bk) hcode (TB.code.keeps I.bk) hP' ht hc bP fun ctv h' tk hx hsz => ?_
    have I1 : Inv X pins σ H { s with heap := h'.push (PySem.W.kla_obj "<lambda>" (X.env.qual ++ "<lambda>") params body scope (cloFrom X.env.cells scope.names []) ((X.mg "__name__").getD .none) c' ctv), toks := tk } := I.kept fun b o e => Heap.get?_push_of_some _ (hx b o e)
    exact h h'.objs.size c' ((X.mg "__name__").getD .none) ctv H _ I1 (ExtN.refl H) (fun b ps e => ⟨ps, e⟩) hT (Heap.get?_push_size _ rfl) (I.hok.fresh hsz) (nofr _ hsz) hco
/-- the context of the lambda's body -/
abbrev lamCxN (X : Cx) (A : Around) (outer : List PySem.Env) (s : Shared) (H : Hp) (E : XK) (scope : Scope) (f c' : Addr) : Cx :=
  (lamCx X A outer s H (fun _ _ _ => False) scope f c').tr [] fun e s' => wpAny (model X.prog X.w) (A.deeper (lamEnv X scope s.heap.objs.size f c')) (leaving (lamEnv X scope s.heap.objs.size f c') e) (fun _ s'' => L2N.CX X.prog X.w outer H s E e s'') (fun e' s'' => L2N.CX X.prog X.w outer H s E e' s'') s'
theorem pe_actN {X : Cx} {pins : List (Addr × Obj)} {σ : L2.St} {H : Hp} {s : Shared} {Eg : XK} {Ng : List Str} {qg : Str} {sg : Scope} {g f c' : Addr} {cdg pm ctv : Value} {params : Arguments} {body : Expr} {scope : Scope} {k i : Nat} {a : Str} {pn : List (Addr × Obj)} {xe : Value → Shared → Prop} {W : WX} {tb : XK → TE} {p1 p2 : Pos}
    (I : Inv X pins σ H s) (L : LamS X.env.scope scope) (hf : s.heap.get? f = some (PySem.W.kla_obj "<lambda>" (X.env.qual ++ "<lambda>") params body scope (cloFrom X.env.cells scope.names []) pm c' ctv)) (hfn : H f = none) (hfr : f ∉ frs X.stack)
    (hbind : bindArgs (PySem.W.kla_fn "<lambda>" (X.env.qual ++ "<lambda>") params body scope (cloFrom X.env.cells scope.names []) pm (.ref c') ctv) ⟨[], []⟩ = pure [])
    (tk : L2N.Takes ((cxOf (L2N.CX X.prog X.w) X.prog X.w X.K X.mg X.base Ng qg sg g cdg X.A X.stack s H Eg).tr pn xe) W) (hr : Room (k + 1) (X.A.deeper (envOfC qg sg s.heap.objs.size g cdg)))
    (hbody : ∀ (A : Around) (outer : List PySem.Env) (s : Shared) (H : Hp) (E : XK), Room k (A.deeper (lamEnv X scope s.heap.objs.size f c')) → PE (lamCxN X A outer s H E scope f c') body (tb E))
    (hN : Ng[i]? = some a) (hv : Vis sg a) (hd : (a == ("__debug__" : Str)) = false := by decide) (hcd : (a == ("__classdict__" : Str)) = false := by decide) :
    PE ((cxOf (L2N.CX X.prog X.w) X.prog X.w X.K X.mg X.base Ng qg sg g cdg X.A X.stack s H Eg).tr pn xe) (.Call (.Name a p1) [] [] p2)
      (fun σZ HZ Q => σZ[i]? = some (some (.ref f)) ∧ HZ c' = some (CodeO c' (X.env.qual ++ "<lambda>")) ∧ tb (fun cls d H' => W cls d σZ H') σ HZ Q) := by
  refine ⟨fun pinsZ sZ σZ HZ Q IZ h => ?_⟩
  obtain ⟨hs, hc, ht⟩ := h
  refine wpAny_Call_Name_kw (thn ((pe_var (pos := p1) (i := i) hN hv hd hcd).run pinsZ sZ σZ HZ (fun v H1 => v = .ref f ∧ H1 = HZ) IZ ⟨.ref f, hs, rfl, rfl⟩) fun u s1 ⟨v, H1, I1, r1, q1⟩ => ?_)
  obtain ⟨ev, eH⟩ := q1
  subst ev
  rw [eH] at I1
  obtain rfl : u = Value.ref f := r1
  have of1 : s1.heap.get? f = some (PySem.W.kla_obj "<lambda>" (X.env.qual ++ "<lambda>") params body scope (cloFrom X.env.cells scope.names []) pm c' ctv) := I1.base.keep f _ hf hfn hfr (fun z => nomatch (show f ∈ ([] : List Addr) from z))
  refine PySem.W.callWith_F0 ⟨_, _, _, _, of1⟩ ?_
  have un : Un (frs X.stack) [] H HZ s.heap s1.heap := I1.base
  obtain ⟨⟨oc, vs, t, hoc, hdc, hvc⟩, _, _⟩ := I1.hok c' _ hc
  have rc : codeAny (model X.prog X.w) (X.A.deeper (envOfC qg sg s.heap.objs.size g cdg)) (.call (.ref f) ⟨[], []⟩) (CR (L2N.CX X.prog X.w) (envOfC qg sg s.heap.objs.size g cdg :: X.stack) X.prog X.w HZ s1 Q (fun cls d H' => W cls d σZ H')) s1 := by
    refine PySem.W.kla_callFunE hr.depth of1 rfl L.co L.gen rfl ⟨c', oc, vs, t, rfl, hoc, hdc, hvc⟩ ?_
    rw [hbind]
    refine wpAny_pure (wpAny_newFunctionEnv (fun y hy => (L.own y hy).2) (fun y hy => absurd hy (by simp)) (fun h₁ hns hsb => ⟨I1.nolimit.fresh _ hsb, ?_⟩) L.kind)
    show codeAny _ _ (.expr body (lamEnv X scope s1.heap.objs.size f c')) _ _
    have kp : ∀ b o, s1.heap.get? b = some o → h₁.get? b = some o := fun b o e => hsb.extBut b o (Nat.ne_of_lt (Heap.lt_size e)) (Heap.get?_push_of_some _ e)
    have J : Inv (lamCxN X (X.A.deeper (envOfC qg sg s.heap.objs.size g cdg)) (envOfC qg sg s.heap.objs.size g cdg :: X.stack) s1 HZ (fun cls d H' => W cls d σZ H') scope f c') [] σ HZ { s1 with heap := h₁, toks := s1.toks + ([] : List (Str × Value)).length } :=
      (lam_start2 (E := fun _ _ _ => False) I L I1.env0 hr.hd un hns kp).toTry _
    refine PySem.W.kla_codeExpr (wpAny_mono ((hbody _ _ s1 HZ _ (hr.deeper _)).run [] _ _ HZ Q J ht) (fun v s' hq => ?_) fun e s' hq => hq)
    obtain ⟨w', H', J', rv, q⟩ := hq
    exact ⟨w', H', J'.os, J'.bare, J'.base, J'.hok, rv, q⟩
  have hx := L2N.passAt tk σZ
  refine wpAny_call (codeAny_mono rc fun r s' hq => ?_)
  cases r with
  | error e => exact hx pinsZ HZ s1 e s' I1 hq
  | ok fl =>
    cases fl with
    | ret u => exact I1.after hq
    | next => exact False.elim hq
    | brk => exact False.elim hq
    | cont => exact False.elim hq
end Ev

set_option Elab.async false
set_option linter.all false
set_option maxRecDepth 100000
set_option maxHeartbeats 4000000
namespace Ev
open PySem PySem.Spec PyProof.Rows L2
/-! ### try with several clauses, each with a name -/
def wManyA (K : PySem.W.Frag) (Wout : WX) (D : Ends) : List (Value × Nat × (Addr → Value → Option Addr → TS)) → WX
  | [] => Wout
  | (c, i, ts) :: r => fun cls d σ H => ∃ b, PySem.W.exmOne K cls c = some b ∧ (b = true → ∀ a, H a = none → ts a cls d { nx := fun σ' H' => D.nx (σ'.set i none) H', rt := D.rt, bk := fun σ' H' => D.bk (σ'.set i none) H', ct := fun σ' H' => D.ct (σ'.set i none) H' } (σ.set i (some (.ref a))) H) ∧
    (b = false → wManyA K Wout D r cls d σ H)
inductive HdsA (X : Cx) : List ExceptHandler → List (Value × Nat × (Addr → Value → Option Addr → TS)) → Prop
  | nil : HdsA X [] []
  | cons {x n : Str} {c : Value} {i : Nat} {ts : Addr → Value → Option Addr → TS} {b₀ : Stmt} {suite : List Stmt} {np pos' : Pos} {hds : List ExceptHandler} {l : List (Value × Nat × (Addr → Value → Option Addr → TS))} (hc : Names X x c)
      (hi : X.N[i]? = some n) (hln : X.env.kindOf n = some .local)
      (hsu : ∀ (a : Addr) (oe : Obj) (cls : Value) (d : Option Addr) (pn : List (Addr × Obj)), L2N.Zn cls d oe → (∃ vs, oe.data = .fields vs) → PSs (X.suite a ((a, oe) :: pn)) (b₀ :: suite) (ts a cls d)) (r : HdsA X hds l) :
      HdsA X (.ExceptHandler (some (.Name x np)) (some n) (b₀ :: suite) pos' :: hds) ((c, i, ts) :: l)
section
variable {X : Cx} {body : List Stmt} {h₀ : ExceptHandler} {hds : List ExceptHandler} {l : List (Value × Nat × (Addr → Value → Option Addr → TS))} {pos : Pos} {tb : WX → TS} {Wout : WX}
theorem ps_try_manyA (hs : X.stack = X.env :: X.outer) (hf : X.env.frame = some X.env.locals) (hN : X.N.Nodup) (tk : L2N.Takes X Wout)
    (hb : ∀ (W : WX) (pn : List (Addr × Obj)) (xe : Value → Shared → Prop), L2N.Takes (X.tr pn xe) W → PassesOwn (model X.prog X.w) X.A X.env xe → PSs (X.tr pn xe) body (tb W))
    (hh : HdsA X (h₀ :: hds) l) : PS X (.Try body (h₀ :: hds) [] [] pos) (fun D σ H => tb (wManyA X.K Wout D l) D σ H) := by
  refine ⟨fun pins s σ H D I h => ?_⟩
  have ok := I.ok
  have hfr : X.A.frames = some (X.env :: X.outer) := by rw [ok.frames, hs]
  refine wpAny_Try_except ?_
  refine wpAny_mono ((hb (wManyA X.K Wout D l) (X.pn ++ pins) (fun e s₁ => wpAny (model X.prog X.w) X.A (noteFrame e X.env) (fun _ s₂ => wpAny (model X.prog X.w) X.A (setFlight e none) (fun _ s₃ =>
    wpAny (model X.prog X.w) X.A (handleBy e X.env (h₀ :: hds)) (SP X pins D) X.xe s₃) X.xe s₂) X.xe s₁) (fun u s' xx => ?_) PassesOwn.looking).run [] s σ H D (I.toTry _) h) (fun f s1 hsp => ?_) (fun e s1 he => he)
  · -- the catch
    obtain ⟨a, B, sI, pins', σ', H', cls, d, rfl, J', nb, up, sky, na, os, ag, w⟩ := xx
    have J : Inv X pins σ' H' sI := J'.ofTry ok
    have sky' : Sky B (X.env :: X.outer) a (L2N.Zn cls d) X.env.locals s'.heap := by rw [← hs]; exact sky
    show wpAny (model X.prog X.w) X.A (noteFrame (.ref a) X.env) _ _ _
    refine L2N.Sky.land L2N.Zn.steady hfr hf sky' fun h3 fl3 up3 => ?_
    have J3 : Inv X pins σ' H' { s' with heap := h3 } := J.landed nb fl3.1 (up.trans up3) os ag
    obtain ⟨oe3, vs3, he3, hz3, hd3⟩ := fl3.there
    have notFr : ∀ {h : Heap} {o : Obj} {vs : Array Value}, h.FunFrames B (X.env :: X.outer) → h.get? a = some o → o.data = .fields vs → a ∉ frs (X.env :: X.outer) := fun {h o vs} ff e dd hm => by
      obtain ⟨_, o', e', hnf⟩ := ff.mem hm
      rw [e] at e'; cases e'
      exact hnf _ dd
    have nfr := notFr fl3.2.2.1 he3 hd3
    have nL : a ≠ X.env.locals := fun z => nfr (List.mem_filterMap.mpr ⟨X.env, List.mem_cons_self, by rw [hf, z]⟩)
    have nF : a ∉ X.fs := fun hm => by
      obtain ⟨e, he, q⟩ := List.mem_filterMap.mp hm
      exact nfr (List.mem_filterMap.mpr ⟨e, List.mem_cons_of_mem _ he, q⟩)
    have S3 := J3.suite he3 hd3 na nL nF
    have go : ∀ {hds' : List ExceptHandler} {l' : List (Value × Nat × (Addr → Value → Option Addr → TS))}, HdsA X hds' l' → wManyA X.K Wout D l' cls d σ' H' →
        wpAny (model X.prog X.w) X.A (handleBy (.ref a) X.env hds') (SP X pins D) X.xe { s' with heap := h3 } := by
      intro hds' l' hk
      induction hk with
      | nil =>
        intro w
        refine wpAny_handleBy_nil ?_
        obtain ⟨k1, k2, k3, oe, vs, T, oT, ts', he, hz, hd, h1, hr⟩ := id fl3
        unfold PySem.passOn
        refine wpAny_bind (wpAny_field he hd h1 ?_)
        rw [if_neg (show ¬ ((Value.ref T == Value.none) = true) from by simp)]
        have fin : wpAny (model X.prog X.w) X.A (setFlight (.ref a) X.env.frame) (fun _ s4 => wpAny (model X.prog X.w) X.A (throw (.ref a) : Sem Flow) (SP X pins D) X.xe s4) X.xe { s' with heap := h3 } := by
          rw [hf]
          refine HandSPX.setFlight_upZ fl3 fun h4 hh4 up4 => wpAny_throw (tk _ _ ?_)
          exact ⟨a, B, sI, pins, σ', H', cls, d, rfl, J, nb, (up.trans up3).trans up4, .inr (.inr (by rw [hs]; exact hh4)), na, os, ag, w⟩
        first
          | exact wpAny_bind (wpAny_pure (wpAny_bind fin))
          | exact wpAny_bind fin
      | @cons x n c i ts b₀ suite np pos' hds2 l2 hc hi hln hsu r ih =>
        intro w
        obtain ⟨b, hb1, hyes, hno⟩ := w
        refine wpAny_handleBy_cons (codeAny_handlers_test ?_) (by intro q; cases q)
        have LT : PySem.W.Looks (model X.prog X.w) h3 (typeOf (.ref a)) cls := fun A Q E s k q => wpAny_typeOf_ref (k _ _ he3) (by rw [hz3.1]; exact q)
        have LM := PySem.W.exm_one (M := model X.prog X.w) (J3.kIn) LT hb1
        have test : ∀ {Q : Value → Shared → Prop} {E : Value → Shared → Prop}, Q c { s' with heap := h3 } → wpAny (model X.prog X.w) (X.A.mark (some (.ref a))) (eval (.Name x np) X.env) Q E { s' with heap := h3 } := fun {Q E} q => by
          obtain ⟨hg, hdbg, hm | ⟨hm, hv, hnn⟩⟩ := hc
          · exact ld_glob (X := X.suite a ((a, oe3) :: (X.pn ++ pins))) S3 hg hm q hdbg
          · exact ld_blt (X := X.suite a ((a, oe3) :: (X.pn ++ pins))) S3 hg hm hv q hnn hdbg
        refine test (LM.here ?_)
        cases b with
        | true =>
          refine codeAny_handlers_suite_as ?_
          refine HandSPX.lands_againZ fl3 fun h4 fl4 up4 => ?_
          have J4 : Inv X pins σ' H' { s' with heap := h4 } := J.landed nb fl4.1 ((up.trans up3).trans up4) os ag
          obtain ⟨oe4, vs4, he4, hz4, hd4⟩ := fl4.there
          have S4 := J4.suite he4 hd4 na nL nF
          refine store_ok (X := X.suite a ((a, oe4) :: (X.pn ++ pins))) (v := .ref a) S4 hN hi (.inl hln) rfl (fun s5 S5 => ?_) (.inr hln)
          refine wpAny_mono ((hsu a oe4 cls d (X.pn ++ pins) hz4 ⟨_, hd4⟩).run [] s5 _ H' _ S5 (hyes rfl a na)) (fun f s6 hsp => ?_) (fun _ _ z => False.elim z)
          have end_ : ∀ {σ6 : L2.St} {H6 : Hp} {Q : Shared → Prop}, Inv (X.suite a ((a, oe4) :: (X.pn ++ pins))) [] σ6 H6 s6 → (∀ s7, Inv X pins (σ6.set i none) H6 s7 → Q s7) →
              wpAny (model X.prog X.w) X.A (do bindName X.env n .none; unbindBehindTheSuite X.env n pos') (fun _ s7 => Q s7) X.xe s6 := fun {σ6 H6 Q} S6 hq => gone_ok (S6.unsuite ok) hN hi hln hq
          cases f with
          | next =>
            obtain ⟨σ6, H6, S6, q6⟩ := hsp
            exact end_ S6 fun s7 J7 => ⟨_, _, J7, q6⟩
          | brk =>
            obtain ⟨σ6, H6, S6, q6⟩ := hsp
            exact end_ S6 fun s7 J7 => ⟨_, _, J7, q6⟩
          | cont =>
            obtain ⟨σ6, H6, S6, q6⟩ := hsp
            exact end_ S6 fun s7 J7 => ⟨_, _, J7, q6⟩
          | ret u =>
            obtain ⟨v6, σ6, H6, S6, r6, q6⟩ := hsp
            exact end_ S6 fun s7 J7 => ⟨_, _, _, J7, r6, q6⟩
        | false =>
          show wpAny _ X.A (handleBy (.ref a) X.env hds2) _ _ _
          exact ih (hno rfl)
    exact go hh w
  · cases f with
    | next =>
      obtain ⟨σ', H', J', q⟩ := hsp
      exact wpAny_execs_nil ⟨σ', H', J'.ofTry ok, q⟩
    | brk =>
      obtain ⟨σ', H', J', q⟩ := hsp
      exact ⟨σ', H', J'.ofTry ok, q⟩
    | cont =>
      obtain ⟨σ', H', J', q⟩ := hsp
      exact ⟨σ', H', J'.ofTry ok, q⟩
    | ret u =>
      obtain ⟨v, σ', H', J', r, q⟩ := hsp
      exact ⟨v, σ', H', J'.ofTry ok, r, q⟩
end
end Ev

set_option Elab.async false
set_option linter.all false
set_option maxRecDepth 100000
set_option maxHeartbeats 4000000
namespace Ev
open PySem PySem.Spec PyProof.Rows L2 LamX C8
structure DefX (K : PySem.W.Frag) (mg : Str → Option Value) (x : Str) (st : Stmt) (N ps : List Str) : Prop where
  exb : ∃ (f : Addr) (fd : FuncData), C8.Def K mg x st f fd ∧ ∀ us : List Value, us.length = ps.length → bindArgs fd ⟨us, []⟩ = pure (ps.zip us)
  S : FnScope N ps (fnScope st)
theorem DefX.ex {K : PySem.W.Frag} {mg : Str → Option Value} {x : Str} {st : Stmt} {N ps : List Str} (d : DefX K mg x st N ps) : ∃ (f : Addr) (fd : FuncData), C8.Def K mg x st f fd ∧ L2.Binds K fd ps [] :=
  let ⟨f, fd, F, h⟩ := d.exb; ⟨f, fd, F, .all h⟩
theorem run_H {P : Program} {w : World} {K : PySem.W.Frag} {mg : Str → Option Value} {base : Heap} {k : Nat} {f : Addr} {x : Str} {st : Stmt} {fd : FuncData} {N ps : List Str} (F : C8.Fun K x x st f fd) (S : FnScope N ps (fnScope st))
    {A : Around} {outer : List PySem.Env} {s : Shared} {H : Hp} {args : Args} {us : List Value} {vs : List V} {Q : VK} {E : XK} {p : Addr × Obj} (hr : L2H.RoomH (k + 1) A) (hot : L2H.Hot1 A p) (hpin : L2H.PinOk outer H s p) (e0 : Env0 P w K mg base A outer s H) (hb : BindsTo s fd args (ps.zip us)) (r : Vals vs us) (hl : vs.length = ps.length)
    (hbody : ∀ cdv, L2H.RoomH k (A.deeper (envOfC x (fnScope st) s.heap.objs.size f cdv)) →
      ∃ t, PSs (L2H.cxH (L2N.CX P w) P w K mg base N x (fnScope st) f cdv A outer s H E p) (fnBody st) t ∧ t { nx := fun _ H' => Q .non H', rt := Q } (L2.start N vs) H) :
    codeAny (model P w) A (.call (.ref f) args) (CR (L2N.CX P w) outer P w H s Q E) s := by
  obtain ⟨oc, od, dV, kV, doc, pm, an, cdv, ct, osl, rfl, lk, hcd⟩ := F.ex
  have KX : K.In s.heap := e0.mod.kin.keeps fun b o e => (e0.bs b o e).1
  have lim : s.heap.NoLimit := e0.mod.nolimit.keeps fun b o e => (e0.bs b o e).1
  have hkind : ∀ y ∈ ps.zip us, (fnScope st).names.lookup y.1 = some .local ∨ ((fnScope st).names.lookup y.1 = some .cell ∧ ((cellsFrom (s.heap.objs.size + 1) (fnScope st).names []).lookup y.1).isSome = true) := fun ⟨n, v⟩ hy => by
    rcases S.par n (List.of_mem_zip hy).1 with q | q
    · exact .inl q
    · exact .inr ⟨q, PySem.W.cellsFrom_some _ _ _ (.inl q)⟩
  refine codeAny_call_function hr.depth (KX _ _ lk) rfl S.co S.gen rfl (PySem.W.codeRec_of KX hcd) (hb _ _ _ _ ?_)
  refine wpAny_newFunctionEnv_cells S.kind hkind fun env he s1 x1 => ?_
  subst he
  refine ⟨lim.keeps x1.toInCall.keep, codeAny_func ?_⟩
  obtain ⟨t, ht, hq⟩ := hbody cdv (hr.deeper _)
  have I : Inv (L2H.cxH (L2N.CX P w) P w K mg base N x (fnScope st) f cdv A outer s H E p) [] (L2.start N vs) H s1 := L2H.inv_startH S hpin e0 hl r x1
  refine wpAny_mono (ht.run [] s1 (L2.start N vs) H _ I hq) (fun fl s' hs => ?_) fun e s' hs => hs
  have fin : ∀ {σ' : St} {H' : Hp} {v : V} {u : Value}, Inv (L2H.cxH (L2N.CX P w) P w K mg base N x (fnScope st) f cdv A outer s H E p) [] σ' H' s' → RelV v u → Q v H' → CE outer P w H s Q u s' :=
    fun {σ' H' v u} J rv q => ⟨v, H', J.os, J.bare, J.base, J.hok, rv, q⟩
  cases fl with
  | ret u =>
    obtain ⟨v, σ', H', J, rv, q⟩ := hs
    exact fin J rv q
  | next =>
    obtain ⟨σ', H', J, q⟩ := hs
    exact fin (v := V.non) (u := Value.none) J rfl q
  | brk =>
    obtain ⟨_, _, _, q⟩ := hs
    exact False.elim q
  | cont =>
    obtain ⟨_, _, _, q⟩ := hs
    exact False.elim q
/-- all that is tracked stays, tables grow -/
structure Stays (T : TX) (H H' : Hp) : Prop where
  ext : ExtN H H'
  tbl : ∀ b ps, H b = some (.tbl ps) → ∃ ps', H' b = some (.tbl ps')
  tabs : Tabs T.l H'
section
variable {G : Gc} {ι : List Addr} {H H' : Hp} {μ : Mem}
theorem Stays.grow (z : Stays G.T H H') : Grow G ι H ι H' := ⟨List.prefix_refl _, fun _ h => .inl h, fun b o e _ n => z.ext b o e n, fun b ps e _ => z.tbl b ps e⟩
theorem Stays.wd (z : Stays G.T H H') (w : Wd G ι μ H) : Wd G ι μ H' := by
  have keep : ∀ a ∈ ι, ∀ u, H a = some u → H' a = some u := fun a ha u e => by
    obtain ⟨o, e2, q⟩ := w.mu a ha
    rw [e] at e2
    cases e2
    exact z.ext a u e fun ps h => by rw [h] at q; cases q
  refine ⟨w.len, w.nd, fun a ha => ?_, fun n a o h1 h2 => (w.ob n a o h1 h2).grow w z.grow (keep a (List.mem_of_getElem? h1)), z.tabs⟩
  obtain ⟨o, e, q⟩ := w.mu a ha
  exact ⟨o, keep a ha o e, q⟩
theorem Stays.refl {T : TX} (t : Tabs T.l H) : Stays T H H := ⟨ExtN.refl H, fun _ ps h => ⟨ps, h⟩, t⟩
theorem Stays.trans {T : TX} {H1 : Hp} (a : Stays T H H1) (b : Stays T H1 H') : Stays T H H' := ⟨a.ext.trans b.ext, fun c ps h => let ⟨ps', h'⟩ := a.tbl c ps h; b.tbl c ps' h', b.tabs⟩
theorem Stays.obj {T : TX} {p : Addr} {o : HO} (t : Tabs T.l H) (h : H p = none) : Stays T H (upd H p o) := ⟨fun b u e _ => ext_new h b u e, fun b ps e => ⟨ps, ext_new h b _ e⟩, tabs_ext t (ext_new h)⟩
theorem Stays.of_grow {T : TX} (g : Grow G [] H ι H') (t : Tabs T.l H') : Stays T H H' := ⟨fun b o e n => g.ext b o e (by simp) n, fun b ps e => g.tbl b ps e (by simp), t⟩
end
/-! ### the names of the exception's classes, told while it is handled -/
/-- what _law_kinds tells of the class D -/
structure KFact (K : PySem.W.Frag) (mg : Str → Option Value) (st : Stmt) (N : List Str) (D : Addr) (txt : Str) : Prop where
  C : ExcC K D
  ex : ∃ (isx : Str → Option Bool) (n : Nat) (μ' : Mem), (∀ y b, isx y = some b → IsxOk K mg D y b) ∧ hSs ⟨N, fnScope st, isx⟩ n (fnBody st) (some (.rw 0) :: List.replicate (N.length - 1) none) [] = .rt (.str txt) μ'
def tKinds (T : TX) (K : PySem.W.Frag) (mg : Str → Option Value) (st : Stmt) (N : List Str) (p : Addr × Obj) (i : Nat) : TE := fun σ H Q => σ[i]? = some (some (.ref p.1)) ∧ Tabs T.l H ∧ ∃ (D : Addr) (txt : Str), KFact K mg st N D txt ∧ L2N.Zn (.ref D) none p.2 ∧ ∀ H', Stays T H H' → Q (.str txt) H'
theorem pe_kinds {X : Cx} {T : TX} {kn e y : Str} {st : Stmt} {N : List Str} {p : Addr × Obj} {i k : Nat} {q0 q1 pos : Pos} (dk : DefX X.K X.mg kn st N [y]) (hst : ∀ x, locK ((fnScope st).names.lookup x) = true → (fnScope st).names.lookup x = some .local)
    (hp : p ∈ X.pn) (hot : L2H.Hot1 X.A p) (hf : ∃ vs, p.2.data = .fields vs) (bz : X.mg "zip" = none) (bi : X.mg "isinstance" = none) (hr : L2H.RoomH (k + 1) X.A) (he : PE X (.Name e q1) (tVar i)) (hg : Gl X kn) (hdb : (kn == ("__debug__" : Str)) = false) :
    PE X (.Call (.Name kn q0) [.Name e q1] [] pos) (tKinds T X.K X.mg st N p i) := by
  obtain ⟨f, fd, F, hb⟩ := dk.ex
  refine ⟨fun pins s σ H Q I h => ?_⟩
  obtain ⟨hs, tabs, D, txt, ⟨C, isx, n, μ', hisx, hres⟩, hz, hQ⟩ := h
  refine wpAny_Call_Name_kw (ld_glob I hg F.mgf ?_ hdb)
  have ha : PA X [.Name e q1] (tCons (tVar i) tNil) := pa_cons he pa_nil rfl
  refine PySem.W.callWith_K (h₀ := X.base) I.ok.mod.kin F.kp (thn (ha.run pos pins s σ H (fun vs H1 => vs = [V.ref p.1] ∧ H1 = H) I ⟨_, hs, rfl, rfl⟩) fun us s1 ⟨vs, H1, I1, r1, ev, eH⟩ => ⟨I1.kIn, ?_⟩) rfl rfl
  subst ev eH
  have hl : us.length = 1 := by rw [← r1.length]; rfl
  have b := hb s1 us I1.kIn (by rw [List.append_nil]; exact hl)
  rw [List.append_nil] at b
  have P1 := I1.pin p (List.mem_append_left _ hp)
  have hpin : L2H.PinOk X.stack H1 s1 p := ⟨P1.1, P1.2.1, fun hm => (List.mem_cons.mp (I1.stkSub p.1 hm)).elim P1.2.2.1 P1.2.2.2.1, P1.2.2.2.2⟩
  refine wpAny_call (codeAny_mono (run_H (k := k) (E := fun _ _ _ => False) (Q := Q) F.fn dk.S hr hot hpin I1.env0 b r1 rfl fun cdv hr' => ?_) fun r s' hq => ?_)
  · let T' : TX := { l := T.l, x := fun _ => some p.1 }
    have ok : XH (L2H.cxH (L2N.CX X.prog X.w) X.prog X.w X.K X.mg X.base N kn (fnScope st) f cdv X.A X.stack s1 H1 (fun _ _ _ => False) p) T' ⟨N, fnScope st, isx⟩ p D :=
      { N := rfl, nd := dk.S.nd, sc := rfl, st := fun x hx => ⟨.inl (hst x hx), .inr (hst x hx)⟩, ht := rfl, hp := List.mem_singleton.mpr rfl, hot := hot, C := C, hz := hz.zc, hf := hf, isx := hisx, bz := bz, bi := bi }
    refine ⟨_, hsnd_Ss (W := fun _ _ _ _ => False) ok n _, ?_⟩
    have hlen : N.length = 1 + (N.length - 1) := by
      have := congrArg List.length dk.S.pre
      rw [List.length_take] at this
      have h1 : [y].length = 1 := rfl
      omega
    refine ⟨some (.rw 0) :: List.replicate (N.length - 1) none, [], [], ⟨rfl, .nil, fun a ha => absurd ha (by simp), fun n a o h => by simp at h, tabs⟩, ⟨?_, fun j d hj => ?_⟩, ?_⟩
    · unfold L2.start
      rw [List.length_cons, List.length_replicate, List.length_append, List.length_map, List.length_replicate]
      show _ = 1 + (N.length - 1)
      omega
    · cases j with
      | zero =>
        cases hj
        exact ⟨.ref p.1, rfl, .rw rfl⟩
      | succ j =>
        exfalso
        rw [List.getElem?_cons_succ, List.getElem?_replicate] at hj
        split at hj <;> cases hj
    · rw [hres]
      intro v H' ι' g w r
      cases r
      exact hQ H' (.of_grow g w.tb)
  · cases r with
    | error e =>
      obtain ⟨_, _, _, _, _, _, _, _, _, _, _, _, z⟩ := hq
      exact z.elim
    | ok fl =>
      cases fl with
      | ret u => exact I1.after hq
      | next => exact False.elim hq
      | brk => exact False.elim hq
      | cont => exact False.elim hq
end Ev

set_option Elab.async false
set_option linter.all false
set_option maxRecDepth 100000
set_option maxHeartbeats 4000000
namespace Ev
open PySem PySem.Spec PyProof.Rows L2 LamX C8
/-- what is to be known of the def that tells what a call returns, or its error -/
structure LawF (K : PySem.W.Frag) (mg : Str → Option Value) (x : Str) (stC stK : Stmt) (a fo e kn tm se y : Str) (NK : List Str) (TM SE : Addr) (told : Str) : Prop where
  dx : DefX K mg x stC [a, fo, e] [a]
  dk : DefX K mg kn stK NK [y]
  shape : ∃ (b1 : Stmt) (bs1 : List Stmt) (j1 j2 j3 j4 : Nat) (p1 p2 p3 p4 p5 p6 p7 p8 p9 p10 p11 p12 p13 p14 p15 p16 p17 p18 p19 p20 p21 p22 : Pos), fnBody stC = [.Assign [.Name fo p1] (.Constant .none j1 p2) p3,
    .Try [.Assign [.Name fo p4] (.Tuple [.Constant (.str told) j2 p5, .Call (.Name a p6) [] [] p7] j3 p8) p9]
      [.ExceptHandler (some (.Name tm p10)) (some e) (b1 :: bs1) p11,
       .ExceptHandler (some (.Name se p12)) (some e) [.Assign [.Name fo p13] (.Tuple [.Call (.Name kn p14) [.Name e p15] [] p16] j4 p17) p18] p19] [] [] p20,
    .Return (some (.Name fo p21)) p22]
  slo : ∀ z ∈ [a, fo, e], (fnScope stC).names.lookup z = some .local ∧ badName z = false
  sgl : ∀ z ∈ [kn, tm, se], (fnScope stC).names.lookup z = some .globalImplicit ∧ badName z = false
  hst : ∀ x, locK ((fnScope stK).names.lookup x) = true → (fnScope stK).names.lookup x = some .local
  mtm : mg tm = some (.ref TM)
  mse : mg se = some (.ref SE)
  mz : mg "zip" = none
  mi : mg "isinstance" = none
  cls : ∀ c ∈ lawCls, ∃ D, mg c = some (.ref D) ∧ PySem.W.exmOne K (.ref D) (.ref TM) = some false ∧ PySem.W.exmOne K (.ref D) (.ref SE) = some true ∧ KFact K mg stK NK D (c ++ " +")
theorem law_ok {X : Cx} {T : TX} {W : WX} {k : Nat} {x : Str} {c P : Addr} {stC stK : Stmt} {a fo e kn tm se y : Str} {NK : List Str} {TM SE : Addr} (F : LawF X.K X.mg x stC stK a fo e kn tm se y NK TM SE "told") (hdb : (x == ("__debug__" : Str)) = false)
    (TB : TabB X.base X.mg c P) (hcode : X.env.code = .ref c) (hmT : (P, X.env.qual ++ "<lambda>") ∈ T.l) (hu : ∀ p ∈ T.l, p.1 = P → p.2 = X.env.qual ++ "<lambda>") (hr : Room (k + 2) X.A) : LawOk X T W k x := by
  intro params body scope f p lpos pos hlam g1 g2 g3 g4 g5 g6 g7 hg hbody
  obtain ⟨f1, f2, f3, f4, f5, f6, f7⟩ := params
  dsimp only at g1 g2 g3 g4 g5 g6 g7
  subst g1 g2 g3 g4 g5 g6 g7
  have L := lamS_by hlam
  obtain ⟨g, fd, D, hb⟩ := F.dx.ex
  obtain ⟨oc, od, dV, kV, doc, pm, an, cdv, ct, osl, rfl, lk, hcd⟩ := D.fn.ex
  obtain ⟨b1, bs1, j1, j2, j3, j4, p1, p2, p3, p4, p5, p6, p7, p8, p9, p10, p11, p12, p13, p14, p15, p16, p17, p18, p19, p20, p21, p22, hB⟩ := F.shape
  refine ⟨fun pins s σ H Q I ⟨ρ, μ, ι, w, ev, q⟩ => ?_⟩
  refine wpAny_Call_Name_kw (ld_glob I hg D.mgf ?_ hdb)
  refine PySem.W.callWith_K (h₀ := X.base) I.ok.mod.kin D.kp ?_ (by rfl) (by rfl)
  show wpAny _ _ (spliced ((false, eval (.Lambda ⟨[], [], none, [], [], none, []⟩ body scope lpos) X.env) :: backTo pos (starEach [] X.env))) _ _ s
  refine Calls.spliced_cons (lam_make3 I TB hcode hmT hu w.tb rfl (L.has I.ok) fun fa c' pm' ctv H1 s' I1 eN eT T1 hf hfn hfr hco => ?_)
  refine Calls.spliced_nil ⟨I1.kIn, ?_⟩
  have z1 : Stays T H H1 := ⟨eN, eT, T1⟩
  have w1 : Wd (gx X T) ι μ H1 := z1.wd (G := gx X T) w
  have gr1 : Grow (gx X T) ι H ι H1 := z1.grow (G := gx X T)
  refine wpAny_call (codeAny_mono (run_ofS (CX := L2N.CX X.prog X.w) (k := k + 1) (N := [a, fo, e]) (ps := [a]) (us := [.ref fa]) (vs := [V.ref fa]) (Q := Q) (E := fun _ _ _ => False) lk hcd F.dx.S hr I1.env0 (hb s' [.ref fa] I1.kIn rfl) (.cons rfl .nil) rfl fun hr' => ?_) fun r s2 hq => ?_)
  · -- the body
    let Z : Cx := cxOf (L2N.CX X.prog X.w) X.prog X.w X.K X.mg X.base [a, fo, e] x (fnScope stC) g cdv X.A X.stack s' H1 (fun _ _ _ => False)
    have nd : ([a, fo, e] : List Str).Nodup := F.dx.S.nd
    have sa := F.slo a (by simp)
    have sf := F.slo fo (by simp)
    have sx := F.slo e (by simp)
    have sk := F.sgl kn (by simp)
    have st := F.sgl tm (by simp)
    have ss := F.sgl se (by simp)
    -- the slots
    let lst : List (Value × Nat × (Addr → Value → Option Addr → TS)) := [(.ref TM, 2, fun _ _ _ => fun _ _ _ => False),
      (.ref SE, 2, fun a' cls d => fun D σ H => d = none ∧ σ[2]? = some (some (.ref a')) ∧ Tabs T.l H ∧ (∃ C txt, cls = .ref C ∧ KFact X.K X.mg stK NK C txt ∧ ∀ H' p, Stays T H H' → H' p = none → D.nx (σ.set 1 (some (.ref p))) (upd H' p (.tup [.str txt]))))]
    have hlam' : ∀ (A : Around) (outer : List PySem.Env) (s : Shared) (H : Hp) (E : XK), Room k (A.deeper (lamEnv X scope s.heap.objs.size fa c')) → PE (lamCxN X A outer s H E scope fa c') body (tE (gx X T) (fun cls d _ H' => E cls d H') f) := fun A outer s H E hr2 =>
      hbody (lamCxN X A outer s H E scope fa c') (fun cls d _ H' => E cls d H') rfl rfl rfl rfl rfl rfl rfl rfl hr2 (L2N.takes_of rfl rfl rfl rfl) (L2.passes_of rfl)
    let tb : WX → TS := fun W => tAsg (tTup (tCons (tC (.str "told")) (tCons (fun σZ HZ Q => σZ[0]? = some (some (.ref fa)) ∧ HZ c' = some (CodeO c' (X.env.qual ++ "<lambda>")) ∧ tE (gx X T) (fun cls d _ H' => W cls d σZ H') f σ HZ Q) tNil))) (gName 1)
    have hb' : ∀ (W : WX) (pn : List (Addr × Obj)) (xe : Value → Shared → Prop), L2N.Takes (Z.tr pn xe) W → PassesOwn (model Z.prog Z.w) Z.A Z.env xe → PSs (Z.tr pn xe) [.Assign [.Name fo p4] (.Tuple [.Constant (.str "told") j2 p5, .Call (.Name a p6) [] [] p7] j3 p8) p9] (tb W) := fun W pn xe tk _ =>
      pss_one (ps_set nd rfl (.inl sf.1) (pe_tup (pa_cons pe_str (pa_cons (pe_actN (i := 0) (tb := fun E => tE (gx X T) (fun cls d _ H' => E cls d H') f) I1 L hf hfn hfr rfl tk hr' hlam' rfl (.inl sa.1) (bad_dbg sa.2).1 (bad_dbg sa.2).2.1) pa_nil rfl) rfl)) rfl (.inr sf.1))
    have hh : HdsA Z [.ExceptHandler (some (.Name tm p10)) (some e) (b1 :: bs1) p11, .ExceptHandler (some (.Name se p12)) (some e) [.Assign [.Name fo p13] (.Tuple [.Call (.Name kn p14) [.Name e p15] [] p16] j4 p17) p18] p19] lst := by
      refine .cons ⟨st.1, (bad_dbg st.2).1, .inl F.mtm⟩ rfl sx.1 (fun a' oe cls d pn hz hv => ⟨fun _ _ _ _ _ _ h => h.elim⟩) (.cons ⟨ss.1, (bad_dbg ss.2).1, .inl F.mse⟩ rfl sx.1 (fun a' oe cls d pn hz hv => ?_) .nil)
      refine (pss_one (ps_set (i := 1) nd rfl (.inl sf.1) (pe_tup (pa_cons (pe_kinds (T := T) (p := (a', oe)) (i := 2) (k := k) (X := Z.suite a' ((a', oe) :: pn)) F.dk F.hst (List.mem_cons_self) ?_ hv F.mz F.mi ⟨hr'.dp, hr'.un⟩ (pe_var rfl (.inl sx.1) (bad_dbg sx.2).1 (bad_dbg sx.2).2.1) sk.1 (bad_dbg sk.2).1) pa_nil rfl)) rfl (.inr sf.1))).weak fun D σ H h => ?_
      · obtain ⟨vs, hv⟩ := hv
        exact ⟨rfl, vs, hv, hz.2.2 vs hv⟩
      · obtain ⟨hd, h1, h2, C, txt, hc, hk, h3⟩ := h
        subst hd hc
        exact ⟨h1, h2, C, txt, hk, hz, fun H' st => ⟨by show 1 ≤ sizeLine; rw [sizeLine_eq]; omega, fun p hp => h3 H' p st hp⟩⟩
    refine ⟨_, by rw [hB]; exact pss_cons (ps_set (i := 1) nd rfl (.inl sf.1) pe_non rfl (.inr sf.1)) (pss_cons (ps_try_manyA (X := Z) (Wout := fun _ _ _ _ => False) rfl rfl nd (fun _ _ x => by obtain ⟨_, _, _, _, _, _, _, _, _, _, _, _, _, _, _, _, z⟩ := x; exact z.elim) hb' hh) (pss_one (ps_ret (pe_var (i := 1) rfl (.inl sf.1) (bad_dbg sf.2).1 (bad_dbg sf.2).2.1)))), ?_⟩
    refine ⟨rfl, hco, ρ, μ, ι, w1, ev.grow w gr1, ?_⟩
    unfold eLaw at q
    cases hf : f ρ μ with
    | er => rw [hf] at q; exact q.elim
    | ok d μ' =>
      rw [hf] at q
      intro v H' ι' g' w' r
      refine ⟨by show 2 ≤ sizeLine; rw [sizeLine_eq]; omega, fun p hp => ⟨.ref p, rfl, ?_⟩⟩
      exact q _ _ ι' ((gr1.trans g').trans (.obj hp)) (w'.obj hp) (.tup (SqT.of upd_same) (.cons (.str _) (.cons (r.grow w' (.obj hp)) .nil)))
    | ex x1 μ' =>
      rw [hf] at q
      intro H' ι' cls od g' w' hx
      have q : Pst (gx X T) ι H (fun c d H' => W c d σ H') Q (match lawEx x1 with | some d => .ok d μ' | none => .er) := q
      unfold lawEx at q
      split at q
      · rename_i d0 hd0
        split at hd0
        · rename_i hcond
          cases hd0
          rw [Bool.and_eq_true] at hcond
          obtain ⟨D0, hm0, e1, e2, kf⟩ := F.cls x1.c (by simpa using hcond.2)
          obtain ⟨hx1, hx2, hx3⟩ := hx
          have hx1 : X.mg x1.c = some cls := hx1
          rw [hm0] at hx1
          cases hx1
          refine ⟨false, e1, (fun h => by cases h), fun _ => ⟨true, e2, fun _ a' na => ⟨hx3, rfl, w'.tb, D0, _, rfl, kf, fun H'' p z hp => ⟨.ref p, rfl, ?_⟩⟩, fun h => by cases h⟩⟩
          have z' : Stays (gx X T).T H' H'' := z
          exact q _ _ ι' ((gr1.trans g').trans (z'.grow.trans (.obj hp))) ((z'.wd w').obj hp) (.tup (SqT.of upd_same) (.cons (.str _) .nil))
        · cases hd0
      · exact q.elim
  · cases r with
    | error e =>
      obtain ⟨_, _, _, _, _, _, _, _, _, _, _, _, z⟩ := hq
      exact z.elim
    | ok fl =>
      cases fl with
      | ret u => exact I1.after hq
      | next => exact False.elim hq
      | brk => exact False.elim hq
      | cont => exact False.elim hq
end Ev

set_option Elab.async false
set_option linter.all false
set_option maxRecDepth 100000
set_option maxHeartbeats 4000000
namespace Ev
open PySem PySem.Spec PyProof.Rows L2 LamX C8
/-! ### defs by their texts -/
structure DI where
  x : Str
  st : Stmt
  ps : List Str
  N : List Str
  law : Option Str := none
structure Pg where
  ds : List DI
  gv : List (Str × D)
  bn : List Str
  exc : List Str
  fuel : Nat
  dep : Nat
def Pg.cfg (P : Pg) (call : Tab) (d : DI) : Cfg :=
  { N := d.N, sc := fnScope d.st, st := (fnScope d.st).names, call := call, gv := fun x => P.gv.lookup x, bn := fun x => P.bn.contains x, exc := fun x => P.exc.contains x, law := d.law, fuel := P.fuel }
def runS : RS → R D
  | .rt d μ => .ok d μ
  | .nx _ μ => .ok .non μ
  | .ex x _ μ => .ex x μ
  | _ => .er
def Pg.body (P : Pg) (call : Tab) (d : DI) : S := evSs (recN P.dep) (P.cfg call d) (fnBody d.st)
def Pg.fn (P : Pg) (call : Tab) (d : DI) : Fn := fun ds μ => if ds.length = d.ps.length then runS (P.body call d (ds.map some ++ List.replicate (d.N.length - d.ps.length) none) μ) else .er
def Pg.call (P : Pg) : Nat → Tab
  | 0 => fun _ => none
  | n + 1 => fun x => (P.ds.find? fun d => d.x == x).map (P.fn (P.call n))
/-- of a def that makes lambdas: its code object, its table -/
structure DefL (K : PySem.W.Frag) (mg : Str → Option Value) (cs : List (Addr × Addr)) (T : TX) (d : DI) : Prop where
  ex : ∃ (f c P : Addr), mg d.x = some (.ref f) ∧ (∀ (oc : Value) (od : Option Addr) (dV kV doc pm : Value) (an : Option Addr) (cdv ct : Value) (osl : Array (Option Value)),
      K.lookup f = some ⟨oc, od, .func (PySem.W.fnOf d.x d.x (fnArgs d.st) (fnBody d.st) (fnScope d.st) dV kV doc pm an cdv ct), osl⟩ → cdv = .ref c) ∧
    (c, P) ∈ cs ∧ (P, (envOfC d.x (fnScope d.st) 0 0 .none).qual ++ "<lambda>") ∈ T.l ∧ ∀ p ∈ T.l, p.1 = P → p.2 = (envOfC d.x (fnScope d.st) 0 0 .none).qual ++ "<lambda>"
structure PgOk (P : Pg) (K : PySem.W.Frag) (mg : Str → Option Value) (cs : List (Addr × Addr)) (T : TX) : Prop where
  defs : ∀ d ∈ P.ds, DefX K mg d.x d.st d.N d.ps
  gv : ∀ x d, P.gv.lookup x = some d → ∃ u v, mg x = some u ∧ RelV v u ∧ ∀ ι H, RelD ⟨K, mg, T⟩ ι H d v
  bn : ∀ x ∈ P.bn, mg x = none
  exc : ∀ x ∈ P.exc, ExcOk K mg x
  lawF : ∀ d ∈ P.ds, ∀ x, d.law = some x → (∃ stC stK a fo e kn tm se y NK TM SE, LawF K mg x stC stK a fo e kn tm se y NK TM SE "told") ∧ (x == ("__debug__" : Str)) = false ∧ DefL K mg cs T d
theorem runS_ok {G : Gc} {ι : List Addr} {H : Hp} {E : XK} {Q : VK} {r : RS} (h : Pst G ι H E Q (runS r)) : PsS G ι H (fun c d _ H' => E c d H') { nx := fun _ H' => Q .non H', rt := Q } r := by
  cases r with
  | nx ρ m => exact fun σ' H' ι' g w _ => h .non H' ι' g w .non
  | rt d m => exact h
  | ex x ρ m => exact fun σ' H' ι' c o g w _ r => h H' ι' c o g w r
  | bk ρ m => exact (show False from h).elim
  | ct ρ m => exact (show False from h).elim
  | er => exact h
theorem start_env {G : Gc} {ι : List Addr} {H : Hp} {N ps : List Str} {ds : List D} {vs : List V} (r : RelDs G ι H ds vs) (hl : vs.length = ps.length) (hp : ps.length ≤ N.length) : EnvR G ι H (ds.map some ++ List.replicate (N.length - ps.length) none) (L2.start N vs) := by
  have hd := r.length
  unfold L2.start
  refine ⟨by simp only [List.length_append, List.length_map, List.length_replicate]; omega, fun i d h => ?_⟩
  by_cases hi : i < ds.length
  · rw [List.getElem?_append_left (by rw [List.length_map]; exact hi), List.getElem?_map] at h
    cases e : ds[i]? with
    | none => rw [e] at h; cases h
    | some d' =>
      rw [e] at h
      cases h
      obtain ⟨v, h1, h2⟩ := r.get e
      exact ⟨v, by rw [List.getElem?_append_left (by rw [List.length_map, ← hd]; exact hi), List.getElem?_map, h1]; rfl, h2⟩
  · rw [List.getElem?_append_right (by rw [List.length_map]; omega), List.getElem?_replicate] at h
    split at h <;> cases h
section
variable {P : Pg} {prog : Program} {w : World} {K : PySem.W.Frag} {mg : Str → Option Value} {base : Heap} {cs : List (Addr × Addr)} {T : TX}
theorem fn_ok (ok : PgOk P K mg cs T) (tb : ∀ p ∈ cs, TabB base mg p.1 p.2) {n : Nat} (ih : CallOk prog w K mg base T (3 * n) (P.call n)) {d : DI} (hd : d ∈ P.ds) {f : Addr} {fd : FuncData} (F : C8.Def K mg d.x d.st f fd) :
    FnOk prog w K mg base (L2N.CX prog w) (3 * (n + 1)) f fd d.ps (spD ⟨K, mg, T⟩ (P.fn (P.call n) d) d.ps.length) := by
  have X0 := ok.defs d hd
  obtain ⟨oc, od, dV, kV, doc, pm, an, cdv, ct, osl, rfl, lk, hcd⟩ := F.fn.ex
  have hpl : d.ps.length ≤ d.N.length := by
    have := congrArg List.length X0.S.pre
    rw [List.length_take] at this
    omega
  refine (fn_of (k := 3 * n + 2) (sp := spD ⟨K, mg, T⟩ (P.fn (P.call n) d) d.ps.length) lk hcd X0.S (fun vs H Q E ⟨ds, μ, ι, _, r, hl, _⟩ => by rw [← r.length]; exact hl) fun A outer s H vs Q E hr hsp => ?_).mono (by omega)
  obtain ⟨ds, μ, ι, wd, r, hl, hq⟩ := hsp
  have hq : Pst ⟨K, mg, T⟩ ι H E Q (if ds.length = d.ps.length then runS (P.body (P.call n) d (ds.map some ++ List.replicate (d.N.length - d.ps.length) none) μ) else .er) := hq
  rw [if_pos hl] at hq
  let X : Cx := cxOf (L2N.CX prog w) prog w K mg base d.N d.x (fnScope d.st) f cdv A outer s H E
  have tk : L2N.Takes X (fun cls d _ H' => E cls d H') := L2N.takes_of rfl rfl rfl rfl
  have okX : XOk X T (fun cls d _ H' => E cls d H') (P.cfg (P.call n) d) (3 * n) :=
    { N := rfl
      nd := X0.S.nd
      sc := rfl
      fk := X0.S.kind
      calm := rfl
      room := hr.mono (by omega)
      tk := tk
      pass := L2.passes_of rfl
      st := fun y hy => by
        have hy : locK ((fnScope d.st).names.lookup y) = true := hy
        unfold locK at hy
        split at hy
        · rename_i e1; exact ⟨.inl e1, .inl rfl⟩
        · rename_i e1; exact ⟨.inr e1, .inl rfl⟩
        · cases hy
      call := ih
      gv := ok.gv
      bn := fun y hy => ok.bn y (by simpa [Pg.cfg] using hy)
      exc := fun y hy => ok.exc y (by simpa [Pg.cfg] using hy)
      law := fun y hy => by
        obtain ⟨⟨stC, stK, a, fo, e, kn, tm, se, yy, NK, TM, SE, LF⟩, h1, f', c, P', h2, h3, h4, h5, h6⟩ := ok.lawF d hd y hy
        have ef : f' = f := by
          have := h2.symm.trans F.mgf
          cases this
          rfl
        subst ef
        have ec := h3 _ _ _ _ _ _ _ _ _ _ lk
        exact law_ok (X := X) (c := c) (P := P') LF h1 (tb _ h4) ec h5 h6 hr }
  refine ⟨_, snd_Ss okX (rec_ok P.dep) (fnBody d.st), ?_⟩
  exact ⟨_, μ, ι, wd, start_env r (by rw [← r.length]; exact hl) hpl, runS_ok hq⟩
theorem call_ok (ok : PgOk P K mg cs T) (tb : ∀ p ∈ cs, TabB base mg p.1 p.2) : ∀ n, CallOk prog w K mg base T (3 * n) (P.call n)
  | 0, x, c, h => by cases h
  | n + 1, x, c, h => by
    have ih := call_ok ok tb n
    have h : (P.ds.find? fun d => d.x == x).map (P.fn (P.call n)) = some c := h
    cases e : P.ds.find? fun d => d.x == x with
    | none => rw [e] at h; cases h
    | some d =>
      rw [e] at h
      cases h
      have hd : d ∈ P.ds := List.mem_of_find?_eq_some e
      have hx : d.x = x := by
        have := List.find?_some e
        simpa using this
      subst hx
      obtain ⟨f, fd, F, hb⟩ := (ok.defs d hd).ex
      exact ⟨f, fd, d.ps, F.mgf, F.kp, hb, fn_ok ok tb ih hd F, fun ds μ hl => if_neg hl⟩
/-- the law's promise, from what the evaluator says of it -/
theorem lawAt_of {l : PySem.W.OpenLaw} {x p : Str} {n m k : Nat} {fa : Addr} {h : Heap} {c : Fn} (ok : PgOk P K mg cs T) (hcs : ∀ q ∈ cs, h.get? q.2 = some { cls := .none, data := .fields #[] }) (hK : ∀ q ∈ cs, K.lookup q.2 = none) (hcd : ∀ q ∈ cs, PySem.W.CodeHd h q.1 q.2)
    (hT : ∀ q ∈ T.l, ∃ r ∈ cs, r.2 = q.1) (hfa : mg x = some (.ref fa)) (hc : P.call n x = some c) (hk : 3 * n ≤ k) (hb : ∀ st, (P.ds.find? fun d => d.x == x).map (·.ps) = some st → st = [p])
    (math : ∀ ns : List Int, ns.length ≤ m → (∀ z ∈ ns, Builtin.Int.intBits z ≤ 1048576) → ∃ μ', c [.fl (ns.map .int)] [] = .ok (.bl true) μ') : LawAtS l w K (L2N.CX l.prog w) k m p mg fa h := by
  cases n with
  | zero => cases hc
  | succ n =>
    have hc' : (P.ds.find? fun d => d.x == x).map (P.fn (P.call n)) = some c := hc
    cases e : P.ds.find? fun d => d.x == x with
    | none => rw [e] at hc'; cases hc'
    | some d =>
      have hd : d ∈ P.ds := List.mem_of_find?_eq_some e
      have hx : d.x = x := by
        have := List.find?_some e
        simpa using this
      have hps : d.ps = [p] := hb _ (by rw [e]; rfl)
      obtain ⟨f, fd, F, hbi⟩ := (ok.defs d hd).exb
      rw [hx] at F
      have ef : f = fa := by
        have := F.mgf.symm.trans hfa
        cases this
        rfl
      subst ef
      rw [hps] at hbi
      refine ⟨fd, cs, spD ⟨K, mg, T⟩ c 1, hcs, hK, hcd, fun s u => .of_eq (hbi [u] rfl), fun H a ns hl hbt hH hS => ?_, fun base KX G TB => ?_⟩
      · obtain ⟨μ', hm⟩ := math ns hl hbt
        refine ⟨[.fl (ns.map .int)], [], [], ⟨rfl, .nil, fun a ha => absurd ha (by simp), fun n a o h => by simp at h, fun q hq => ?_⟩, .cons (.fl (vs := ns.map V.int) ?_ ?_) .nil, rfl, ?_⟩
        · obtain ⟨r, hr, e1⟩ := hT q hq
          exact .nil (by rw [← e1]; exact hH r hr)
        · rcases hS with h | h
          · exact .inl ⟨h, by simp⟩
          · exact .inr (.inr h)
        · clear hl hbt hS math hm
          induction ns with
          | nil => exact .nil
          | cons z zs ih => exact .cons (.int z) ih
        · rw [hm]
          intro v H' ι' g w r
          cases r
          rfl
      · rw [e] at hc'
        cases hc'
        have F' : C8.Def K mg d.x d.st f fd := by rw [hx]; exact F
        have q := fn_ok (prog := l.prog) (w := w) (base := base) ok TB (call_ok ok TB n) hd F'
        rw [hps] at q
        exact q.mono hk
end
end Ev

set_option Elab.async false
set_option linter.all false
set_option maxRecDepth 100000
set_option maxHeartbeats 4000000
namespace Ev
open PySem PySem.Spec PyProof.Rows L2 LamX C8 PySem.W
/-! ### the facts of the head's end, by one look each -/
def isDef (x : Str) : Stmt → Bool
  | .FunctionDef (name := n) .. => n == x
  | _ => false
def defSt (P : Program) (x : Str) : Stmt := (P.main.body.find? (isDef x)).getD (.Pass ⟨0, 0, 0, 0⟩)
section
variable {K : Frag} {mg : Str → Option Value} {h : Heap} (X : K.In h) (G : h.Ns mainGlobals mg)
def nsA (K : Frag) (y : Str) : Option Addr := match nsIn K mainGlobals y with
  | some (some (.ref a)) => some a
  | _ => none
include X G in
theorem nsA_mg {y : Str} {a : Addr} (e : nsA K y = some a) : mg y = some (.ref a) := by
  unfold nsA at e
  split at e
  · rename_i b hb
    cases e
    exact mg_of X G hb
  · cases e
include X G in
theorem defX_mk {x : Str} {st : Stmt} {N ps : List Str} {f : Addr} {oc kV doc pm cdv ct : Value} {od an : Option Addr} {osl : Array (Option Value)} (a : nsIn K mainGlobals x = some (some (.ref f))) (l : K.lookup f = some ⟨oc, od, .func (fnOf x x (fnArgs st) (fnBody st) (fnScope st) .none kV doc pm an cdv ct), osl⟩)
    (c : codeIn K cdv x = true) (k : keepIn K (.ref f) = true) (S : scC N ps (fnScope st) = true) (hb : ∀ us : List Value, us.length = ps.length → bindArgs (fnOf x x (fnArgs st) (fnBody st) (fnScope st) .none kV doc pm an cdv ct) ⟨us, []⟩ = pure (ps.zip us)) : DefX K mg x st N ps :=
  ⟨⟨f, _, ⟨⟨oc, od, .none, kV, doc, pm, an, cdv, ct, osl, rfl, l, c⟩, mg_of X G a, k⟩, hb⟩, fnScope_by S⟩
include X G in
theorem defL_mk {cs : List (Addr × Addr)} {T : TX} {d : DI} {f c P : Addr} {oc dV kV doc pm ct : Value} {od an : Option Addr} {osl : Array (Option Value)} (a : nsIn K mainGlobals d.x = some (some (.ref f))) (l : K.lookup f = some ⟨oc, od, .func (fnOf d.x d.x (fnArgs d.st) (fnBody d.st) (fnScope d.st) dV kV doc pm an (.ref c) ct), osl⟩)
    (h1 : (c, P) ∈ cs) (h2 : (P, (envOfC d.x (fnScope d.st) 0 0 .none).qual ++ "<lambda>") ∈ T.l) (h3 : ∀ p ∈ T.l, p.1 = P → p.2 = (envOfC d.x (fnScope d.st) 0 0 .none).qual ++ "<lambda>") : DefL K mg cs T d :=
  ⟨f, c, P, mg_of X G a, fun _ _ _ _ _ _ _ cdv _ _ e => by
    rw [l] at e
    have e1 := congrArg (fun o : Option Obj => match o with
      | some ⟨_, _, .func fd, _⟩ => fd.code
      | _ => .none) e
    exact e1.symm, h1, h2, h3⟩
/-! ### globals -/
def gvB (K : Frag) (p : Str × D) : Bool := match nsIn K mainGlobals p.1, p.2 with
  | some (some (.int i _)), .int j => i == j
  | some (some (.str x _)), .str y => x == y
  | some (some (.ref _)), .gl y => p.1 == y
  | _, _ => false
include X G in
theorem gv_ok {T : TX} {l : List (Str × D)} (e : l.all (gvB K) = true) : ∀ x d, l.lookup x = some d → ∃ u v, mg x = some u ∧ RelV v u ∧ ∀ ι H, RelD ⟨K, mg, T⟩ ι H d v := fun x d hd => by
  have h1 := List.all_eq_true.mp e _ (PySem.mem_of_lookup hd)
  unfold gvB at h1
  dsimp only at h1
  split at h1
  · rename_i i t j hi
    have e1 := eq_of_beq h1
    subst e1
    exact ⟨_, .int i, mg_of X G hi, ⟨t, rfl⟩, fun _ _ => .int _⟩
  · rename_i y t z hi
    have e1 := eq_of_beq h1
    subst e1
    exact ⟨_, .str y, mg_of X G hi, ⟨t, rfl⟩, fun _ _ => .str _⟩
  · rename_i a y hi
    have e1 := eq_of_beq h1
    subst e1
    exact ⟨_, .ref a, mg_of X G hi, rfl, fun _ _ => .gl (mg_of X G hi)⟩
  · cases h1
def bnB (K : Frag) (x : Str) : Bool := match nsIn K mainGlobals x with
  | some none => true
  | _ => false
include X G in
theorem bn_ok1 {x : Str} (e : bnB K x = true) : mg x = none := by
  unfold bnB at e
  split at e
  · rename_i hi
    exact mg_none_of X G hi
  · cases e
def excB (K : Frag) (x : Str) : Bool := match nsA K x with
  | some C => excIn K C [.type "ValueError", .type "Exception", .type "BaseException", .type "object"] "ValueError.__new__" && keepIn K (.ref C) && subIn K (.ref C) (.type "BaseException") == some true && typeIn K (.ref C) == some (.type "type")
  | none => false
include X G in
theorem exc_ok1 {x : Str} (e : excB K x = true) : ExcOk K mg x := by
  unfold excB at e
  split at e
  · rename_i C hC
    simp only [Bool.and_eq_true, beq_iff_eq] at e
    exact ⟨C, nsA_mg X G hC, e.1.1.1, e.1.1.2, e.1.2, e.2⟩
  · cases e
/-! ### the classes of errors -/
def excCB (K : Frag) (D : Addr) : Bool := findIn K (.ref D) "__getattribute__" == some (some (.builtin "BaseException.__getattribute__")) && findIn K (.ref D) "__getattr__" == some none && subIn K (.ref D) (.type "BaseException") == some true && hasDictIn K D && findIn K (.ref D) "__class__" == some (some (.builtin "object.__class__")) &&
  specialIn K (.builtin "object.__class__") "__get__" == some (some (.builtin "getset_descriptor.__get__")) && takesIn K (.builtin "object.__class__") == some true && mroIn K D (.type "object") == some true
theorem excC_of {K : Frag} {D : Addr} (e : excCB K D = true) : ExcC K D := by
  unfold excCB at e
  simp only [Bool.and_eq_true, beq_iff_eq] at e
  obtain ⟨⟨⟨⟨⟨⟨⟨h1, h2⟩, h3⟩, h4⟩, h5⟩, h6⟩, h7⟩, h8⟩ := e
  exact ⟨h1, h2, h3, h4, h5, h6, h7, h8⟩
def allCls : List Str := "TooMany" :: lawCls
def isxT (c y : Str) : Option Bool := if y = "ValueError" then some true else if allCls.contains y then some (y == c) else none
def clsB (K : Frag) (c : Str) : Bool := match nsA K c, nsA K "TooMany", nsA K "StartError" with
  | some D, some TM, some SE => exmOne K (.ref D) (.ref TM) == some false && exmOne K (.ref D) (.ref SE) == some true && excCB K D && (allCls.all fun y => match nsA K y with
      | some C => kitOne K (.ref D) (.ref C) == some (y == c)
      | none => false) && kitOne K (.ref D) (.type "ValueError") == some true && bnB K "ValueError"
  | _, _, _ => false
def rtD : RS → Option D
  | .rt d _ => some d
  | _ => none
def kindsB (st : Stmt) (N : List Str) (c : Str) : Bool := match rtD (hSs ⟨N, fnScope st, isxT c⟩ 20 (fnBody st) (some (.rw 0) :: List.replicate (N.length - 1) none) []) with
  | some (.str y) => y == c ++ " +"
  | _ => false
include X G in
theorem cls_ok1 {st : Stmt} {N : List Str} {c : Str} {TM SE : Addr} (e : clsB K c = true) (k : kindsB st N c = true) (hT : nsA K "TooMany" = some TM) (hS : nsA K "StartError" = some SE) :
    ∃ D, mg c = some (.ref D) ∧ exmOne K (.ref D) (.ref TM) = some false ∧ exmOne K (.ref D) (.ref SE) = some true ∧ KFact K mg st N D (c ++ " +") := by
  unfold clsB at e
  split at e
  · rename_i D TM' SE' h1 h2 h3
    rw [hT] at h2
    rw [hS] at h3
    cases h2
    cases h3
    simp only [Bool.and_eq_true, beq_iff_eq] at e
    obtain ⟨⟨⟨⟨⟨e1, e2⟩, e3⟩, e4⟩, e5⟩, e6⟩ := e
    refine ⟨D, nsA_mg X G h1, e1, e2, excC_of e3, ?_⟩
    unfold kindsB at k
    split at k
    · rename_i y hy
      have ey := eq_of_beq k
      subst ey
      unfold rtD at hy
      split at hy
      · rename_i d μ hr
        cases hy
        refine ⟨isxT c, 20, μ, fun z b hz => ?_, hr⟩
        unfold isxT at hz
        split at hz
        · rename_i hv
          subst hv
          cases hz
          exact .inr ⟨"ValueError", bn_ok1 X G e6, by decide +kernel, e5⟩
        · split at hz
          · rename_i hm
            cases hz
            have h4 := List.all_eq_true.mp e4 z (by simpa using hm)
            split at h4
            · rename_i C hC
              exact .inl ⟨C, nsA_mg X G hC, by simpa using h4⟩
            · cases h4
          · cases hz
      · cases hy
    · cases k
  · cases e
/-- the shape of the def that tells what a call returns -/
def LawSh (st : Stmt) (a fo e kn tm se told : Str) : Prop := ∃ (b1 : Stmt) (bs1 : List Stmt) (j1 j2 j3 j4 : Nat) (p1 p2 p3 p4 p5 p6 p7 p8 p9 p10 p11 p12 p13 p14 p15 p16 p17 p18 p19 p20 p21 p22 : Pos), fnBody st = [.Assign [.Name fo p1] (.Constant .none j1 p2) p3,
    .Try [.Assign [.Name fo p4] (.Tuple [.Constant (.str told) j2 p5, .Call (.Name a p6) [] [] p7] j3 p8) p9]
      [.ExceptHandler (some (.Name tm p10)) (some e) (b1 :: bs1) p11,
       .ExceptHandler (some (.Name se p12)) (some e) [.Assign [.Name fo p13] (.Tuple [.Call (.Name kn p14) [.Name e p15] [] p16] j4 p17) p18] p19] [] [] p20,
    .Return (some (.Name fo p21)) p22]
def locB (sc : Scope) (z : Str) : Bool := decide (sc.names.lookup z = some .local) && !badName z
def glbB (sc : Scope) (z : Str) : Bool := decide (sc.names.lookup z = some .globalImplicit) && !badName z
def noCellB (sc : Scope) : Bool := sc.names.all fun y => !decide (y.2 = .cell)
include X G in
theorem lawF_mk {stC stK : Stmt} {NK : List Str} (dx : DefX K mg "_law_call" stC ["call_so", "found", "e"] ["call_so"]) (dk : DefX K mg "_law_kinds" stK NK ["e"]) (sh : LawSh stC "call_so" "found" "e" "_law_kinds" "TooMany" "StartError" "told")
    (b1 : (["call_so", "found", "e"] : List Str).all (locB (fnScope stC)) = true) (b2 : (["_law_kinds", "TooMany", "StartError"] : List Str).all (glbB (fnScope stC)) = true) (b3 : noCellB (fnScope stK) = true)
    (c1 : lawCls.all (clsB K) = true) (c5 : lawCls.all (kindsB stK NK) = true) (bz : bnB K "zip" = true) (bi : bnB K "isinstance" = true) :
    ∃ stC stK a fo e kn tm se y NK TM SE, LawF K mg "_law_call" stC stK a fo e kn tm se y NK TM SE "told" := by
  have h1 := List.all_eq_true.mp c1 "NoText" (by simp [lawCls])
  unfold clsB at h1
  split at h1
  · rename_i D TM SE hD hT hS
    refine ⟨stC, stK, "call_so", "found", "e", "_law_kinds", "TooMany", "StartError", "e", NK, TM, SE, dx, dk, sh, fun z hz => ?_, fun z hz => ?_, fun x hx => ?_, nsA_mg X G hT, nsA_mg X G hS, bn_ok1 X G bz, bn_ok1 X G bi, fun c hc => cls_ok1 X G (List.all_eq_true.mp c1 c hc) (List.all_eq_true.mp c5 c hc) hT hS⟩
    · have h := List.all_eq_true.mp b1 z hz
      unfold locB at h
      simpa using h
    · have h := List.all_eq_true.mp b2 z hz
      unfold glbB at h
      simpa using h
    · unfold locK at hx
      split at hx
      · assumption
      · rename_i e1
        have h := List.all_eq_true.mp b3 _ (PySem.mem_of_lookup e1)
        simp at h
      · cases hx
  · cases h1
end
end Ev

set_option Elab.async false
set_option linter.all false
set_option maxRecDepth 100000
set_option maxHeartbeats 4000000
namespace Ev
open PySem PySem.Spec PyProof.Rows L2
/-! ### the readings of the shared defs, and what they compute -/
/-- a def called by its name -/
def eDef (call : Tab) (x : Str) (es : Es) : E := match call x with
  | some f => eCall f es
  | none => eEr
def eIx (o : E) (es : Es) : E := fun ρ μ => match o ρ μ with
  | .ok (.str _) _ => eMt "str" indexSD o es ρ μ
  | _ => eMt "list" indexLD o es ρ μ
/-- a def of n parameters, k further slots -/
def mkFn (n k : Nat) (m : Tab → S) (call : Tab) : Fn := fun ds μ => if ds.length = n then runS (m call (ds.map some ++ List.replicate k none) μ) else .er
theorem mk_fn {P : Pg} {call : Tab} {d : DI} {m : Tab → S} {n k : Nat} (hb : P.body call d = m call) (h1 : d.ps.length = n) (h2 : d.N.length - d.ps.length = k) : P.fn call d = mkFn n k m call := by
  unfold Pg.fn mkFn
  rw [h2, h1, hb]
/-! lemmas of simp -/
theorem bind_ok {α β : Type} {a : α} {m : Mem} {f : α → Mem → R β} : (R.ok a m).bind f = f a m := rfl
theorem bind_ex {α β : Type} {x : Exc} {m : Mem} {f : α → Mem → R β} : (R.ex x m).bind f = .ex x m := rfl
theorem st_ok {α : Type} {a : α} {m : Mem} {ρ : Env} {f : α → Mem → RS} : (R.ok a m).st ρ f = f a m := rfl
theorem st_ex {α : Type} {x : Exc} {m : Mem} {ρ : Env} {f : α → Mem → RS} : (R.ex x m).st ρ f = .ex x ρ m := rfl
theorem r_some {d : D} {m : Mem} : O.r (some (d, m)) = .ok d m := rfl
theorem seq_eq {a b : S} {ρ : Env} {μ : Mem} : sSeq a b ρ μ = match a ρ μ with
  | .nx ρ' μ' => b ρ' μ'
  | r => r := rfl
theorem eqM_int {i j : Int} {μ : Mem} : eqM μ (.int i) (.int j) = some (i == j) := by
  unfold eqM
  simp only [toPyM, toPy]
  rfl
theorem eqD_int {i j : Int} {μ : Mem} : eqD (.int i) (.int j) μ = some (.bl (i == j), μ) := by
  unfold eqD; rw [eqM_int]; rfl
theorem neD_int {i j : Int} {μ : Mem} : neD (.int i) (.int j) μ = some (.bl (!(i == j)), μ) := by
  unfold neD; rw [eqM_int]; rfl
theorem eDef_some {call : Tab} {x : Str} {f : Fn} {es : Es} (h : call x = some f) : eDef call x es = eCall f es := by
  unfold eDef; rw [h]
/-- a value whose class is known -/
def okT (μ : Mem) (v : D) : Prop := (tyOfD μ v).isSome = true
def m_is_int (call : Tab) : S := (sSeq (sRet (eAn (eUn (isiD ["int"]) (eVar 0)) (eAn (eNo (eUn (isiD ["bool"]) (eVar 0))) (eChain (cmpD .LtE) (cmpD .LtE) (eVar 1) (eVar 0) (eVar 2))))) sNx)
def m_is_triple (call : Tab) : S := (sSeq (sRet (eAn (eUn (isiD ["tuple"]) (eVar 0)) (eBin (cmpD .Eq) (eApp lenD (esCons (eVar 0) esNil)) (eK (.int 3))))) sNx)
def intB (lo hi : Int) : D → Bool
  | .int i => decide (lo ≤ i) && decide (i ≤ hi)
  | _ => false
def SpInt (f : Fn) : Prop := ∀ v lo hi μ, okT μ v → f [v, .int lo, .int hi] μ = .ok (.bl (intB lo hi v)) μ
theorem sp_is_int (call : Tab) : SpInt (mkFn 3 0 m_is_int call) := by
  intro v lo hi μ hv
  unfold mkFn m_is_int
  simp only [List.length_cons, List.length_nil, if_true, List.map_cons, List.map_nil, List.replicate_zero, List.append_nil, seq_eq, sRet, eAn, eUn, eVar, List.getElem?_cons_zero, List.getElem?_cons_succ, bind_ok, isiD]
  unfold okT tyOfD at hv
  cases v with
  | int i =>
    simp only [tyOfD, Option.map_some, r_some, bind_ok, List.any_cons, List.any_nil, isaB, eNo, eChain, cmpD, intCmp, eUn, eVar, List.getElem?_cons_zero, List.getElem?_cons_succ, isiD]
    by_cases h1 : lo ≤ i
    · by_cases h2 : i ≤ hi <;> simp [h1, h2, intB, st_ok, runS, bind_ok, r_some, isaB]
    · simp [h1, intB, st_ok, runS, bind_ok, r_some, isaB]
  | bl b => simp [tyOfD, isaB, eNo, eUn, eVar, isiD, r_some, bind_ok, intB, st_ok, runS]
  | loc n =>
    cases e : lstAt μ n with
    | none => simp [e] at hv
    | some xs => simp [tyOfD, e, isaB, r_some, bind_ok, intB, st_ok, runS]
  | gl x => cases hv
  | rw x => cases hv
  | _ => simp [tyOfD, isaB, r_some, bind_ok, intB, st_ok, runS]
def tripB : D → Bool
  | .tup xs => xs.length == 3
  | _ => false
def SpTrip (f : Fn) : Prop := ∀ v μ, okT μ v → f [v] μ = .ok (.bl (tripB v)) μ
theorem sp_is_triple (call : Tab) : SpTrip (mkFn 1 0 m_is_triple call) := by
  intro v μ hv
  unfold mkFn m_is_triple
  simp only [List.length_cons, List.length_nil, if_true, List.map_cons, List.map_nil, List.replicate_zero, List.append_nil, seq_eq, sRet, eAn, eUn, eVar, List.getElem?_cons_zero, List.getElem?_cons_succ, bind_ok, isiD]
  unfold okT tyOfD at hv
  cases v with
  | tup xs =>
    simp only [tyOfD, Option.map_some, r_some, bind_ok, List.any_cons, List.any_nil, isaB, eBin, eApp, esCons, esNil, eVar, List.getElem?_cons_zero, lenD, lenM, seqD, cmpD, eK, eqD_int]
    simp only [tripB]
    have : ((xs.length : Int) == 3) = (xs.length == 3) := by
      rw [Bool.eq_iff_iff, beq_iff_eq, beq_iff_eq]
      omega
    simp [this, isaB, st_ok, runS]
  | loc n =>
    cases e : lstAt μ n with
    | none => simp [e] at hv
    | some xs => simp [tyOfD, e, isaB, r_some, bind_ok, tripB, st_ok, runS]
  | gl x => cases hv
  | rw x => cases hv
  | _ => simp [tyOfD, isaB, r_some, bind_ok, tripB, st_ok, runS]
def m_is_machine (call : Tab) : S := (sSeq (sIf (tOr' (tNo (tTru (eDef call "is_triple" (esCons (eVar 0) esNil)))) (tNo (tTru (eDef call "is_int" (esCons (eBin ixD (eVar 0) (eK (.int 0))) (esCons (eK (.int 1)) (esCons (eK (.int 3)) esNil))))))) (sSeq (sRet (eK (.bl false))) sNx) sNx) (sSeq (sRet (eAn (eDef call "is_int" (esCons (eBin ixD (eVar 0) (eK (.int 1))) (esCons (eK (.int 1)) (esCons (eBin ixD (eVar 0) (eK (.int 0))) esNil)))) (eDef call "is_int" (esCons (eBin ixD (eVar 0) (eK (.int 2))) (esCons (eK (.int 1)) (esCons (eK (.int 9)) esNil)))))) sNx))
def m_is_rule_of (call : Tab) : S := (sSeq (sIf (tOr' (tNo (tTru (eDef call "is_triple" (esCons (eVar 1) esNil)))) (tOr' (tNo (tTru (eDef call "is_int" (esCons (eBin ixD (eVar 1) (eK (.int 0))) (esCons (eK (.int 1)) (esCons (eBin ixD (eVar 0) (eK (.int 0))) esNil)))))) (tNo (tTru (eDef call "is_int" (esCons (eBin ixD (eVar 1) (eK (.int 1))) (esCons (eK (.int 0)) (esCons (eK (.int 5)) esNil)))))))) (sSeq (sRet (eK (.bl false))) sNx) sNx) (sSeq (sRet (eAn (eDef call "is_int" (esCons (eBin ixD (eVar 1) (eK (.int 2))) (esCons (eK (.int 1)) (esCons (eK (.int 2)) esNil)))) (eBin (cmpD .LtE) (eBin (binD .Mult) (eBin (binD .FloorDiv) (eBin (binD .Sub) (eBin (binD .Add) (eBin ixD (eVar 0) (eK (.int 1))) (eBin ixD (eVar 1) (eK (.int 2)))) (eK (.int 1))) (eBin ixD (eVar 1) (eK (.int 2)))) (eBin ixD (eVar 1) (eK (.int 2)))) (eBin ixD (eVar 0) (eK (.int 0)))))) sNx))
/-- a value and, of a tuple, its parts -/
def okTT (μ : Mem) (v : D) : Prop := okT μ v ∧ ∀ xs, v = .tup xs → ∀ x ∈ xs, okT μ x
theorem ix3_0 {a b c : D} {μ : Mem} : ixD (.tup [a, b, c]) (.int 0) μ = some (a, μ) := rfl
theorem ix3_1 {a b c : D} {μ : Mem} : ixD (.tup [a, b, c]) (.int 1) μ = some (b, μ) := rfl
theorem ix3_2 {a b c : D} {μ : Mem} : ixD (.tup [a, b, c]) (.int 2) μ = some (c, μ) := rfl
def machB : D → Bool
  | .tup [a, b, c] => match a with
    | .int r => intB 1 3 (.int r) && (intB 1 r b && intB 1 9 c)
    | _ => false
  | _ => false
def SpMach (f : Fn) : Prop := ∀ v μ, okTT μ v → f [v] μ = .ok (.bl (machB v)) μ
theorem okT_int {μ : Mem} {i : Int} : okT μ (.int i) := rfl
theorem tru_bl {μ : Mem} {b : Bool} : truD μ (.bl b) = some b := rfl
theorem intB_no {lo hi : Int} {v : D} (h : ∀ i, v ≠ .int i) : intB lo hi v = false := by
  cases v <;> first | rfl | exact absurd rfl (h _)
theorem trip_inv {v : D} (h : tripB v = true) : ∃ a b c, v = .tup [a, b, c] := by
  obtain ⟨xs, rfl⟩ : ∃ xs, v = .tup xs := by
    cases v <;> first | exact ⟨_, rfl⟩ | cases h
  have hl : xs.length = 3 := by simpa [tripB] using h
  match xs, hl with
  | [a, b, c], _ => exact ⟨a, b, c, rfl⟩
theorem mach_no {v : D} (h : tripB v = false) : machB v = false := by
  unfold machB
  split
  · simp [tripB] at h
  · rfl
theorem sp_is_machine {call : Tab} {f g : Fn} (h1 : call "is_triple" = some f) (h2 : call "is_int" = some g) (sf : SpTrip f) (sg : SpInt g) : SpMach (mkFn 1 0 m_is_machine call) := by
  intro v μ ⟨hv, hvt⟩
  unfold mkFn m_is_machine
  rw [eDef_some h1]
  simp only [eDef_some h2]
  simp only [List.length_cons, List.length_nil, if_true, List.map_cons, List.map_nil, List.replicate_zero, List.replicate_succ, List.append_nil, List.cons_append, List.nil_append, seq_eq, sRet, sNx, sIf, sExpr, sSet, sRaise, eAn, eOr, eNo, eUn, eBin, eApp, esCons, esNil, eIf, eChain, eVar, eK, tNo, tTru, tBl, tAn, tOr', List.getElem?_cons_zero, List.getElem?_cons_succ, bind_ok, bind_ex, st_ok, st_ex, r_some, cmpD, binD, runS, eCall, sf v μ hv, tru_bl]
  cases ht : tripB v with
  | false => simp only [List.length_cons, List.length_nil, if_true, List.map_cons, List.map_nil, List.replicate_zero, List.replicate_succ, List.append_nil, List.cons_append, List.nil_append, seq_eq, sRet, sNx, sIf, sExpr, sSet, sRaise, eAn, eOr, eNo, eUn, eBin, eApp, esCons, esNil, eIf, eChain, eVar, eK, tNo, tTru, tBl, tAn, tOr', List.getElem?_cons_zero, List.getElem?_cons_succ, bind_ok, bind_ex, st_ok, st_ex, r_some, cmpD, binD, runS, Bool.not_false, mach_no ht]
  | true =>
    obtain ⟨a, b, c, rfl⟩ := trip_inv ht
    have ha := hvt _ rfl a (by simp)
    have hb := hvt _ rfl b (by simp)
    have hc := hvt _ rfl c (by simp)
    simp only [ix3_0, ix3_1, ix3_2, List.length_cons, List.length_nil, if_true, List.map_cons, List.map_nil, List.replicate_zero, List.replicate_succ, List.append_nil, List.cons_append, List.nil_append, seq_eq, sRet, sNx, sIf, sExpr, sSet, sRaise, eAn, eOr, eNo, eUn, eBin, eApp, esCons, esNil, eIf, eChain, eVar, eK, tNo, tTru, tBl, tAn, tOr', List.getElem?_cons_zero, List.getElem?_cons_succ, bind_ok, bind_ex, st_ok, st_ex, r_some, cmpD, binD, runS, sg a 1 3 μ ha, tru_bl, Bool.not_true, Bool.false_eq_true, if_false]
    cases h3 : intB 1 3 a with
    | false =>
      have e : machB (.tup [a, b, c]) = false := by
        cases a <;> first | rfl | (unfold machB; dsimp only; rw [h3]; rfl)
      simp only [List.length_cons, List.length_nil, if_true, List.map_cons, List.map_nil, List.replicate_zero, List.replicate_succ, List.append_nil, List.cons_append, List.nil_append, seq_eq, sRet, sNx, sIf, sExpr, sSet, sRaise, eAn, eOr, eNo, eUn, eBin, eApp, esCons, esNil, eIf, eChain, eVar, eK, tNo, tTru, tBl, tAn, tOr', List.getElem?_cons_zero, List.getElem?_cons_succ, bind_ok, bind_ex, st_ok, st_ex, r_some, cmpD, binD, runS, Bool.not_false, e]
    | true =>
      obtain ⟨i, rfl⟩ : ∃ i, a = .int i := by
        cases a <;> first | exact ⟨_, rfl⟩ | cases h3
      have e : machB (.tup [.int i, b, c]) = (intB 1 i b && intB 1 9 c) := by
        unfold machB; dsimp only; rw [h3]; rfl
      rw [e]
      simp only [List.length_cons, List.length_nil, if_true, List.map_cons, List.map_nil, List.replicate_zero, List.replicate_succ, List.append_nil, List.cons_append, List.nil_append, seq_eq, sRet, sNx, sIf, sExpr, sSet, sRaise, eAn, eOr, eNo, eUn, eBin, eApp, esCons, esNil, eIf, eChain, eVar, eK, tNo, tTru, tBl, tAn, tOr', List.getElem?_cons_zero, List.getElem?_cons_succ, bind_ok, bind_ex, st_ok, st_ex, r_some, cmpD, binD, runS, ix3_0, ix3_1, ix3_2, Bool.not_true, Bool.false_eq_true, if_false, sg b 1 i μ hb, sg c 1 9 μ hc]
      cases intB 1 i b <;> simp [List.length_cons, List.length_nil, if_true, List.map_cons, List.map_nil, List.replicate_zero, List.replicate_succ, List.append_nil, List.cons_append, List.nil_append, seq_eq, sRet, sNx, sIf, sExpr, sSet, sRaise, eAn, eOr, eNo, eUn, eBin, eApp, esCons, esNil, eIf, eChain, eVar, eK, tNo, tTru, tBl, tAn, tOr', List.getElem?_cons_zero, List.getElem?_cons_succ, bind_ok, bind_ex, st_ok, st_ex, r_some, cmpD, binD, runS, ix3_2, eCall, sg c 1 9 μ hc]
/-! a rule of a machine -/
def ruleB (r l : Int) : D → Bool
  | .tup [a, g, b] => intB 1 r a && intB 0 5 g && (match b with
    | .int k => intB 1 2 (.int k) && decide ((l + k - 1) / k * k ≤ r)
    | _ => false)
  | _ => false
def SpRule (f : Fn) : Prop := ∀ r l p v μ, 1 ≤ l → l ≤ r → r ≤ 3 → okTT μ v → f [.tup [.int r, .int l, p], v] μ = .ok (.bl (ruleB r l v)) μ
theorem rule_no {r l : Int} {v : D} (h : tripB v = false) : ruleB r l v = false := by
  unfold ruleB
  split
  · simp [tripB] at h
  · rfl
theorem sp_is_rule_of {call : Tab} {f g : Fn} (h1 : call "is_triple" = some f) (h2 : call "is_int" = some g) (sf : SpTrip f) (sg : SpInt g) : SpRule (mkFn 2 0 m_is_rule_of call) := by
  intro r l p v μ hl1 hl2 hr ⟨hv, hvt⟩
  unfold mkFn m_is_rule_of
  rw [eDef_some h1]
  simp only [eDef_some h2]
  simp only [List.length_cons, List.length_nil, if_true, List.map_cons, List.map_nil, List.replicate_zero, List.replicate_succ, List.append_nil, List.cons_append, List.nil_append, seq_eq, sRet, sNx, sIf, sExpr, sSet, sRaise, eAn, eOr, eNo, eUn, eBin, eApp, esCons, esNil, eIf, eChain, eVar, eK, tNo, tTru, tBl, tAn, tOr', List.getElem?_cons_zero, List.getElem?_cons_succ, bind_ok, bind_ex, st_ok, st_ex, r_some, cmpD, binD, runS, eCall, sf v μ hv, tru_bl]
  cases ht : tripB v with
  | false => simp only [List.length_cons, List.length_nil, if_true, List.map_cons, List.map_nil, List.replicate_zero, List.replicate_succ, List.append_nil, List.cons_append, List.nil_append, seq_eq, sRet, sNx, sIf, sExpr, sSet, sRaise, eAn, eOr, eNo, eUn, eBin, eApp, esCons, esNil, eIf, eChain, eVar, eK, tNo, tTru, tBl, tAn, tOr', List.getElem?_cons_zero, List.getElem?_cons_succ, bind_ok, bind_ex, st_ok, st_ex, r_some, cmpD, binD, runS, Bool.not_false, rule_no ht]
  | true =>
    obtain ⟨a, b, c, rfl⟩ := trip_inv ht
    have ha := hvt _ rfl a (by simp)
    have hb := hvt _ rfl b (by simp)
    have hc := hvt _ rfl c (by simp)
    simp only [ix3_0, ix3_1, ix3_2, List.length_cons, List.length_nil, if_true, List.map_cons, List.map_nil, List.replicate_zero, List.replicate_succ, List.append_nil, List.cons_append, List.nil_append, seq_eq, sRet, sNx, sIf, sExpr, sSet, sRaise, eAn, eOr, eNo, eUn, eBin, eApp, esCons, esNil, eIf, eChain, eVar, eK, tNo, tTru, tBl, tAn, tOr', List.getElem?_cons_zero, List.getElem?_cons_succ, bind_ok, bind_ex, st_ok, st_ex, r_some, cmpD, binD, runS, sg a 1 r μ ha, tru_bl, Bool.not_true, Bool.false_eq_true, if_false]
    cases h3 : intB 1 r a with
    | false =>
      have e : ruleB r l (.tup [a, b, c]) = false := by unfold ruleB; dsimp only; rw [h3]; rfl
      simp only [List.length_cons, List.length_nil, if_true, List.map_cons, List.map_nil, List.replicate_zero, List.replicate_succ, List.append_nil, List.cons_append, List.nil_append, seq_eq, sRet, sNx, sIf, sExpr, sSet, sRaise, eAn, eOr, eNo, eUn, eBin, eApp, esCons, esNil, eIf, eChain, eVar, eK, tNo, tTru, tBl, tAn, tOr', List.getElem?_cons_zero, List.getElem?_cons_succ, bind_ok, bind_ex, st_ok, st_ex, r_some, cmpD, binD, runS, Bool.not_false, e]
    | true =>
      simp only [ix3_0, ix3_1, ix3_2, List.length_cons, List.length_nil, if_true, List.map_cons, List.map_nil, List.replicate_zero, List.replicate_succ, List.append_nil, List.cons_append, List.nil_append, seq_eq, sRet, sNx, sIf, sExpr, sSet, sRaise, eAn, eOr, eNo, eUn, eBin, eApp, esCons, esNil, eIf, eChain, eVar, eK, tNo, tTru, tBl, tAn, tOr', List.getElem?_cons_zero, List.getElem?_cons_succ, bind_ok, bind_ex, st_ok, st_ex, r_some, cmpD, binD, runS, sg b 0 5 μ hb, tru_bl, Bool.not_true, Bool.false_eq_true, if_false]
      cases h4 : intB 0 5 b with
      | false =>
        have e : ruleB r l (.tup [a, b, c]) = false := by unfold ruleB; dsimp only; rw [h3, h4]; rfl
        simp only [List.length_cons, List.length_nil, if_true, List.map_cons, List.map_nil, List.replicate_zero, List.replicate_succ, List.append_nil, List.cons_append, List.nil_append, seq_eq, sRet, sNx, sIf, sExpr, sSet, sRaise, eAn, eOr, eNo, eUn, eBin, eApp, esCons, esNil, eIf, eChain, eVar, eK, tNo, tTru, tBl, tAn, tOr', List.getElem?_cons_zero, List.getElem?_cons_succ, bind_ok, bind_ex, st_ok, st_ex, r_some, cmpD, binD, runS, Bool.not_false, e]
      | true =>
        simp only [List.length_cons, List.length_nil, if_true, List.map_cons, List.map_nil, List.replicate_zero, List.replicate_succ, List.append_nil, List.cons_append, List.nil_append, seq_eq, sRet, sNx, sIf, sExpr, sSet, sRaise, eAn, eOr, eNo, eUn, eBin, eApp, esCons, esNil, eIf, eChain, eVar, eK, tNo, tTru, tBl, tAn, tOr', List.getElem?_cons_zero, List.getElem?_cons_succ, bind_ok, bind_ex, st_ok, st_ex, r_some, cmpD, binD, runS, ix3_0, ix3_1, ix3_2, Bool.not_true, Bool.false_eq_true, if_false, sg c 1 2 μ hc]
        cases h5 : intB 1 2 c with
        | false =>
          have e : ruleB r l (.tup [a, b, c]) = false := by
            unfold ruleB; dsimp only; rw [h3, h4]
            cases c <;> first | rfl | (dsimp only; rw [h5]; rfl)
          simp only [List.length_cons, List.length_nil, if_true, List.map_cons, List.map_nil, List.replicate_zero, List.replicate_succ, List.append_nil, List.cons_append, List.nil_append, seq_eq, sRet, sNx, sIf, sExpr, sSet, sRaise, eAn, eOr, eNo, eUn, eBin, eApp, esCons, esNil, eIf, eChain, eVar, eK, tNo, tTru, tBl, tAn, tOr', List.getElem?_cons_zero, List.getElem?_cons_succ, bind_ok, bind_ex, st_ok, st_ex, r_some, cmpD, binD, runS, Bool.false_eq_true, if_false, e]
        | true =>
          obtain ⟨k, rfl⟩ : ∃ k, c = .int k := by
            cases c <;> first | exact ⟨_, rfl⟩ | cases h5
          have e : ruleB r l (.tup [a, b, .int k]) = decide ((l + k - 1) / k * k ≤ r) := by
            unfold ruleB; dsimp only; rw [h3, h4, h5]; rfl
          have hk : k = 1 ∨ k = 2 := by
            simp [intB] at h5
            omega
          rw [e]
          have hll : l = 1 ∨ l = 2 ∨ l = 3 := by omega
          rcases hk with rfl | rfl <;> rcases hll with rfl | rfl | rfl <;> rfl
/-! the needs -/
def m_need_machine (call : Tab) : S := (sSeq (sIf (tNo (tTru (eDef call "is_machine" (esCons (eVar 0) esNil)))) (sSeq (sRaise "InvalidMachine") sNx) sNx) sNx)
def m_need_rule (call : Tab) : S := (sSeq (sIf (tNo (tTru (eDef call "is_rule_of" (esCons (eVar 0) (esCons (eVar 1) esNil))))) (sSeq (sRaise "InvalidRule") sNx) sNx) sNx)
def SpNeedM (f : Fn) : Prop := ∀ v μ, okTT μ v → f [v] μ = if machB v then .ok .non μ else .ex { c := "InvalidMachine" } μ
theorem sp_need_machine {call : Tab} {f : Fn} (h1 : call "is_machine" = some f) (sf : SpMach f) : SpNeedM (mkFn 1 0 m_need_machine call) := by
  intro v μ hv
  unfold mkFn m_need_machine
  rw [eDef_some h1]
  simp only [List.length_cons, List.length_nil, if_true, List.map_cons, List.map_nil, List.replicate_zero, List.replicate_succ, List.append_nil, List.cons_append, List.nil_append, seq_eq, sRet, sNx, sIf, sExpr, sSet, sRaise, eAn, eOr, eNo, eUn, eBin, eApp, esCons, esNil, eIf, eChain, eVar, eK, tNo, tTru, tBl, tAn, tOr', List.getElem?_cons_zero, List.getElem?_cons_succ, bind_ok, bind_ex, st_ok, st_ex, r_some, cmpD, binD, runS, eCall, sf v μ hv, tru_bl]
  cases machB v <;> simp [List.length_cons, List.length_nil, if_true, List.map_cons, List.map_nil, List.replicate_zero, List.replicate_succ, List.append_nil, List.cons_append, List.nil_append, seq_eq, sRet, sNx, sIf, sExpr, sSet, sRaise, eAn, eOr, eNo, eUn, eBin, eApp, esCons, esNil, eIf, eChain, eVar, eK, tNo, tTru, tBl, tAn, tOr', List.getElem?_cons_zero, List.getElem?_cons_succ, bind_ok, bind_ex, st_ok, st_ex, r_some, cmpD, binD, runS]
def SpNeedR (f : Fn) : Prop := ∀ r l p v μ, 1 ≤ l → l ≤ r → r ≤ 3 → okTT μ v → f [.tup [.int r, .int l, p], v] μ = if ruleB r l v then .ok .non μ else .ex { c := "InvalidRule" } μ
theorem sp_need_rule {call : Tab} {f : Fn} (h1 : call "is_rule_of" = some f) (sf : SpRule f) : SpNeedR (mkFn 2 0 m_need_rule call) := by
  intro r l p v μ h2 h3 h4 hv
  unfold mkFn m_need_rule
  rw [eDef_some h1]
  simp only [List.length_cons, List.length_nil, if_true, List.map_cons, List.map_nil, List.replicate_zero, List.replicate_succ, List.append_nil, List.cons_append, List.nil_append, seq_eq, sRet, sNx, sIf, sExpr, sSet, sRaise, eAn, eOr, eNo, eUn, eBin, eApp, esCons, esNil, eIf, eChain, eVar, eK, tNo, tTru, tBl, tAn, tOr', List.getElem?_cons_zero, List.getElem?_cons_succ, bind_ok, bind_ex, st_ok, st_ex, r_some, cmpD, binD, runS, eCall, sf r l p v μ h2 h3 h4 hv, tru_bl]
  cases ruleB r l v <;> simp [List.length_cons, List.length_nil, if_true, List.map_cons, List.map_nil, List.replicate_zero, List.replicate_succ, List.append_nil, List.cons_append, List.nil_append, seq_eq, sRet, sNx, sIf, sExpr, sSet, sRaise, eAn, eOr, eNo, eUn, eBin, eApp, esCons, esNil, eIf, eChain, eVar, eK, tNo, tTru, tBl, tAn, tOr', List.getElem?_cons_zero, List.getElem?_cons_succ, bind_ok, bind_ex, st_ok, st_ex, r_some, cmpD, binD, runS]
end Ev

set_option Elab.async false
set_option linter.all false
set_option maxRecDepth 100000
set_option maxHeartbeats 4000000
set_option exponentiation.threshold 3000
namespace Ev
open PySem PySem.Spec PyProof.Rows L2
/-! ### the drawing of the laws: bags -/
def outT : T := (tOr' (tBl (eBin (cmpD .Lt) (eVar 3) (eVar 1))) (tBl (eBin (cmpD .Eq) (eVar 3) (eK (.int 1)))))
def outB : S := (sSeq (sSub (eVar 0) (eK (.int 1)) (eBin (binD .Mod) (eApp intD (esCons (eBin (binD .Add) (eBin (binD .Mult) (eBin ixD (eVar 0) (eK (.int 1))) (eK (.int 45991))) (eK (.int 17))) esNil)) (eK (.int 2147483543)))) (sSeq (sSet (.nm 2) (eBin (binD .Add) (eBin (binD .Mult) (eVar 2) (eK (.int 8192))) (eBin (binD .Mod) (eApp intD (esCons (eBin (binD .FloorDiv) (eBin ixD (eVar 0) (eK (.int 1))) (eK (.int 131071))) esNil)) (eK (.int 8192))))) (sSeq (sSet (.nm 3) (eBin (binD .Mult) (eVar 3) (eK (.int 8192)))) sNx)))
def m__law_out (call : Tab) : S := (sSeq (sIf (tBl (eBin (cmpD .Gt) (eBin ixD (eVar 0) (eK (.int 0))) (eK (.int 0)))) (sSeq (sSet (.nm 2) (eBin (binD .Mod) (eApp intD (esCons (eBin ixD (eVar 0) (eK (.int 0))) esNil)) (eVar 1))) (sSeq (sSub (eVar 0) (eK (.int 0)) (eBin (binD .FloorDiv) (eBin ixD (eVar 0) (eK (.int 0))) (eVar 1))) (sSeq (sRet (eVar 2)) sNx))) sNx) (sSeq (sSet (.tp [(.nm 2), (.nm 3)]) (eApp tupP (esCons (eK (.int 0)) (esCons (eK (.int 1)) esNil)))) (sSeq (sWhile 100 outT outB) (sSeq (sRet (eBin (binD .Mod) (eApp intD (esCons (eVar 2) esNil)) (eVar 1))) sNx))))
theorem lst_lt {μ : Mem} {n : Nat} {xs : List D} (h : lstAt μ n = some xs) : n < μ.length := by
  have := lstAt_some h
  exact (List.getElem?_eq_some_iff.mp this).1
theorem lst_set {μ : Mem} {n : Nat} {xs ys : List D} (h : lstAt μ n = some xs) : lstAt (μ.set n (.lst ys)) n = some ys := by
  unfold lstAt
  rw [List.getElem?_set_self (lst_lt h)]
theorem set_set {μ : Mem} {n : Nat} {a b : MO} : (μ.set n a).set n b = μ.set n b := List.set_set ..
theorem ixl_0 {μ : Mem} {n : Nat} {x y : D} (h : lstAt μ n = some [x, y]) : ixD (.loc n) (.int 0) μ = some (x, μ) := by
  simp only [ixD, seqD, h]; rfl
theorem ixl_1 {μ : Mem} {n : Nat} {x y : D} (h : lstAt μ n = some [x, y]) : ixD (.loc n) (.int 1) μ = some (y, μ) := by
  simp only [ixD, seqD, h]; rfl
theorem put_0 {μ : Mem} {n : Nat} {x y v : D} (h : lstAt μ n = some [x, y]) : putD (.loc n) (.int 0) v μ = some (μ.set n (.lst [v, y])) := by
  simp only [putD, h]; rfl
theorem put_1 {μ : Mem} {n : Nat} {x y v : D} (h : lstAt μ n = some [x, y]) : putD (.loc n) (.int 1) v μ = some (μ.set n (.lst [x, v])) := by
  simp only [putD, h]; rfl
theorem wh_go {t : T} {b : S} {k : Nat} {ρ ρ' : Env} {μ μ1 μ' : Mem} (ht : t ρ μ = .ok true μ1) (hb : b ρ μ1 = .nx ρ' μ') : whGo t b (k + 1) ρ μ = whGo t b k ρ' μ' := by
  rw [whGo, ht]
  simp only [st_ok, if_true, hb]
theorem wh_end {t : T} {b : S} {k : Nat} {ρ : Env} {μ μ1 : Mem} (ht : t ρ μ = .ok false μ1) : whGo t b (k + 1) ρ μ = .nx ρ μ1 := by
  rw [whGo, ht]
  simp [st_ok]
theorem log_le {i : Int} {k : Nat} (h : i.natAbs < 2 ^ k) (hk : 0 < k) : i.natAbs.log2 < k := by
  by_cases h0 : i.natAbs = 0
  · rw [h0]; simpa using hk
  · exact (Nat.log2_lt h0).mpr h
theorem mulD_int {i j : Int} {μ : Mem} (hi : i.natAbs < 2 ^ 2000) (hj : j.natAbs < 2 ^ 2000) : mulD (.int i) (.int j) μ = some (.int (i * j), μ) := by
  unfold mulD
  have := log_le hi (by omega)
  have := log_le hj (by omega)
  exact if_pos (by omega)
theorem modD_int {i j : Int} {μ : Mem} (hj : 0 < j) : modD (.int i) (.int j) μ = some (.int (i % j), μ) := if_pos hj
theorem divD_int {i j : Int} {μ : Mem} (hj : 0 < j) (h2 : j < 1073741824) : divD (.int i) (.int j) μ = some (.int (i / j), μ) := if_pos ⟨hj, h2⟩
theorem addD_int {i j : Int} {μ : Mem} : addD (.int i) (.int j) μ = some (.int (i + j), μ) := rfl
theorem subD_int {i j : Int} {μ : Mem} : subD (.int i) (.int j) μ = some (.int (i - j), μ) := rfl
theorem intD_int {i : Int} {μ : Mem} : intD [.int i] μ = some (.int i, μ) := rfl
theorem icmp {f : Int → Int → Bool} {i j : Int} {μ : Mem} : intCmp f (.int i) (.int j) μ = some (.bl (f i j), μ) := rfl
def Bag (μ : Mem) (n : Nat) : Prop := ∃ a b : Int, lstAt μ n = some [.int a, .int b] ∧ 0 ≤ a ∧ 0 ≤ b ∧ b < 2147483648
/-- from a bag a number; the bag is written -/
def SpOut (f : Fn) : Prop := ∀ n many μ, Bag μ n → 1 ≤ many → many ≤ 8192 → ∃ (r a b : Int), f [.loc n, .int many] μ = .ok (.int r) (μ.set n (.lst [.int a, .int b])) ∧ 0 ≤ r ∧ r < many ∧ 0 ≤ a ∧ 0 ≤ b ∧ b < 2147483648
theorem small_nat {i : Int} (h : 0 ≤ i) (h2 : i < 4294967296) : i.natAbs < 2 ^ 2000 := by
  have h3 : i.natAbs < 2 ^ 32 := by omega
  exact Nat.lt_of_lt_of_le h3 (Nat.pow_le_pow_right (by omega) (by omega))
theorem out_turn {n : Nat} {many b : Int} {μ : Mem} (hl : lstAt μ n = some [.int 0, .int b]) (hb : 0 ≤ b) (hb2 : b < 2147483648) (h1 : 1 ≤ many) (h2 : many ≤ 8192) :
    ∃ x b', sWhile 100 outT outB [some (.loc n), some (.int many), some (.int 0), some (.int 1)] μ = .nx [some (.loc n), some (.int many), some (.int x), some (.int 8192)] (μ.set n (.lst [.int 0, .int b'])) ∧ 0 ≤ b' ∧ b' < 2147483648 := by
  refine ⟨0 * 8192 + ((b * 45991 + 17) % 2147483543) / 131071 % 8192, (b * 45991 + 17) % 2147483543, ?_, Int.emod_nonneg _ (by omega), Int.lt_trans (Int.emod_lt_of_pos _ (by omega)) (by omega)⟩
  have hl' := lst_set (ys := [.int 0, .int ((b * 45991 + 17) % 2147483543)]) hl
  show whGo outT outB 100 _ _ = _
  rw [wh_go (k := 99) (μ1 := μ) (ρ' := [some (.loc n), some (.int many), some (.int (0 * 8192 + ((b * 45991 + 17) % 2147483543) / 131071 % 8192)), some (.int 8192)]) (μ' := μ.set n (.lst [.int 0, .int ((b * 45991 + 17) % 2147483543)])) ?_ ?_]
  · refine wh_end (k := 98) ?_
    unfold outT
    simp only [List.length_cons, List.length_nil, if_true, List.map_cons, List.map_nil, List.replicate_zero, List.replicate_succ, List.append_nil, List.cons_append, List.nil_append, seq_eq, sRet, sNx, sIf, sExpr, sSet, sRaise, eAn, eOr, eNo, eUn, eBin, eApp, esCons, esNil, eIf, eChain, eVar, eK, tNo, tTru, tBl, tAn, tOr', List.getElem?_cons_zero, List.getElem?_cons_succ, bind_ok, bind_ex, st_ok, st_ex, r_some, cmpD, binD, runS, icmp, show ¬ ((8192 : Int) < many) by omega, decide_false, Bool.false_eq_true, if_false, eqD_int]
    rfl
  · unfold outT
    simp only [List.length_cons, List.length_nil, if_true, List.map_cons, List.map_nil, List.replicate_zero, List.replicate_succ, List.append_nil, List.cons_append, List.nil_append, seq_eq, sRet, sNx, sIf, sExpr, sSet, sRaise, eAn, eOr, eNo, eUn, eBin, eApp, esCons, esNil, eIf, eChain, eVar, eK, tNo, tTru, tBl, tAn, tOr', List.getElem?_cons_zero, List.getElem?_cons_succ, bind_ok, bind_ex, st_ok, st_ex, r_some, cmpD, binD, runS, icmp, eqD_int]
    by_cases h3 : (1 : Int) < many <;> simp [h3]
  · unfold outB
    simp only [List.length_cons, List.length_nil, if_true, List.map_cons, List.map_nil, List.replicate_zero, List.replicate_succ, List.append_nil, List.cons_append, List.nil_append, seq_eq, sRet, sNx, sIf, sExpr, sSet, sRaise, eAn, eOr, eNo, eUn, eBin, eApp, esCons, esNil, eIf, eChain, eVar, eK, tNo, tTru, tBl, tAn, tOr', List.getElem?_cons_zero, List.getElem?_cons_succ, bind_ok, bind_ex, st_ok, st_ex, r_some, cmpD, binD, runS, sSub, ixl_1 hl, mulD_int (small_nat hb (show b < 4294967296 by omega)) (show (45991 : Int).natAbs < 2 ^ 2000 from small_nat (by omega) (by omega)), addD_int, intD_int, modD_int (show (0 : Int) < 2147483543 by omega), put_1 hl, ixl_1 hl', divD_int (show (0 : Int) < 131071 by omega) (show (131071 : Int) < 1073741824 by omega),
      modD_int (show (0 : Int) < 8192 by omega), mulD_int (show (0 : Int).natAbs < 2 ^ 2000 from small_nat (by omega) (by omega)) (show (8192 : Int).natAbs < 2 ^ 2000 from small_nat (by omega) (by omega)), mulD_int (show (1 : Int).natAbs < 2 ^ 2000 from small_nat (by omega) (by omega)) (show (8192 : Int).natAbs < 2 ^ 2000 from small_nat (by omega) (by omega)), Tg.set, List.set_cons_succ, List.set_cons_zero]
    rfl
theorem sp_out (call : Tab) : SpOut (mkFn 2 2 m__law_out call) := by
  intro n many μ ⟨a, b, hl, ha, hb, hb2⟩ h1 h2
  unfold mkFn m__law_out
  simp only [List.length_cons, List.length_nil, if_true, List.map_cons, List.map_nil, List.replicate_zero, List.replicate_succ, List.append_nil, List.cons_append, List.nil_append, seq_eq, sRet, sNx, sIf, sExpr, sSet, sRaise, eAn, eOr, eNo, eUn, eBin, eApp, esCons, esNil, eIf, eChain, eVar, eK, tNo, tTru, tBl, tAn, tOr', List.getElem?_cons_zero, List.getElem?_cons_succ, bind_ok, bind_ex, st_ok, st_ex, r_some, cmpD, binD, runS, ixl_0 hl, icmp]
  by_cases h : (0 : Int) < a
  · refine ⟨a % many, a / many, b, ?_, Int.emod_nonneg _ (by omega), Int.emod_lt_of_pos _ (by omega), Int.ediv_nonneg ha (by omega), hb, hb2⟩
    simp only [h, decide_true, if_true, List.length_cons, List.length_nil, if_true, List.map_cons, List.map_nil, List.replicate_zero, List.replicate_succ, List.append_nil, List.cons_append, List.nil_append, seq_eq, sRet, sNx, sIf, sExpr, sSet, sRaise, eAn, eOr, eNo, eUn, eBin, eApp, esCons, esNil, eIf, eChain, eVar, eK, tNo, tTru, tBl, tAn, tOr', List.getElem?_cons_zero, List.getElem?_cons_succ, bind_ok, bind_ex, st_ok, st_ex, r_some, cmpD, binD, runS, ixl_0 hl, intD_int, modD_int (show (0 : Int) < many by omega), Tg.set, List.set_cons_succ, List.set_cons_zero, sSub, divD_int (show (0 : Int) < many by omega) (show many < 1073741824 by omega), put_0 hl]
    simp [List.length_cons, List.length_nil, if_true, List.map_cons, List.map_nil, List.replicate_zero, List.replicate_succ, List.append_nil, List.cons_append, List.nil_append, seq_eq, sRet, sNx, sIf, sExpr, sSet, sRaise, eAn, eOr, eNo, eUn, eBin, eApp, esCons, esNil, eIf, eChain, eVar, eK, tNo, tTru, tBl, tAn, tOr', List.getElem?_cons_zero, List.getElem?_cons_succ, bind_ok, bind_ex, st_ok, st_ex, r_some, cmpD, binD, runS, sSub, ixl_0 hl, divD_int (show (0 : Int) < many by omega) (show many < 1073741824 by omega), put_0 hl]
  · have a0 : a = 0 := by omega
    subst a0
    obtain ⟨x, b', hw, hb', hb2'⟩ := out_turn hl hb hb2 h1 h2
    refine ⟨x % many, 0, b', ?_, Int.emod_nonneg _ (by omega), Int.emod_lt_of_pos _ (by omega), by omega, hb', hb2'⟩
    have hs : sSet (.tp [(.nm 2), (.nm 3)]) (eApp tupP (esCons (eK (.int 0)) (esCons (eK (.int 1)) esNil))) [some (.loc n), some (.int many), none, none] μ = .nx [some (.loc n), some (.int many), some (.int 0), some (.int 1)] μ := rfl
    simp only [h, decide_false, Bool.false_eq_true, if_false, bind_ok, st_ok]
    have hs2 := hs
    simp only [List.length_cons, List.length_nil, if_true, List.map_cons, List.map_nil, List.replicate_zero, List.replicate_succ, List.append_nil, List.cons_append, List.nil_append, seq_eq, sRet, sNx, sIf, sExpr, sSet, sRaise, eAn, eOr, eNo, eUn, eBin, eApp, esCons, esNil, eIf, eChain, eVar, eK, tNo, tTru, tBl, tAn, tOr', List.getElem?_cons_zero, List.getElem?_cons_succ, bind_ok, bind_ex, st_ok, st_ex, r_some, cmpD, binD, runS] at hs2
    simp only [List.length_cons, List.length_nil, if_true, List.map_cons, List.map_nil, List.replicate_zero, List.replicate_succ, List.append_nil, List.cons_append, List.nil_append, seq_eq, sRet, sNx, sIf, sExpr, sSet, sRaise, eAn, eOr, eNo, eUn, eBin, eApp, esCons, esNil, eIf, eChain, eVar, eK, tNo, tTru, tBl, tAn, tOr', List.getElem?_cons_zero, List.getElem?_cons_succ, bind_ok, bind_ex, st_ok, st_ex, r_some, cmpD, binD, runS, hs2, hw, intD_int, modD_int (show (0 : Int) < many by omega)]
end Ev

set_option Elab.async false
set_option linter.all false
set_option maxRecDepth 100000
set_option maxHeartbeats 4000000
set_option exponentiation.threshold 3000
namespace Ev
open PySem PySem.Spec PyProof.Rows L2
/-! ### loops by an invariant -/
theorem fo_inv {src : Src} {tg : Tg} {b : S} {N : Nat} (I : Nat → Env → Mem → Prop)
    (step : ∀ i ρ μ, i < N → I i ρ μ → ∃ d ρ1 ρ' μ', src.nxt i μ = some (some d) ∧ Tg.set μ tg d ρ = some ρ1 ∧ b ρ1 μ = .nx ρ' μ' ∧ I (i + 1) ρ' μ')
    (stop : ∀ ρ μ, I N ρ μ → src.nxt N μ = some none) : ∀ k i ρ μ, i + k = N → I i ρ μ → ∃ ρ' μ', foGo src tg b k i ρ μ = .nx ρ' μ' ∧ I N ρ' μ'
  | 0, i, ρ, μ, hi, h => by
    have e : i = N := by omega
    subst e
    refine ⟨ρ, μ, ?_, h⟩
    rw [foGo, stop ρ μ h]
  | k + 1, i, ρ, μ, hi, h => by
    obtain ⟨d, ρ1, ρ2, μ2, h1, h2, h3, h4⟩ := step i ρ μ (by omega) h
    obtain ⟨ρ', μ', h5, h6⟩ := fo_inv I step stop k (i + 1) ρ2 μ2 (by omega) h4
    refine ⟨ρ', μ', ?_, h6⟩
    rw [foGo, h1]
    simp only [h2, h3]
    exact h5
/-! ### drawn from a bag -/
def Drawn (μ : Mem) (n : Nat) (μ' : Mem) : Prop := ∃ a b : Int, μ' = μ.set n (.lst [.int a, .int b]) ∧ 0 ≤ a ∧ 0 ≤ b ∧ b < 2147483648
theorem Drawn.bag {μ μ' : Mem} {n : Nat} (d : Drawn μ n μ') (b : Bag μ n) : Bag μ' n := by
  obtain ⟨a, c, rfl, h1, h2, h3⟩ := d
  obtain ⟨x, y, h, _⟩ := b
  exact ⟨a, c, lst_set h, h1, h2, h3⟩
theorem Drawn.other {μ μ' : Mem} {n m : Nat} (d : Drawn μ n μ') (h : n ≠ m) : lstAt μ' m = lstAt μ m := by
  obtain ⟨a, c, rfl, h1, h2, h3⟩ := d
  unfold lstAt
  rw [List.getElem?_set_ne h]
theorem Drawn.len {μ μ' : Mem} {n : Nat} (d : Drawn μ n μ') : μ'.length = μ.length := by
  obtain ⟨a, c, rfl, h1, h2, h3⟩ := d
  exact List.length_set ..
theorem Drawn.trans {μ μ1 μ2 : Mem} {n : Nat} (d : Drawn μ n μ1) (e : Drawn μ1 n μ2) : Drawn μ n μ2 := by
  obtain ⟨a, c, rfl, h1, h2, h3⟩ := d
  obtain ⟨a', c', rfl, h1', h2', h3'⟩ := e
  exact ⟨a', c', set_set, h1', h2', h3'⟩
theorem sp_out' {f : Fn} (h : SpOut f) {n : Nat} {many : Int} {μ : Mem} (b : Bag μ n) (h1 : 1 ≤ many) (h2 : many ≤ 8192) : ∃ (r : Int) (μ' : Mem), f [.loc n, .int many] μ = .ok (.int r) μ' ∧ Drawn μ n μ' ∧ 0 ≤ r ∧ r < many := by
  obtain ⟨r, a, c, h3, h4, h5, h6, h7, h8⟩ := h n many μ b h1 h2
  exact ⟨r, _, h3, ⟨a, c, rfl, h6, h7, h8⟩, h4, h5⟩
def m__law_some (call : Tab) : S := (sSeq (sRet (eBin ixD (eVar 1) (eDef call "_law_out" (esCons (eVar 0) (esCons (eApp lenD (esCons (eVar 1) esNil)) esNil))))) sNx)
def SpSome (f : Fn) : Prop := ∀ n th xs μ, Bag μ n → seqD μ th = some xs → th ≠ .loc n → xs ≠ [] → xs.length ≤ 8192 → ∃ x μ', f [.loc n, th] μ = .ok x μ' ∧ Drawn μ n μ' ∧ x ∈ xs
theorem seq_drawn {μ μ' : Mem} {n : Nat} {th : D} (d : Drawn μ n μ') (h : th ≠ .loc n) : seqD μ' th = seqD μ th := by
  cases th with
  | loc m => exact d.other fun e => h (by rw [e])
  | _ => rfl
theorem atI_nat {xs : List D} {r : Int} (h : 0 ≤ r) (h2 : r < xs.length) : ∃ x, atI xs r = some x ∧ x ∈ xs := by
  have hn : r.toNat < xs.length := by omega
  refine ⟨xs[r.toNat], ?_, List.getElem_mem _⟩
  unfold atI
  have : ixN xs.length r = some r.toNat := by
    simp [ixN, h, h2]
  rw [this]
  simp [hn]
theorem ixD_seq {μ : Mem} {th : D} {xs : List D} {i : Int} {x : D} (h : seqD μ th = some xs) (hx : atI xs i = some x) : ixD th (.int i) μ = some (x, μ) := by
  cases th with
  | tup ys => cases h; simp only [ixD, seqD, hx]
  | fl ys => cases h; simp only [ixD, seqD, hx]
  | loc m => have h : lstAt μ m = some xs := h; simp only [ixD, seqD, h, hx]
  | _ => cases h
theorem lenD_seq {μ : Mem} {th : D} {xs : List D} (h : seqD μ th = some xs) : lenD [th] μ = some (.int xs.length, μ) := by
  cases th with
  | tup ys => cases h; rfl
  | fl ys => cases h; rfl
  | loc m => have h : lstAt μ m = some xs := h; simp only [lenD, lenM, seqD, h]; rfl
  | _ => cases h
theorem sp_some {call : Tab} {f : Fn} (h1 : call "_law_out" = some f) (sf : SpOut f) : SpSome (mkFn 2 0 m__law_some call) := by
  intro n th xs μ hb hs hne hx hl
  have hp : 0 < xs.length := List.length_pos_iff.mpr hx
  obtain ⟨r, μ', e1, d, e2, e3⟩ := sp_out' sf hb (many := xs.length) (by omega) (by omega)
  obtain ⟨x, e4, e5⟩ := atI_nat e2 e3
  refine ⟨x, μ', ?_, d, e5⟩
  unfold mkFn m__law_some
  rw [eDef_some h1]
  simp only [List.length_cons, List.length_nil, if_true, List.map_cons, List.map_nil, List.replicate_zero, List.replicate_succ, List.append_nil, List.cons_append, List.nil_append, seq_eq, sRet, sNx, sIf, sExpr, sSet, sRaise, eAn, eOr, eNo, eUn, eBin, eApp, esCons, esNil, eIf, eChain, eVar, eK, tNo, tTru, tBl, tAn, tOr', List.getElem?_cons_zero, List.getElem?_cons_succ, bind_ok, bind_ex, st_ok, st_ex, r_some, cmpD, binD, runS, lenD_seq hs, eCall, e1, ixD_seq ((seq_drawn d hne).trans hs) e4]
def m__law_machine (call : Tab) : S := (sSeq (sSet (.nm 2) (eBin (binD .Add) (eK (.int 1)) (eDef call "_law_out" (esCons (eVar 0) (esCons (eVar 1) esNil))))) (sSeq (sIf (tBl (eBin (cmpD .Eq) (eDef call "_law_out" (esCons (eVar 0) (esCons (eK (.int 2)) esNil))) (eK (.int 0)))) (sSeq (sSet (.nm 2) (eVar 1)) sNx) sNx) (sSeq (sRet (eApp tupP (esCons (eVar 2) (esCons (eBin (binD .Add) (eK (.int 1)) (eDef call "_law_out" (esCons (eVar 0) (esCons (eVar 2) esNil)))) (esCons (eBin (binD .Add) (eK (.int 1)) (eDef call "_law_out" (esCons (eVar 0) (esCons (eK (.int 9)) esNil)))) esNil))))) sNx)))
def SpLMach (f : Fn) : Prop := ∀ n (most : Int) μ, Bag μ n → 1 ≤ most → most ≤ 8000 → ∃ (r l p : Int) (μ' : Mem), f [.loc n, .int most] μ = .ok (.tup [.int r, .int l, .int p]) μ' ∧ Drawn μ n μ' ∧ 1 ≤ r ∧ r ≤ most ∧ 1 ≤ l ∧ l ≤ r ∧ 1 ≤ p ∧ p ≤ 9
theorem sp_lmach {call : Tab} {f : Fn} (h1 : call "_law_out" = some f) (sf : SpOut f) : SpLMach (mkFn 2 1 m__law_machine call) := by
  intro n most μ hb h2 h3
  obtain ⟨r0, μ1, e1, d1, a1, a2⟩ := sp_out' sf hb (many := most) h2 (by omega)
  obtain ⟨c, μ2, e2, d2, b1, b2⟩ := sp_out' sf (d1.bag hb) (many := 2) (by omega) (by omega)
  obtain ⟨room, hr1, hr2, hr⟩ : ∃ room : Int, 1 ≤ room ∧ room ≤ most ∧ room = if c = 0 then most else 1 + r0 := by
    by_cases h : c = 0
    · exact ⟨most, h2, by omega, by rw [if_pos h]⟩
    · exact ⟨1 + r0, by omega, by omega, by rw [if_neg h]⟩
  obtain ⟨l0, μ3, e3, d3, c1, c2⟩ := sp_out' sf (d2.bag (d1.bag hb)) (many := room) hr1 (by omega)
  obtain ⟨p0, μ4, e4, d4, f1, f2⟩ := sp_out' sf (d3.bag (d2.bag (d1.bag hb))) (many := 9) (by omega) (by omega)
  refine ⟨room, 1 + l0, 1 + p0, μ4, ?_, ((d1.trans d2).trans d3).trans d4, hr1, hr2, by omega, by omega, by omega, by omega⟩
  unfold mkFn m__law_machine
  simp only [eDef_some h1]
  simp only [List.length_cons, List.length_nil, if_true, List.map_cons, List.map_nil, List.replicate_zero, List.replicate_succ, List.append_nil, List.cons_append, List.nil_append, seq_eq, sRet, sNx, sIf, sExpr, sSet, sRaise, eAn, eOr, eNo, eUn, eBin, eApp, esCons, esNil, eIf, eChain, eVar, eK, tNo, tTru, tBl, tAn, tOr', List.getElem?_cons_zero, List.getElem?_cons_succ, bind_ok, bind_ex, st_ok, st_ex, r_some, cmpD, binD, runS, eCall, e1, addD_int, Tg.set, List.set_cons_succ, List.set_cons_zero, show (2 < 3) = True from by simp, e2, eqD_int]
  by_cases h : c = 0
  · subst h
    rw [if_pos rfl] at hr
    subst hr
    simp [List.length_cons, List.length_nil, if_true, List.map_cons, List.map_nil, List.replicate_zero, List.replicate_succ, List.append_nil, List.cons_append, List.nil_append, seq_eq, sRet, sNx, sIf, sExpr, sSet, sRaise, eAn, eOr, eNo, eUn, eBin, eApp, esCons, esNil, eIf, eChain, eVar, eK, tNo, tTru, tBl, tAn, tOr', List.getElem?_cons_zero, List.getElem?_cons_succ, bind_ok, bind_ex, st_ok, st_ex, r_some, cmpD, binD, runS, Tg.set, e3, addD_int, e4, tupP]
  · rw [if_neg h] at hr
    subst hr
    have hc : (c == 0) = false := by simpa using h
    simp [List.length_cons, List.length_nil, if_true, List.map_cons, List.map_nil, List.replicate_zero, List.replicate_succ, List.append_nil, List.cons_append, List.nil_append, seq_eq, sRet, sNx, sIf, sExpr, sSet, sRaise, eAn, eOr, eNo, eUn, eBin, eApp, esCons, esNil, eIf, eChain, eVar, eK, tNo, tTru, tBl, tAn, tOr', List.getElem?_cons_zero, List.getElem?_cons_succ, bind_ok, bind_ex, st_ok, st_ex, r_some, cmpD, binD, runS, Tg.set, e3, addD_int, e4, tupP, hc]
end Ev

set_option Elab.async false
set_option linter.all false
set_option maxRecDepth 100000
set_option maxHeartbeats 4000000
set_option exponentiation.threshold 3000
namespace Ev
open PySem PySem.Spec PyProof.Rows L2
def bagB : S := (sSeq (sSet (.nm 2) (eBin (binD .Add) (eVar 2) (eBin (binD .Mult) (eBin (binD .Mod) (eApp absD (esCons (eApp intD (esCons (eVar 3) esNil)) esNil)) (eK (.int 1000003))) (eApp intD (esCons (eBin (cmpD .Lt) (eVar 2) (eBin (binD .Pow) (eK (.int 10)) (eK (.int 18)))) esNil))))) sNx)
def bagI : S := (sIf (tBl (eBin (cmpD .Lt) (eVar 1) (eApp lenD (esCons (eVar 0) esNil)))) (sSeq (sSet (.nm 2) (eBin (binD .Mod) (eApp absD (esCons (eApp intD (esCons (eBin ixD (eVar 0) (eVar 1)) esNil)) esNil)) (eBin (binD .Mult) (eBin (binD .Mult) (eBin (binD .Mult) (eBin (binD .Pow) (eK (.int 10)) (eK (.int 60))) (eBin (binD .Pow) (eK (.int 10)) (eK (.int 60)))) (eBin (binD .Pow) (eK (.int 10)) (eK (.int 60)))) (eBin (binD .Pow) (eK (.int 10)) (eK (.int 50)))))) sNx) sNx)
def bagR : E := (eApp lstP (esCons (eIf (tBl (eBin (cmpD .GtE) (eVar 2) (eBin (binD .Pow) (eK (.int 10)) (eK (.int 18))))) (eVar 2) (eK (.int 0))) (esCons (eBin (binD .Add) (eBin (binD .Mod) (eApp intD (esCons (eBin (binD .Add) (eBin (binD .Add) (eBin (binD .Mult) (eBin (binD .Mod) (eVar 2) (eK (.int 2147483543))) (eK (.int 5))) (eBin (binD .Mult) (eK (.int 11)) (eVar 1))) (eK (.int 3))) esNil)) (eK (.int 2147483543))) (eK (.int 1))) esNil)))
def m__law_bag (call : Tab) : S := (sSeq (sSet (.nm 2) (eBin (binD .Add) (eBin (binD .Mult) (eK (.int 99991)) (eVar 1)) (eK (.int 4242)))) (sSeq bagI (sSeq (sFor (iSeq (eSl (eVar 0) oNo (oSo (eK (.int 1))))) (.nm 3) bagB) (sSeq (sRet bagR) sNx))))
def SpBag (f : Fn) : Prop := ∀ (ns : List Int) (k : Nat) (μ : Mem), k < 1000 → ns.length ≤ 1000 → ∃ m μ', f [.fl (ns.map .int), .int k] μ = .ok (.loc m) μ' ∧ Bag μ' m ∧ μ <+: μ' ∧ μ.length ≤ m
theorem pow18 {μ : Mem} : powD (.int 10) (.int 18) μ = some (.int 1000000000000000000, μ) := rfl
theorem pow60 {μ : Mem} : powD (.int 10) (.int 60) μ = some (.int (10 ^ 60), μ) := rfl
theorem pow50 {μ : Mem} : powD (.int 10) (.int 50) μ = some (.int (10 ^ 50), μ) := rfl
theorem absD_int {i : Int} {μ : Mem} : absD [.int i] μ = some (.int (if i < 0 then -i else i), μ) := rfl
theorem intD_bl {b : Bool} {μ : Mem} : intD [.bl b] μ = some (.int (if b then 1 else 0), μ) := rfl
theorem abs_nn (i : Int) : 0 ≤ (if i < 0 then -i else i) := by split <;> omega
theorem bag_first {ns : List Int} {k : Nat} {c : Int} {x : Option D} {μ : Mem} (hc : 0 ≤ c) : ∃ c', bagI [some (.fl (ns.map .int)), some (.int k), some (.int c), x] μ = .nx [some (.fl (ns.map .int)), some (.int k), some (.int c'), x] μ ∧ 0 ≤ c' := by
  unfold bagI
  have hl : lenD [.fl (ns.map .int)] μ = some (.int ((ns.map D.int).length : Nat), μ) := rfl
  by_cases h : k < ns.length
  · have hx : ixD (.fl (ns.map .int)) (.int k) μ = some (.int ns[k], μ) := ixD_seq (xs := ns.map .int) rfl (by
      unfold atI
      have : ixN (ns.map D.int).length (k : Int) = some k := by simp [ixN, h]
      rw [this]
      simp [h])
    refine ⟨(if ns[k] < 0 then -ns[k] else ns[k]) % (10 ^ 60 * 10 ^ 60 * 10 ^ 60 * 10 ^ 50), ?_, Int.emod_nonneg _ (by decide)⟩
    have hd : decide ((k : Int) < ((ns.map D.int).length : Nat)) = true := by simp [h]
    simp only [List.length_cons, List.length_nil, if_true, List.map_cons, List.map_nil, List.replicate_zero, List.replicate_succ, List.append_nil, List.cons_append, List.nil_append, seq_eq, sRet, sNx, sIf, sExpr, sSet, sRaise, eAn, eOr, eNo, eUn, eBin, eApp, esCons, esNil, eIf, eChain, eVar, eK, tNo, tTru, tBl, tAn, tOr', List.getElem?_cons_zero, List.getElem?_cons_succ, bind_ok, bind_ex, st_ok, st_ex, r_some, cmpD, binD, runS, hl, icmp, hd, hx, intD_int, absD_int, pow60, pow50, mulD_int (show ((10 : Int) ^ 60).natAbs < 2 ^ 2000 by decide) (show ((10 : Int) ^ 60).natAbs < 2 ^ 2000 by decide), mulD_int (show ((10 : Int) ^ 60 * 10 ^ 60).natAbs < 2 ^ 2000 by decide) (show ((10 : Int) ^ 60).natAbs < 2 ^ 2000 by decide),
      mulD_int (show ((10 : Int) ^ 60 * 10 ^ 60 * 10 ^ 60).natAbs < 2 ^ 2000 by decide) (show ((10 : Int) ^ 50).natAbs < 2 ^ 2000 by decide), modD_int (show (0 : Int) < 10 ^ 60 * 10 ^ 60 * 10 ^ 60 * 10 ^ 50 by decide), Tg.set, List.set_cons_succ, List.set_cons_zero]
    rfl
  · refine ⟨c, ?_, hc⟩
    have hd : decide ((k : Int) < ((ns.map D.int).length : Nat)) = false := by simp [h]
    simp only [List.length_cons, List.length_nil, if_true, List.map_cons, List.map_nil, List.replicate_zero, List.replicate_succ, List.append_nil, List.cons_append, List.nil_append, seq_eq, sRet, sNx, sIf, sExpr, sSet, sRaise, eAn, eOr, eNo, eUn, eBin, eApp, esCons, esNil, eIf, eChain, eVar, eK, tNo, tTru, tBl, tAn, tOr', List.getElem?_cons_zero, List.getElem?_cons_succ, bind_ok, bind_ex, st_ok, st_ex, r_some, cmpD, binD, runS, hl, icmp, hd, Bool.false_eq_true, if_false]
theorem bag_turn {a b : Option D} {c z : Int} {μ : Mem} (hc : 0 ≤ c) : ∃ c', bagB [a, b, some (.int c), some (.int z)] μ = .nx [a, b, some (.int c'), some (.int z)] μ ∧ 0 ≤ c' := by
  have hm := abs_nn z
  have h1 : 0 ≤ (if z < 0 then -z else z) % 1000003 := Int.emod_nonneg _ (by omega)
  have h2 : (if z < 0 then -z else z) % 1000003 < 1000003 := Int.emod_lt_of_pos _ (by omega)
  by_cases h : c < 1000000000000000000
  · refine ⟨c + (if z < 0 then -z else z) % 1000003 * 1, ?_, by omega⟩
    unfold bagB
    simp only [List.length_cons, List.length_nil, if_true, List.map_cons, List.map_nil, List.replicate_zero, List.replicate_succ, List.append_nil, List.cons_append, List.nil_append, seq_eq, sRet, sNx, sIf, sExpr, sSet, sRaise, eAn, eOr, eNo, eUn, eBin, eApp, esCons, esNil, eIf, eChain, eVar, eK, tNo, tTru, tBl, tAn, tOr', List.getElem?_cons_zero, List.getElem?_cons_succ, bind_ok, bind_ex, st_ok, st_ex, r_some, cmpD, binD, runS, intD_int, absD_int, modD_int (show (0 : Int) < 1000003 by omega), pow18, icmp, h, decide_true, intD_bl, if_true, mulD_int (small_nat h1 (by omega)) (show (1 : Int).natAbs < 2 ^ 2000 by decide), addD_int, Tg.set, List.set_cons_succ, List.set_cons_zero]
    rfl
  · refine ⟨c + (if z < 0 then -z else z) % 1000003 * 0, ?_, by omega⟩
    unfold bagB
    simp only [List.length_cons, List.length_nil, if_true, List.map_cons, List.map_nil, List.replicate_zero, List.replicate_succ, List.append_nil, List.cons_append, List.nil_append, seq_eq, sRet, sNx, sIf, sExpr, sSet, sRaise, eAn, eOr, eNo, eUn, eBin, eApp, esCons, esNil, eIf, eChain, eVar, eK, tNo, tTru, tBl, tAn, tOr', List.getElem?_cons_zero, List.getElem?_cons_succ, bind_ok, bind_ex, st_ok, st_ex, r_some, cmpD, binD, runS, intD_int, absD_int, modD_int (show (0 : Int) < 1000003 by omega), pow18, icmp, h, decide_false, intD_bl, Bool.false_eq_true, if_false, mulD_int (small_nat h1 (by omega)) (show (0 : Int).natAbs < 2 ^ 2000 by decide), addD_int, Tg.set, List.set_cons_succ, List.set_cons_zero]
    rfl
theorem bag_ret {a x : Option D} {k : Nat} {c : Int} {μ : Mem} (hc : 0 ≤ c) (hk : k < 1000) : ∃ p q : Int, bagR [a, some (.int k), some (.int c), x] μ = .ok (.loc μ.length) (μ ++ [.lst [.int p, .int q]]) ∧ 0 ≤ p ∧ 0 ≤ q ∧ q < 2147483648 := by
  have h1 : 0 ≤ c % 2147483543 := Int.emod_nonneg _ (by omega)
  have h2 : c % 2147483543 < 2147483543 := Int.emod_lt_of_pos _ (by omega)
  have h3 : 0 ≤ (c % 2147483543 * 5 + 11 * k + 3) % 2147483543 := Int.emod_nonneg _ (by omega)
  have h4 : (c % 2147483543 * 5 + 11 * k + 3) % 2147483543 < 2147483543 := Int.emod_lt_of_pos _ (by omega)
  refine ⟨if c ≥ 1000000000000000000 then c else 0, (c % 2147483543 * 5 + 11 * k + 3) % 2147483543 + 1, ?_, by split <;> omega, by omega, by omega⟩
  unfold bagR
  by_cases h : (1000000000000000000 : Int) ≤ c
  · simp only [List.length_cons, List.length_nil, if_true, List.map_cons, List.map_nil, List.replicate_zero, List.replicate_succ, List.append_nil, List.cons_append, List.nil_append, seq_eq, sRet, sNx, sIf, sExpr, sSet, sRaise, eAn, eOr, eNo, eUn, eBin, eApp, esCons, esNil, eIf, eChain, eVar, eK, tNo, tTru, tBl, tAn, tOr', List.getElem?_cons_zero, List.getElem?_cons_succ, bind_ok, bind_ex, st_ok, st_ex, r_some, cmpD, binD, runS, pow18, icmp, h, decide_true, if_true, modD_int (show (0 : Int) < 2147483543 by omega), mulD_int (small_nat h1 (by omega)) (show (5 : Int).natAbs < 2 ^ 2000 by decide), mulD_int (show (11 : Int).natAbs < 2 ^ 2000 by decide) (small_nat (show (0 : Int) ≤ k by omega) (by omega)), addD_int, intD_int, lstP, ge_iff_le]
    rfl
  · simp only [List.length_cons, List.length_nil, if_true, List.map_cons, List.map_nil, List.replicate_zero, List.replicate_succ, List.append_nil, List.cons_append, List.nil_append, seq_eq, sRet, sNx, sIf, sExpr, sSet, sRaise, eAn, eOr, eNo, eUn, eBin, eApp, esCons, esNil, eIf, eChain, eVar, eK, tNo, tTru, tBl, tAn, tOr', List.getElem?_cons_zero, List.getElem?_cons_succ, bind_ok, bind_ex, st_ok, st_ex, r_some, cmpD, binD, runS, pow18, icmp, h, decide_false, Bool.false_eq_true, if_false, modD_int (show (0 : Int) < 2147483543 by omega), mulD_int (small_nat h1 (by omega)) (show (5 : Int).natAbs < 2 ^ 2000 by decide), mulD_int (show (11 : Int).natAbs < 2 ^ 2000 by decide) (small_nat (show (0 : Int) ≤ k by omega) (by omega)), addD_int, intD_int, lstP, ge_iff_le]
    rfl
theorem lst_at_new {μ : Mem} {xs : List D} : lstAt (μ ++ [.lst xs]) μ.length = some xs := by
  unfold lstAt
  rw [List.getElem?_append_right (Nat.le_refl _)]
  simp
theorem sp_bag (call : Tab) : SpBag (mkFn 2 2 m__law_bag call) := by
  intro ns k μ hk hn
  obtain ⟨c1, e1, p1⟩ := bag_first (ns := ns) (k := k) (c := 99991 * k + 4242) (x := none) (μ := μ) (by omega)
  have e0 : (mkFn 2 2 m__law_bag call) [.fl (ns.map .int), .int k] μ = runS (sSeq (sFor (iSeq (eSl (eVar 0) oNo (oSo (eK (.int 1))))) (.nm 3) bagB) (sSeq (sRet bagR) sNx) [some (.fl (ns.map .int)), some (.int k), some (.int c1), none] μ) := by
    unfold mkFn m__law_bag
    simp only [List.length_cons, List.length_nil, if_true, List.map_cons, List.map_nil, List.replicate_zero, List.replicate_succ, List.append_nil, List.cons_append, List.nil_append, seq_eq, sRet, sNx, sIf, sExpr, sSet, sRaise, eAn, eOr, eNo, eUn, eBin, eApp, esCons, esNil, eIf, eChain, eVar, eK, tNo, tTru, tBl, tAn, tOr', List.getElem?_cons_zero, List.getElem?_cons_succ, bind_ok, bind_ex, st_ok, st_ex, r_some, cmpD, binD, runS, mulD_int (show (99991 : Int).natAbs < 2 ^ 2000 by decide) (small_nat (show (0 : Int) ≤ k by omega) (by omega)), addD_int, Tg.set, List.set_cons_succ, List.set_cons_zero, show (2 < 4) = True from by simp, e1]
  rw [e0]
  -- the loop
  have hsl : slD (.fl (ns.map .int)) none (some 1) μ = some (.loc μ.length, μ ++ [.lst ((ns.take 1).map .int)]) := by
    show some (D.loc μ.length, μ ++ [MO.lst (cutD (ns.map .int) none (some 1))]) = _
    have : cutD (ns.map D.int) none (some 1) = (ns.take 1).map .int := by
      cases ns with
      | nil => rfl
      | cons z zs =>
        unfold cutD
        simp [HT.sIx]
    rw [this]
  have hi : iSeq (eSl (eVar 0) oNo (oSo (eK (.int 1)))) [some (.fl (ns.map .int)), some (.int k), some (.int c1), none] μ = .ok (.lst μ.length) (μ ++ [.lst ((ns.take 1).map .int)]) := by
    unfold iSeq eSl oNo oSo
    simp only [List.length_cons, List.length_nil, if_true, List.map_cons, List.map_nil, List.replicate_zero, List.replicate_succ, List.append_nil, List.cons_append, List.nil_append, seq_eq, sRet, sNx, sIf, sExpr, sSet, sRaise, eAn, eOr, eNo, eUn, eBin, eApp, esCons, esNil, eIf, eChain, eVar, eK, tNo, tTru, tBl, tAn, tOr', List.getElem?_cons_zero, List.getElem?_cons_succ, bind_ok, bind_ex, st_ok, st_ex, r_some, cmpD, binD, runS, hsl, lst_at_new]
  have hloop : ∃ c2 x, sFor (iSeq (eSl (eVar 0) oNo (oSo (eK (.int 1))))) (.nm 3) bagB [some (.fl (ns.map .int)), some (.int k), some (.int c1), none] μ = .nx [some (.fl (ns.map .int)), some (.int k), some (.int c2), x] (μ ++ [.lst ((ns.take 1).map .int)]) ∧ 0 ≤ c2 := by
    unfold sFor
    rw [hi]
    simp only [st_ok, Src.bnd, lst_at_new, Option.getD_some]
    cases ns with
    | nil =>
      refine ⟨c1, none, ?_, p1⟩
      simp only [List.take_nil, List.map_nil, List.length_nil]
      rw [foGo]
      simp only [Src.nxt, lst_at_new]
      rfl
    | cons z zs =>
      obtain ⟨c2, e2, p2⟩ := bag_turn (a := some (.fl ((z :: zs).map .int))) (b := some (.int k)) (c := c1) (z := z) (μ := μ ++ [.lst [.int z]]) p1
      refine ⟨c2, some (.int z), ?_, p2⟩
      simp only [List.take_succ_cons, List.take_zero, List.map_cons, List.map_nil, List.length_cons, List.length_nil]
      rw [foGo]
      simp only [Src.nxt, lst_at_new, Option.map_some, List.getElem?_cons_zero, Tg.set, List.length_cons, List.length_nil, List.set_cons_succ, List.set_cons_zero, show (3 < 4) = True from by simp, if_true]
      simp only [List.map_cons] at e2
      rw [e2]
      simp only []
      rw [foGo]
      simp only [Src.nxt, lst_at_new]
      rfl
  obtain ⟨c2, x, e2, p2⟩ := hloop
  obtain ⟨p, q, e3, p3, p4, p5⟩ := bag_ret (a := some (.fl (ns.map .int))) (x := x) (k := k) (c := c2) (μ := μ ++ [.lst ((ns.take 1).map .int)]) p2 hk
  refine ⟨(μ ++ [MO.lst ((ns.take 1).map D.int)]).length, μ ++ [MO.lst ((ns.take 1).map D.int)] ++ [MO.lst [.int p, .int q]], ?_, ⟨p, q, lst_at_new, p3, p4, p5⟩, ⟨[MO.lst ((ns.take 1).map D.int), MO.lst [.int p, .int q]], by rw [List.append_assoc]; rfl⟩, by rw [List.length_append]; omega⟩
  rw [seq_eq, e2]
  simp only [List.length_cons, List.length_nil, if_true, List.map_cons, List.map_nil, List.replicate_zero, List.replicate_succ, List.append_nil, List.cons_append, List.nil_append, seq_eq, sRet, sNx, sIf, sExpr, sSet, sRaise, eAn, eOr, eNo, eUn, eBin, eApp, esCons, esNil, eIf, eChain, eVar, eK, tNo, tTru, tBl, tAn, tOr', List.getElem?_cons_zero, List.getElem?_cons_succ, bind_ok, bind_ex, st_ok, st_ex, r_some, cmpD, binD, runS, e3]
/-! the rules of a machine -/
def m__law_good_rule (call : Tab) : S := (sSeq (sSet (.nm 4) (eBin (binD .Add) (eBin ixD (eVar 0) (eK (.int 1))) (eApp intD (esCons (eAn (eBin (cmpD .Eq) (eVar 3) (eK (.int 2))) (eBin (cmpD .Eq) (eBin (binD .Mod) (eBin ixD (eVar 0) (eK (.int 1))) (eK (.int 2))) (eK (.int 1)))) esNil)))) (sSeq (sRet (eAn (eChain (cmpD .LtE) (cmpD .LtE) (eK (.int 1)) (eVar 1) (eBin ixD (eVar 0) (eK (.int 0)))) (eAn (eChain (cmpD .LtE) (cmpD .LtE) (eK (.int 0)) (eVar 2) (eK (.int 5))) (eBin (cmpD .LtE) (eVar 4) (eBin ixD (eVar 0) (eK (.int 0))))))) sNx))
/-- whether a rule keeps up -/
def goodB (r l a g b : Int) : Bool := (decide (1 ≤ a) && decide (a ≤ r)) && ((decide (0 ≤ g) && decide (g ≤ 5)) && decide (l + (if (b == 2 && l % 2 == 1) = true then 1 else 0) ≤ r))
def SpGood (f : Fn) : Prop := ∀ r l p a g b μ, f [.tup [.int r, .int l, p], .int a, .int g, .int b] μ = .ok (.bl (goodB r l a g b)) μ
theorem sp_good (call : Tab) : SpGood (mkFn 4 1 m__law_good_rule call) := by
  intro r l p a g b μ
  have h1 : runS (m__law_good_rule call [some (.tup [.int r, .int l, p]), some (.int a), some (.int g), some (.int b), none] μ) = .ok (.bl (goodB r l a g b)) μ := by
    have hs : sSet (.nm 4) (eBin (binD .Add) (eBin ixD (eVar 0) (eK (.int 1))) (eApp intD (esCons (eAn (eBin (cmpD .Eq) (eVar 3) (eK (.int 2))) (eBin (cmpD .Eq) (eBin (binD .Mod) (eBin ixD (eVar 0) (eK (.int 1))) (eK (.int 2))) (eK (.int 1)))) esNil))) [some (.tup [.int r, .int l, p]), some (.int a), some (.int g), some (.int b), none] μ
        = .nx [some (.tup [.int r, .int l, p]), some (.int a), some (.int g), some (.int b), some (.int (l + (if (b == 2 && l % 2 == 1) = true then 1 else 0)))] μ := by
      simp only [List.length_cons, List.length_nil, if_true, List.map_cons, List.map_nil, List.replicate_zero, List.replicate_succ, List.append_nil, List.cons_append, List.nil_append, seq_eq, sRet, sNx, sIf, sExpr, sSet, sRaise, eAn, eOr, eNo, eUn, eBin, eApp, esCons, esNil, eIf, eChain, eVar, eK, tNo, tTru, tBl, tAn, tOr', List.getElem?_cons_zero, List.getElem?_cons_succ, bind_ok, bind_ex, st_ok, st_ex, r_some, cmpD, binD, runS, ix3_1, eqD_int, modD_int (show (0 : Int) < 2 by omega)]
      cases h : (b == 2) <;> simp [List.length_cons, List.length_nil, if_true, List.map_cons, List.map_nil, List.replicate_zero, List.replicate_succ, List.append_nil, List.cons_append, List.nil_append, seq_eq, sRet, sNx, sIf, sExpr, sSet, sRaise, eAn, eOr, eNo, eUn, eBin, eApp, esCons, esNil, eIf, eChain, eVar, eK, tNo, tTru, tBl, tAn, tOr', List.getElem?_cons_zero, List.getElem?_cons_succ, bind_ok, bind_ex, st_ok, st_ex, r_some, cmpD, binD, runS, ix3_1, eqD_int, modD_int (show (0 : Int) < 2 by omega), intD_bl, addD_int, Tg.set]
    unfold m__law_good_rule
    rw [seq_eq, hs]
    simp only [List.length_cons, List.length_nil, if_true, List.map_cons, List.map_nil, List.replicate_zero, List.replicate_succ, List.append_nil, List.cons_append, List.nil_append, seq_eq, sRet, sNx, sIf, sExpr, sSet, sRaise, eAn, eOr, eNo, eUn, eBin, eApp, esCons, esNil, eIf, eChain, eVar, eK, tNo, tTru, tBl, tAn, tOr', List.getElem?_cons_zero, List.getElem?_cons_succ, bind_ok, bind_ex, st_ok, st_ex, r_some, cmpD, binD, runS, ix3_0, icmp]
    unfold goodB
    by_cases h1 : 1 ≤ a <;> by_cases h2 : a ≤ r <;> by_cases h3 : 0 ≤ g <;> by_cases h4 : g ≤ 5 <;> simp [List.length_cons, List.length_nil, if_true, List.map_cons, List.map_nil, List.replicate_zero, List.replicate_succ, List.append_nil, List.cons_append, List.nil_append, seq_eq, sRet, sNx, sIf, sExpr, sSet, sRaise, eAn, eOr, eNo, eUn, eBin, eApp, esCons, esNil, eIf, eChain, eVar, eK, tNo, tTru, tBl, tAn, tOr', List.getElem?_cons_zero, List.getElem?_cons_succ, bind_ok, bind_ex, st_ok, st_ex, r_some, cmpD, binD, runS, h1, h2, h3, h4, ix3_0, icmp]
  exact h1
end Ev

set_option Elab.async false
set_option linter.all false
set_option maxRecDepth 100000
set_option maxHeartbeats 4000000
set_option exponentiation.threshold 3000
namespace Ev
open PySem PySem.Spec PyProof.Rows L2
def evB1 (call : Tab) : S := (sSeq (sIf (tTru (eDef call "_law_good_rule" (esCons (eVar 0) (esCons (eVar 2) (esCons (eVar 3) (esCons (eVar 4) esNil)))))) (sSeq (sExpr (eMt "list" appendD (eVar 1) (esCons (eApp tupP (esCons (eVar 2) (esCons (eVar 3) (esCons (eVar 4) esNil)))) esNil))) sNx) sNx) sNx)
def evB2 (call : Tab) : S := (sSeq (sFor (iSeq (eApp tupP (esCons (eK (.int 1)) (esCons (eK (.int 2)) esNil)))) (.nm 4) (evB1 call)) sNx)
def evB3 (call : Tab) : S := (sSeq (sFor (iRg1 (esCons (eK (.int 6)) esNil)) (.nm 3) (evB2 call)) sNx)
def m__law_every_rule (call : Tab) : S := (sSeq (sSet (.nm 1) (eApp lstP esNil)) (sSeq (sFor (iRg2 (esCons (eK (.int 1)) (esCons (eBin (binD .Add) (eBin ixD (eVar 0) (eK (.int 0))) (eK (.int 1))) esNil))) (.nm 2) (evB3 call)) (sSeq (sRet (eVar 1)) sNx)))
def ruleD (a g b : Int) : D := .tup [.int a, .int g, .int b]
def rb (r l a g : Int) : List D := (([1, 2] : List Int).filter fun b => goodB r l a g b).map (ruleD a g)
def rg (r l a : Int) (k : Nat) : List D := (List.range k).flatMap fun (g : Nat) => rb r l a g
def ra (r l : Int) (k : Nat) : List D := (List.range k).flatMap fun (i : Nat) => rg r l (1 + i) 6
theorem rb_len {r l a g : Int} : (rb r l a g).length ≤ 2 := by
  unfold rb
  rw [List.length_map]
  exact List.length_filter_le _ _
theorem rg_succ {r l a : Int} {k : Nat} : rg r l a (k + 1) = rg r l a k ++ rb r l a k := by
  unfold rg
  rw [List.range_succ, List.flatMap_append, List.flatMap_singleton]
theorem rg_len {r l a : Int} : ∀ k, (rg r l a k).length ≤ 2 * k
  | 0 => by simp [rg]
  | k + 1 => by
    rw [rg_succ, List.length_append]
    have := rg_len (r := r) (l := l) (a := a) k
    have := rb_len (r := r) (l := l) (a := a) (g := k)
    omega
theorem ra_succ {r l : Int} {k : Nat} : ra r l (k + 1) = ra r l k ++ rg r l (1 + k) 6 := by
  unfold ra
  rw [List.range_succ, List.flatMap_append, List.flatMap_singleton]
theorem ra_len {r l : Int} : ∀ k, (ra r l k).length ≤ 12 * k
  | 0 => by simp [ra]
  | k + 1 => by
    rw [ra_succ, List.length_append]
    have := ra_len (r := r) (l := l) k
    have := rg_len (r := r) (l := l) (a := 1 + k) 6
    omega
theorem set_last {μ : Mem} {a b : MO} : (μ ++ [a]).set μ.length b = μ ++ [b] := by
  rw [List.set_append_right _ _ (Nat.le_refl _)]
  simp
theorem append_last {μ : Mem} {acc : List D} {y : D} (h : acc.length < 16777216) : appendD (.loc μ.length) [y] (μ ++ [.lst acc]) = some (.non, μ ++ [.lst (acc ++ [y])]) := by
  unfold appendD
  simp only [lst_at_new, h, if_true, set_last]
theorem kind_last {μ : Mem} {acc : List D} : kindD (μ ++ [.lst acc]) (.loc μ.length) = "list" := by
  unfold kindD
  simp only [lst_at_new]
section
variable {call : Tab} {f : Fn} (h1 : call "_law_good_rule" = some f) (sf : SpGood f)
include h1 sf
theorem ev_b1 {r l a g b : Int} {p : D} {μ : Mem} {acc : List D} (h : acc.length < 16777216) :
    evB1 call [some (.tup [.int r, .int l, p]), some (.loc μ.length), some (.int a), some (.int g), some (.int b)] (μ ++ [.lst acc]) = .nx [some (.tup [.int r, .int l, p]), some (.loc μ.length), some (.int a), some (.int g), some (.int b)] (μ ++ [.lst (acc ++ if goodB r l a g b = true then [ruleD a g b] else [])]) := by
  unfold evB1
  rw [eDef_some h1]
  simp only [List.length_cons, List.length_nil, if_true, List.map_cons, List.map_nil, List.replicate_zero, List.replicate_succ, List.append_nil, List.cons_append, List.nil_append, seq_eq, sRet, sNx, sIf, sExpr, sSet, sRaise, eAn, eOr, eNo, eUn, eBin, eApp, esCons, esNil, eIf, eChain, eVar, eK, tNo, tTru, tBl, tAn, tOr', List.getElem?_cons_zero, List.getElem?_cons_succ, bind_ok, bind_ex, st_ok, st_ex, r_some, cmpD, binD, runS, eCall, sf r l p a g b, tru_bl]
  cases hg : goodB r l a g b with
  | false => simp
  | true => simp [List.length_cons, List.length_nil, if_true, List.map_cons, List.map_nil, List.replicate_zero, List.replicate_succ, List.append_nil, List.cons_append, List.nil_append, seq_eq, sRet, sNx, sIf, sExpr, sSet, sRaise, eAn, eOr, eNo, eUn, eBin, eApp, esCons, esNil, eIf, eChain, eVar, eK, tNo, tTru, tBl, tAn, tOr', List.getElem?_cons_zero, List.getElem?_cons_succ, bind_ok, bind_ex, st_ok, st_ex, r_some, cmpD, binD, runS, eMt, kind_last, append_last h, tupP, ruleD]
theorem ev_b2 {r l a g : Int} {x : Option D} {p : D} {μ : Mem} {acc : List D} (h : acc.length + 2 < 16777216) :
    evB2 call [some (.tup [.int r, .int l, p]), some (.loc μ.length), some (.int a), some (.int g), x] (μ ++ [.lst acc]) = .nx [some (.tup [.int r, .int l, p]), some (.loc μ.length), some (.int a), some (.int g), some (.int 2)] (μ ++ [.lst (acc ++ rb r l a g)]) := by
  have e : iSeq (eApp tupP (esCons (eK (.int 1)) (esCons (eK (.int 2)) esNil))) [some (.tup [.int r, .int l, p]), some (.loc μ.length), some (.int a), some (.int g), x] (μ ++ [.lst acc]) = .ok (.fix [.int 1, .int 2]) (μ ++ [.lst acc]) := rfl
  have hl : (acc ++ if goodB r l a g 1 = true then [ruleD a g 1] else []).length < 16777216 := by
    rw [List.length_append]
    split <;> simp <;> omega
  unfold evB2 sFor
  rw [seq_eq, e]
  simp only [st_ok, Src.bnd, List.length_cons, List.length_nil]
  rw [foGo]
  simp only [Src.nxt, List.getElem?_cons_zero, Tg.set, List.length_cons, List.length_nil, List.set_cons_succ, List.set_cons_zero, show (4 < 5) = True from by simp, if_true, ev_b1 h1 sf (show acc.length < 16777216 by omega)]
  rw [foGo]
  simp only [Src.nxt, List.getElem?_cons_zero, List.getElem?_cons_succ, Tg.set, List.length_cons, List.length_nil, List.set_cons_succ, List.set_cons_zero, show (4 < 5) = True from by simp, if_true, ev_b1 h1 sf hl]
  rw [foGo]
  simp only [Src.nxt, List.getElem?_cons_zero, List.getElem?_cons_succ, List.getElem?_nil]
  have : (acc ++ if goodB r l a g 1 = true then [ruleD a g 1] else []) ++ (if goodB r l a g 2 = true then [ruleD a g 2] else []) = acc ++ rb r l a g := by
    unfold rb
    cases h1 : goodB r l a g 1 <;> cases h2 : goodB r l a g 2 <;> simp [h1, h2]
  rw [this]
  rfl
theorem ev_b3 {r l a : Int} {x y : Option D} {p : D} {μ : Mem} {acc : List D} (h : acc.length + 12 < 16777216) :
    ∃ x' y', evB3 call [some (.tup [.int r, .int l, p]), some (.loc μ.length), some (.int a), x, y] (μ ++ [.lst acc]) = .nx [some (.tup [.int r, .int l, p]), some (.loc μ.length), some (.int a), x', y'] (μ ++ [.lst (acc ++ rg r l a 6)]) := by
  have e : iRg1 (esCons (eK (.int 6)) esNil) [some (.tup [.int r, .int l, p]), some (.loc μ.length), some (.int a), x, y] (μ ++ [.lst acc]) = .ok (.rng 0 6) (μ ++ [.lst acc]) := rfl
  unfold evB3 sFor
  rw [seq_eq, e]
  simp only [st_ok, Src.bnd]
  obtain ⟨ρ', μ', h5, ⟨x', y', h6, h7⟩⟩ := fo_inv (src := .rng 0 6) (tg := .nm 3) (b := evB2 call) (N := 6) (fun i ρ μ' => ∃ x y, ρ = [some (.tup [.int r, .int l, p]), some (.loc μ.length), some (.int a), x, y] ∧ μ' = μ ++ [.lst (acc ++ rg r l a i)])
    (fun i ρ μ' hi ⟨x, y, e1, e2⟩ => by
      subst e1 e2
      have hb := ev_b2 h1 sf (r := r) (l := l) (a := a) (g := i) (x := y) (p := p) (μ := μ) (acc := acc ++ rg r l a i) (by
        have := rg_len (r := r) (l := l) (a := a) i
        rw [List.length_append]
        omega)
      refine ⟨.int i, _, _, _, ?_, rfl, hb, some (.int i), some (.int 2), rfl, ?_⟩
      · simp [Src.nxt, hi]
      · rw [rg_succ, List.append_assoc])
    (fun ρ μ' _ => by simp [Src.nxt]) 6 0 [some (.tup [.int r, .int l, p]), some (.loc μ.length), some (.int a), x, y] (μ ++ [.lst acc]) (by omega) ⟨x, y, rfl, by simp [rg]⟩
  refine ⟨x', y', ?_⟩
  rw [h5]
  subst h6 h7
  rfl
end
def SpEvery (f : Fn) : Prop := ∀ (r l : Int) (p : D) (μ : Mem), 0 ≤ r → r ≤ 1000 → f [.tup [.int r, .int l, p]] μ = .ok (.loc μ.length) (μ ++ [.lst (ra r l r.toNat)])
theorem sp_every {call : Tab} {f : Fn} (h1 : call "_law_good_rule" = some f) (sf : SpGood f) : SpEvery (mkFn 1 4 m__law_every_rule call) := by
  intro r l p μ hr hr2
  have e : iRg2 (esCons (eK (.int 1)) (esCons (eBin (binD .Add) (eBin ixD (eVar 0) (eK (.int 0))) (eK (.int 1))) esNil)) [some (.tup [.int r, .int l, p]), some (.loc μ.length), none, none, none] (μ ++ [.lst []]) = .ok (.rng 1 r.toNat) (μ ++ [.lst []]) := by
    unfold iRg2
    simp only [List.length_cons, List.length_nil, if_true, List.map_cons, List.map_nil, List.replicate_zero, List.replicate_succ, List.append_nil, List.cons_append, List.nil_append, seq_eq, sRet, sNx, sIf, sExpr, sSet, sRaise, eAn, eOr, eNo, eUn, eBin, eApp, esCons, esNil, eIf, eChain, eVar, eK, tNo, tTru, tBl, tAn, tOr', List.getElem?_cons_zero, List.getElem?_cons_succ, bind_ok, bind_ex, st_ok, st_ex, r_some, cmpD, binD, runS, ix3_0, addD_int]
    rw [if_pos (by omega)]
    congr
    omega
  obtain ⟨ρ', μ', h5, ⟨x', y', z', h6, h7⟩⟩ := fo_inv (src := .rng 1 r.toNat) (tg := .nm 2) (b := evB3 call) (N := r.toNat) (fun i ρ μ' => ∃ x y z, ρ = [some (.tup [.int r, .int l, p]), some (.loc μ.length), x, y, z] ∧ μ' = μ ++ [.lst (ra r l i)])
    (fun i ρ μ' hi ⟨x, y, z, e1, e2⟩ => by
      subst e1 e2
      obtain ⟨x', y', hb⟩ := ev_b3 h1 sf (r := r) (l := l) (a := 1 + i) (x := y) (y := z) (p := p) (μ := μ) (acc := ra r l i) (by
        have := ra_len (r := r) (l := l) i
        omega)
      refine ⟨.int (1 + i), _, _, _, ?_, rfl, hb, some (.int (1 + i)), x', y', rfl, ?_⟩
      · simp [Src.nxt, hi]
      · rw [ra_succ])
    (fun ρ μ' _ => by simp [Src.nxt]) r.toNat 0 [some (.tup [.int r, .int l, p]), some (.loc μ.length), none, none, none] (μ ++ [.lst []]) (by omega) ⟨none, none, none, rfl, by simp [ra]⟩
  have hs : sSet (.nm 1) (eApp lstP esNil) [some (.tup [.int r, .int l, p]), none, none, none, none] μ = .nx [some (.tup [.int r, .int l, p]), some (.loc μ.length), none, none, none] (μ ++ [.lst []]) := rfl
  have hf : sFor (iRg2 (esCons (eK (.int 1)) (esCons (eBin (binD .Add) (eBin ixD (eVar 0) (eK (.int 0))) (eK (.int 1))) esNil))) (.nm 2) (evB3 call) [some (.tup [.int r, .int l, p]), some (.loc μ.length), none, none, none] (μ ++ [.lst []]) = .nx ρ' μ' := by
    unfold sFor
    rw [e]
    exact h5
  have h0 : mkFn 1 4 m__law_every_rule call [.tup [.int r, .int l, p]] μ = runS (m__law_every_rule call [some (.tup [.int r, .int l, p]), none, none, none, none] μ) := rfl
  rw [h0]
  unfold m__law_every_rule
  rw [seq_eq, hs]
  simp only []
  rw [seq_eq, hf]
  subst h6 h7
  simp only [List.length_cons, List.length_nil, if_true, List.map_cons, List.map_nil, List.replicate_zero, List.replicate_succ, List.append_nil, List.cons_append, List.nil_append, seq_eq, sRet, sNx, sIf, sExpr, sSet, sRaise, eAn, eOr, eNo, eUn, eBin, eApp, esCons, esNil, eIf, eChain, eVar, eK, tNo, tTru, tBl, tAn, tOr', List.getElem?_cons_zero, List.getElem?_cons_succ, bind_ok, bind_ex, st_ok, st_ex, r_some, cmpD, binD, runS]
end Ev

set_option Elab.async false
set_option linter.all false
set_option maxRecDepth 100000
set_option maxHeartbeats 4000000
set_option exponentiation.threshold 3000
namespace Ev
open PySem PySem.Spec PyProof.Rows L2 SX
/-! ### the figure behind a word -/
def FIG : Str := "0123456789"
def m_figure (call : Tab) : S := (sSeq (sIf (tBl (eBin (cmpD .NotIn) (eVar 1) (eVar 0))) (sSeq (sRet (eVar 2)) sNx) sNx) (sSeq (sSet (.nm 3) (eSl (eVar 0) (oSo (eBin (binD .Add) (eIx (eVar 0) (esCons (eVar 1) esNil)) (eK (.int 1)))) oNo)) (sSeq (sIf (tOr' (tBl (eBin (cmpD .Eq) (eVar 3) (eApp lstP esNil))) (tOr' (tBl (eBin (cmpD .NotEq) (eApp lenD (esCons (eBin ixD (eVar 3) (eK (.int 0))) esNil)) (eK (.int 1)))) (tBl (eBin (cmpD .NotIn) (eBin ixD (eVar 3) (eK (.int 0))) (eK (.str "0123456789")))))) (sSeq (sRet (eUn negD (eK (.int 1)))) sNx) sNx) (sSeq (sRet (eIx (eK (.str "0123456789")) (esCons (eBin ixD (eVar 3) (eK (.int 0))) esNil))) sNx))))
def figB (ws : List Str) (w : Str) (u : Int) : Int := match ws.findIdx? (· == w) with
  | none => u
  | some j => match ws[j + 1]? with
    | none => -1
    | some x => if x.length = 1 ∧ subStr x FIG = true then ((Txt.index0 FIG x).getD 0 : Nat) else -1
/-- texts as they may be compared -/
def wsOk (ws : List Str) : Prop := ∀ w ∈ ws, PyData.strOk w = true ∧ w.length ≤ 1000
theorem in_strs {μ : Mem} {n : Nat} {ws : List Str} {w : Str} (h : lstAt μ n = some (ws.map .str)) : ninD (.str w) (.loc n) μ = some (.bl (!(ws.any (· == w))), μ) := by
  have hf : (ws.map D.str).all flatD = true := by rw [List.all_map]; exact List.all_eq_true.mpr fun _ _ => rfl
  have hi : inF (.str w) (ws.map D.str) = ws.any (· == w) := by
    unfold inF
    rw [List.any_map]
    rfl
  unfold ninD inM
  simp only [seqD, h, hf, flatD, Bool.true_and, if_true, hi]
  rfl
theorem strs_map {ws : List Str} : strsD (ws.map .str) = some ws := by
  induction ws with
  | nil => rfl
  | cons w ws ih => simp only [List.map_cons, strsD, ih]; rfl
theorem toPys_strs {ws : List Str} : toPys (ws.map .str) = some (ws.map .str) := by
  induction ws with
  | nil => rfl
  | cons w ws ih => simp only [List.map_cons, toPys, toPy, ih]
theorem shaped_strs {ws : List Str} (h : wsOk ws) : SeqAt.shaped (.list (ws.map .str)) = true := by
  have h1 : PyData.canLayAll0 (ws.map .str) = true := by
    induction ws with
    | nil => rfl
    | cons w ws ih =>
      simp only [List.map_cons, PyData.canLayAll0, PyData.canLay0, (h w (by simp)).1, Bool.true_and]
      exact ih fun x hx => h x (by simp [hx])
  have h2 : PyData.depthAll (ws.map .str) = 0 := by
    clear h h1
    induction ws with
    | nil => rfl
    | cons w ws ih => simp only [List.map_cons, PyData.depthAll, PyData.depth, ih]; rfl
  unfold SeqAt.shaped
  simp only [PyData.canLay0, PyData.depth, h1, h2]
  rfl
theorem eq_empty {μ : Mem} {n m : Nat} {ws : List Str} (h : lstAt μ n = some (ws.map .str)) (h2 : lstAt μ m = some []) (ok : wsOk ws) : eqD (.loc n) (.loc m) μ = some (.bl ws.isEmpty, μ) := by
  have e1 : toPyM μ (.loc n) = some (.list (ws.map .str)) := by simp only [toPyM, h, toPys_strs]
  have e2 : toPyM μ (.loc m) = some (.list []) := by simp only [toPyM, h2, toPys]
  have e3 : SeqAt.shaped (.list []) = true := by decide
  unfold eqD eqM
  simp only [e1, e2, shaped_strs ok, e3, Bool.and_true, if_true]
  cases ws with
  | nil => rfl
  | cons w ws => rfl
theorem ix_sub {x y : Str} (h : subStr x y = true) : ∃ k, Txt.index0 y x = some k := by
  unfold subStr at h
  unfold Txt.index0
  cases e : Builtin.Str.occurrences y x 0 y.length 1 with
  | nil => rw [e] at h; cases h
  | cons k r => exact ⟨k, rfl⟩
def SpFig (f : Fn) : Prop := ∀ n ws w u μ, lstAt μ n = some (ws.map .str) → wsOk ws → ∃ ν, f [.loc n, .str w, .int u] μ = .ok (.int (figB ws w u)) (μ ++ ν)
theorem at0 {x : D} {xs : List D} : atI (x :: xs) 0 = some x := by
  have : ixN (x :: xs).length 0 = some 0 := by
    simp only [ixN, List.length_cons]
    have : (0 : Int) < ((xs.length + 1 : Nat) : Int) := by omega
    simp [this]
  unfold atI
  rw [this]
  rfl
theorem any_find {ws : List Str} {w : Str} : ws.any (· == w) = (ws.findIdx? (· == w)).isSome := by
  rw [Bool.eq_iff_iff]
  simp [List.any_eq_true, List.findIdx?_isSome]
theorem lst_app {μ ν : Mem} {n : Nat} {xs : List D} (h : lstAt μ n = some xs) : lstAt (μ ++ ν) n = some xs := by
  have := lst_lt h
  unfold lstAt at h ⊢
  rw [List.getElem?_append_left this]
  exact h
theorem sp_figure (call : Tab) : SpFig (mkFn 3 1 m_figure call) := by
  intro n ws w u μ hl ok
  have h0 : mkFn 3 1 m_figure call [.loc n, .str w, .int u] μ = runS (m_figure call [some (.loc n), some (.str w), some (.int u), none] μ) := rfl
  rw [h0]
  unfold m_figure figB
  simp only [List.length_cons, List.length_nil, if_true, List.map_cons, List.map_nil, List.replicate_zero, List.replicate_succ, List.append_nil, List.cons_append, List.nil_append, seq_eq, sRet, sNx, sIf, sExpr, sSet, sRaise, eAn, eOr, eNo, eUn, eBin, eApp, esCons, esNil, eIf, eChain, eVar, eK, tNo, tTru, tBl, tAn, tOr', List.getElem?_cons_zero, List.getElem?_cons_succ, bind_ok, bind_ex, st_ok, st_ex, r_some, cmpD, binD, runS, in_strs hl]
  rw [any_find]
  cases hj : ws.findIdx? (· == w) with
  | none => exact ⟨[], by simp⟩
  | some j =>
    obtain ⟨hjl, hj1, hj2⟩ := List.findIdx?_eq_some_iff_getElem.mp hj
    have hix : indexLD (.loc n) [.str w] μ = some (.int (j : Nat), μ) := by
      simp only [indexLD, hl, strs_map, hj]
    have hk : kindD μ (.loc n) = "list" := by simp only [kindD, hl]
    have hs : slD (.loc n) (some ((j : Int) + 1)) none μ = some (.loc μ.length, μ ++ [.lst ((ws.drop (j + 1)).map .str)]) := by
      have : cutD (ws.map D.str) (some ((j : Int) + 1)) none = (ws.drop (j + 1)).map .str := by
        unfold cutD
        rw [List.length_map]
        have e1 : HT.sIx ws.length 0 (some ((j : Int) + 1)) = j + 1 := by
          have hneg : ¬ ((j : Int) + 1 < 0) := by omega
          simp only [HT.sIx, hneg, if_false]
          omega
        have e2 : HT.sIx ws.length ws.length (none : Option Int) = ws.length := by simp [HT.sIx]
        rw [e1, e2, ← List.map_drop, ← List.map_take]
        rw [List.take_of_length_le (by rw [List.length_drop]; omega)]
      simp only [slD, seqD, hl, this]
    have hl2 : lstAt (μ ++ [.lst ((ws.drop (j + 1)).map D.str)]) μ.length = some ((ws.drop (j + 1)).map .str) := lst_at_new
    have hl3 : lstAt (μ ++ [MO.lst ((ws.drop (j + 1)).map D.str)] ++ [MO.lst []]) μ.length = some ((ws.drop (j + 1)).map .str) := lst_app hl2
    have hl4 : lstAt (μ ++ [MO.lst ((ws.drop (j + 1)).map D.str)] ++ [MO.lst []]) (μ ++ [MO.lst ((ws.drop (j + 1)).map D.str)]).length = some [] := lst_at_new
    have ok2 : wsOk (ws.drop (j + 1)) := fun x hx => ok x (List.mem_of_mem_drop hx)
    simp only [List.length_cons, List.length_nil, if_true, List.map_cons, List.map_nil, List.replicate_zero, List.replicate_succ, List.append_nil, List.cons_append, List.nil_append, seq_eq, sRet, sNx, sIf, sExpr, sSet, sRaise, eAn, eOr, eNo, eUn, eBin, eApp, esCons, esNil, eIf, eChain, eVar, eK, tNo, tTru, tBl, tAn, tOr', List.getElem?_cons_zero, List.getElem?_cons_succ, bind_ok, bind_ex, st_ok, st_ex, r_some, cmpD, binD, runS, Option.isSome_some, Bool.not_true, Bool.false_eq_true, if_false, eSl, oSo, oNo, eIx, eMt, hk, hix, addD_int, hs, Tg.set, List.set_cons_succ, List.set_cons_zero, show (3 < 4) = True from by simp, lstP, show (0 ≤ 1000) = True from by simp]
    simp only [eq_empty hl3 hl4 ok2]
    have hd : ws[j + 1]? = (ws.drop (j + 1))[0]? := by rw [List.getElem?_drop]
    rw [hd]
    cases hr : ws.drop (j + 1) with
    | nil =>
      refine ⟨[.lst [], .lst []], ?_⟩
      simp [List.length_cons, List.length_nil, if_true, List.map_cons, List.map_nil, List.replicate_zero, List.replicate_succ, List.append_nil, List.cons_append, List.nil_append, seq_eq, sRet, sNx, sIf, sExpr, sSet, sRaise, eAn, eOr, eNo, eUn, eBin, eApp, esCons, esNil, eIf, eChain, eVar, eK, tNo, tTru, tBl, tAn, tOr', List.getElem?_cons_zero, List.getElem?_cons_succ, bind_ok, bind_ex, st_ok, st_ex, r_some, cmpD, binD, runS, negD]
    | cons x r =>
      rw [hr] at hl3 ok2
      have hx := ok2 x (by simp)
      have hx0 : ixD (.loc μ.length) (.int 0) (μ ++ [.lst ((x :: r).map D.str)] ++ [.lst []]) = some (.str x, μ ++ [.lst ((x :: r).map D.str)] ++ [.lst []]) := ixD_seq (xs := (x :: r).map .str) hl3 at0
      have hlen : lenD [.str x] (μ ++ [.lst ((x :: r).map D.str)] ++ [.lst []]) = some (.int x.length, μ ++ [.lst ((x :: r).map D.str)] ++ [.lst []]) := by
        have : x.length ≤ sizeLine := by rw [sizeLine_eq]; omega
        simp only [lenD, lenM, this, if_true]
        rfl
      refine ⟨[.lst ((x :: r).map D.str), .lst []], ?_⟩
      simp only [List.length_cons, List.length_nil, if_true, List.map_cons, List.map_nil, List.replicate_zero, List.replicate_succ, List.append_nil, List.cons_append, List.nil_append, seq_eq, sRet, sNx, sIf, sExpr, sSet, sRaise, eAn, eOr, eNo, eUn, eBin, eApp, esCons, esNil, eIf, eChain, eVar, eK, tNo, tTru, tBl, tAn, tOr', List.getElem?_cons_zero, List.getElem?_cons_succ, bind_ok, bind_ex, st_ok, st_ex, r_some, cmpD, binD, runS, List.isEmpty_cons, Bool.false_eq_true, if_false]
      simp only [List.map_cons] at hx0 hlen ⊢
      have hM' : μ ++ [MO.lst (D.str x :: r.map D.str), MO.lst []] = μ ++ [MO.lst (D.str x :: r.map D.str)] ++ [MO.lst []] := by rw [List.append_assoc]; rfl
      rw [hM']
      generalize μ ++ [MO.lst (D.str x :: r.map D.str)] ++ [MO.lst []] = M at hx0 hlen ⊢
      simp only [List.length_cons, List.length_nil, if_true, List.map_cons, List.map_nil, List.replicate_zero, List.replicate_succ, List.append_nil, List.cons_append, List.nil_append, seq_eq, sRet, sNx, sIf, sExpr, sSet, sRaise, eAn, eOr, eNo, eUn, eBin, eApp, esCons, esNil, eIf, eChain, eVar, eK, tNo, tTru, tBl, tAn, tOr', List.getElem?_cons_zero, List.getElem?_cons_succ, bind_ok, bind_ex, st_ok, st_ex, r_some, cmpD, binD, runS, hx0, hlen, neD_int]
      by_cases h1 : x.length = 1
      · have e1 : ((x.length : Int) == 1) = true := by simp [h1]
        cases h2 : subStr x FIG with
        | false =>
          have hn : ninD (.str x) (.str "0123456789") M = some (.bl true, M) := by
            have h2' : subStr x "0123456789" = false := h2
            simp only [ninD, inM, h2']
            rfl
          simp [List.length_cons, List.length_nil, if_true, List.map_cons, List.map_nil, List.replicate_zero, List.replicate_succ, List.append_nil, List.cons_append, List.nil_append, seq_eq, sRet, sNx, sIf, sExpr, sSet, sRaise, eAn, eOr, eNo, eUn, eBin, eApp, esCons, esNil, eIf, eChain, eVar, eK, tNo, tTru, tBl, tAn, tOr', List.getElem?_cons_zero, List.getElem?_cons_succ, bind_ok, bind_ex, st_ok, st_ex, r_some, cmpD, binD, runS, e1, hn, hx0, h1, negD]
        | true =>
          obtain ⟨k, hk⟩ := ix_sub h2
          have hn : ninD (.str x) (.str "0123456789") M = some (.bl false, M) := by
            have h2' : subStr x "0123456789" = true := h2
            simp only [ninD, inM, h2']
            rfl
          have hi : indexSD (.str "0123456789") [.str x] M = some (.int k, M) := by
            have hk' : Txt.index0 ("0123456789" : Str) x = some k := hk
            simp only [indexSD, hk']
          simp [List.length_cons, List.length_nil, if_true, List.map_cons, List.map_nil, List.replicate_zero, List.replicate_succ, List.append_nil, List.cons_append, List.nil_append, seq_eq, sRet, sNx, sIf, sExpr, sSet, sRaise, eAn, eOr, eNo, eUn, eBin, eApp, esCons, esNil, eIf, eChain, eVar, eK, tNo, tTru, tBl, tAn, tOr', List.getElem?_cons_zero, List.getElem?_cons_succ, bind_ok, bind_ex, st_ok, st_ex, r_some, cmpD, binD, runS, e1, hn, hx0, h1, eIx, eMt, kindD, hi, hk]
      · have e1 : ((x.length : Int) == 1) = false := by
          rw [beq_eq_false_iff_ne]
          omega
        simp [List.length_cons, List.length_nil, if_true, List.map_cons, List.map_nil, List.replicate_zero, List.replicate_succ, List.append_nil, List.cons_append, List.nil_append, seq_eq, sRet, sNx, sIf, sExpr, sSet, sRaise, eAn, eOr, eNo, eUn, eBin, eApp, esCons, esNil, eIf, eChain, eVar, eK, tNo, tTru, tBl, tAn, tOr', List.getElem?_cons_zero, List.getElem?_cons_succ, bind_ok, bind_ex, st_ok, st_ex, r_some, cmpD, binD, runS, e1, h1, negD]
end Ev

set_option Elab.async false
set_option linter.all false
set_option maxRecDepth 100000
set_option maxHeartbeats 4000000
set_option exponentiation.threshold 3000
namespace Ev
open PySem PySem.Spec PyProof.Rows L2 SX
/-! ### the texts of a machine and a rule -/
def kMachine : List Nat := [109, 97, 99, 104, 105, 110, 101, 32]
theorem s_kMachine : ("machine " : Str) = SX.S kMachine := by kernel_rfl
def kLength : List Nat := [32, 108, 101, 110, 103, 116, 104, 32]
theorem s_kLength : (" length " : Str) = SX.S kLength := by kernel_rfl
def kPrice : List Nat := [32, 112, 114, 105, 99, 101, 32]
theorem s_kPrice : (" price " : Str) = SX.S kPrice := by kernel_rfl
def kNl : List Nat := [10]
theorem s_kNl : ("\n" : Str) = SX.S kNl := by kernel_rfl
def kStart : List Nat := [115, 116, 97, 114, 116, 32, 97, 116, 32]
theorem s_kStart : ("start at " : Str) = SX.S kStart := by kernel_rfl
def kAfter : List Nat := [32, 111, 114, 32, 97, 102, 116, 101, 114, 32]
theorem s_kAfter : (" or after " : Str) = SX.S kAfter := by kernel_rfl
def kEvery : List Nat := [32, 101, 118, 101, 114, 121, 32]
theorem s_kEvery : (" every " : Str) = SX.S kEvery := by kernel_rfl
def kEvery2 : List Nat := [32, 101, 118, 101, 114, 121, 32, 50]
theorem s_kEvery2 : (" every 2" : Str) = SX.S kEvery2 := by kernel_rfl
theorem s_empty : Str.empty = SX.S [] := rfl
def tA (x y z : Nat) : List Nat := kMachine ++ [x] ++ kLength ++ [y] ++ kPrice ++ [z]
def tB (x : Nat) (g b : Int) : List Nat := kStart ++ [x] ++ (if g = 5 then [] else kAfter ++ [48 + g.toNat]) ++ (if b = 2 then kEvery2 else [])
def dg (i : Int) : Nat := 48 + i.toNat
theorem dig {i : Int} (h : 0 ≤ i) (h2 : i ≤ 9) : Str.ofString (toString i) = SX.S [dg i] := by
  have : i = 0 ∨ i = 1 ∨ i = 2 ∨ i = 3 ∨ i = 4 ∨ i = 5 ∨ i = 6 ∨ i = 7 ∨ i = 8 ∨ i = 9 := by omega
  rcases this with rfl | rfl | rfl | rfl | rfl | rfl | rfl | rfl | rfl | rfl <;> kernel_rfl
theorem fmt_dig {i : Int} (h : 0 ≤ i) (h2 : i ≤ 9) : fmtD (.int i) = some (SX.S [dg i]) := by
  unfold fmtD
  have hs : i.natAbs.log2 < 1920 := by
    have := log_le (i := i) (k := 4) (by omega) (by omega)
    omega
  simp only [hs, if_true]
  exact congrArg some (dig h h2)
theorem str_dig {i : Int} {μ : Mem} (h : 0 ≤ i) (h2 : i ≤ 9) : strD [.int i] μ = some (.str (SX.S [dg i]), μ) := by
  unfold strD
  have hs : i.natAbs.log2 < 1920 := by
    have := log_le (i := i) (k := 4) (by omega) (by omega)
    omega
  simp only [hs, if_true]
  exact congrArg (fun x => some (D.str x, μ)) (dig h h2)
theorem addS {x y : List Nat} {μ : Mem} (h : x.length + y.length ≤ 10000) : addD (.str (SX.S x)) (.str (SX.S y)) μ = some (.str (SX.S (x ++ y)), μ) := by
  unfold addD
  have : sumLen (SX.S x).length (SX.S y).length = true := by
    rw [S_len, S_len]
    unfold sumLen
    rw [sizeLine_eq]
    exact decide_eq_true (by omega)
  simp only [this, if_true, S_cat]
theorem join_go {es : List E} {acc : List Nat} {ρ : Env} {μ : Mem} : joinGo [] (SX.S acc) ρ μ = .ok (SX.S acc) μ := rfl
theorem join_cons {e : E} {es : List E} {acc y : List Nat} {ρ : Env} {μ : Mem} (h : e ρ μ = .ok (.str (SX.S y)) μ) (hl : acc.length + y.length ≤ 10000) : joinGo (e :: es) (SX.S acc) ρ μ = joinGo es (SX.S (acc ++ y)) ρ μ := by
  rw [joinGo, h]
  have : (SX.S acc ++ SX.S y).length ≤ sizeLine := by
    rw [S_cat, S_len, List.length_append, sizeLine_eq]
    omega
  rw [S_cat] at this
  simp only [bind_ok, S_cat, this, if_true]
def m_text_of (call : Tab) : S := (sSeq (sSet (.tp [(.nm 3), (.nm 4), (.nm 5)]) (eVar 0)) (sSeq (sSet (.tp [(.nm 6), (.nm 7), (.nm 8)]) (eVar 1)) (sSeq (sSet (.nm 2) (eJoin [(eK (.str "start at ")), (eFmt (eVar 6))])) (sSeq (sIf (tBl (eBin (cmpD .NotEq) (eVar 7) (eK (.int 5)))) (sSeq (sSet (.nm 2) (eBin (binD .Add) (eVar 2) (eJoin [(eK (.str " or after ")), (eFmt (eVar 7))]))) sNx) sNx) (sSeq (sIf (tBl (eBin (cmpD .Gt) (eVar 8) (eK (.int 1)))) (sSeq (sSet (.nm 2) (eBin (binD .Add) (eVar 2) (eJoin [(eK (.str " every ")), (eFmt (eVar 8))]))) sNx) sNx) (sSeq (sRet (eBin (binD .Add) (eJoin [(eK (.str "machine ")), (eFmt (eVar 3)), (eK (.str " length ")), (eFmt (eVar 4)), (eK (.str " price ")), (eFmt (eVar 5)), (eK (.str "\n"))]) (eVar 2))) sNx))))))
def m_rule_text (call : Tab) : S := (sSeq (sExpr (eDef call "need_machine" (esCons (eVar 0) esNil))) (sSeq (sExpr (eDef call "need_rule" (esCons (eVar 0) (esCons (eVar 1) esNil)))) (sSeq (sRet (eDef call "text_of" (esCons (eVar 0) (esCons (eVar 1) esNil)))) sNx)))
def m__law_text_of (call : Tab) : S := (sSeq (sSet (.tp [(.nm 4), (.nm 5), (.nm 6)]) (eVar 0)) (sSeq (sSet (.nm 2) (eBin (binD .Add) (eBin (binD .Add) (eBin (binD .Add) (eK (.str "machine ")) (eApp strD (esCons (eVar 4) esNil))) (eK (.str " length "))) (eApp strD (esCons (eVar 5) esNil)))) (sSeq (sSet (.nm 3) (eBin (binD .Add) (eK (.str "start at ")) (eApp strD (esCons (eBin ixD (eVar 1) (eK (.int 0))) esNil)))) (sSeq (sIf (tBl (eBin (cmpD .Lt) (eBin ixD (eVar 1) (eK (.int 1))) (eK (.int 5)))) (sSeq (sSet (.nm 3) (eBin (binD .Add) (eBin (binD .Add) (eVar 3) (eK (.str " or after "))) (eApp strD (esCons (eBin ixD (eVar 1) (eK (.int 1))) esNil)))) sNx) sNx) (sSeq (sIf (tBl (eBin (cmpD .Eq) (eBin ixD (eVar 1) (eK (.int 2))) (eK (.int 2)))) (sSeq (sSet (.nm 3) (eBin (binD .Add) (eVar 3) (eK (.str " every 2")))) sNx) sNx) (sSeq (sRet (eBin (binD .Add) (eBin (binD .Add) (eBin (binD .Add) (eBin (binD .Add) (eVar 2) (eK (.str " price "))) (eApp strD (esCons (eVar 6) esNil))) (eK (.str "\n"))) (eVar 3))) sNx))))))
theorem k_e {x : Str} {y : List Nat} {ρ : Env} {μ : Mem} (h : x = SX.S y) : eK (.str x) ρ μ = .ok (.str (SX.S y)) μ := by rw [h]; rfl
theorem fmt_e {i : Int} {j : Nat} {ρ : Env} {μ : Mem} (h : ρ[j]? = some (some (.int i))) (h1 : 0 ≤ i) (h2 : i ≤ 9) : eFmt (eVar j) ρ μ = .ok (.str (SX.S [dg i])) μ := by
  have : (SX.S [dg i]).length ≤ sizeLine := by rw [S_len, sizeLine_eq]; simp
  unfold eFmt
  simp only [eUn, eVar, h, bind_ok, fmt_dig h1 h2, this, if_true, r_some]
theorem joinE {es : List E} {ρ : Env} {μ : Mem} {y : List Nat} (h : joinGo es (SX.S []) ρ μ = .ok (SX.S y) μ) : eJoin es ρ μ = .ok (.str (SX.S y)) μ := by
  unfold eJoin
  rw [s_empty, h]
  rfl
theorem len_k : kMachine.length = 8 ∧ kLength.length = 8 ∧ kPrice.length = 7 ∧ kNl.length = 1 ∧ kStart.length = 9 ∧ kAfter.length = 10 ∧ kEvery.length = 7 ∧ kEvery2.length = 8 := by decide
/-- a machine's numbers, a rule's numbers -/
def machN (r l p : Int) : Prop := 1 ≤ r ∧ r ≤ 3 ∧ 1 ≤ l ∧ l ≤ r ∧ 1 ≤ p ∧ p ≤ 9
def ruleN (a g b : Int) : Prop := 1 ≤ a ∧ a ≤ 3 ∧ 0 ≤ g ∧ g ≤ 5 ∧ 1 ≤ b ∧ b ≤ 2
def textN (r l p a g b : Int) : List Nat := tA (dg r) (dg l) (dg p) ++ kNl ++ tB (dg a) g b
def SpText (f : Fn) : Prop := ∀ r l p a g b μ, machN r l p → ruleN a g b → f [.tup [.int r, .int l, .int p], ruleD a g b] μ = .ok (.str (SX.S (textN r l p a g b))) μ
theorem sp_text_of (call : Tab) : SpText (mkFn 2 7 m_text_of call) := by
  intro r l p a g b μ ⟨r1, r2, l1, l2, p1, p2⟩ ⟨a1, a2, g1, g2, b1, b2⟩
  obtain ⟨n1, n2, n3, n4, n5, n6, n7, n8⟩ := len_k
  let ρ : Env := [some (.tup [.int r, .int l, .int p]), some (ruleD a g b), none, some (.int r), some (.int l), some (.int p), some (.int a), some (.int g), some (.int b)]
  have h0 : mkFn 2 7 m_text_of call [.tup [.int r, .int l, .int p], ruleD a g b] μ = runS (m_text_of call [some (.tup [.int r, .int l, .int p]), some (ruleD a g b), none, none, none, none, none, none, none] μ) := rfl
  rw [h0]
  unfold m_text_of
  rw [seq_eq, show sSet (.tp [(.nm 3), (.nm 4), (.nm 5)]) (eVar 0) [some (.tup [.int r, .int l, .int p]), some (ruleD a g b), none, none, none, none, none, none, none] μ = .nx [some (.tup [.int r, .int l, .int p]), some (ruleD a g b), none, some (.int r), some (.int l), some (.int p), none, none, none] μ from rfl]
  simp only []
  rw [seq_eq, show sSet (.tp [(.nm 6), (.nm 7), (.nm 8)]) (eVar 1) [some (.tup [.int r, .int l, .int p]), some (ruleD a g b), none, some (.int r), some (.int l), some (.int p), none, none, none] μ = .nx ρ μ from rfl]
  simp only []
  -- the line
  have j1 : eJoin [(eK (.str "start at ")), (eFmt (eVar 6))] ρ μ = .ok (.str (SX.S (kStart ++ [dg a]))) μ := joinE (by
    rw [join_cons (k_e s_kStart) (by simp [n5]), join_cons (fmt_e (i := a) rfl (by omega) (by omega)) (by simp [n5])]
    rfl)
  let ρ2 : List Nat → Env := fun x => [some (.tup [.int r, .int l, .int p]), some (ruleD a g b), some (.str (SX.S x)), some (.int r), some (.int l), some (.int p), some (.int a), some (.int g), some (.int b)]
  rw [seq_eq, show sSet (.nm 2) (eJoin [(eK (.str "start at ")), (eFmt (eVar 6))]) ρ μ = .nx (ρ2 (kStart ++ [dg a])) μ from by
    unfold sSet; rw [j1]; rfl]
  simp only []
  have q1 : sIf (tBl (eBin (cmpD .NotEq) (eVar 7) (eK (.int 5)))) (sSeq (sSet (.nm 2) (eBin (binD .Add) (eVar 2) (eJoin [(eK (.str " or after ")), (eFmt (eVar 7))]))) sNx) sNx (ρ2 (kStart ++ [dg a])) μ = .nx (ρ2 (kStart ++ [dg a] ++ (if g = 5 then [] else kAfter ++ [48 + g.toNat]))) μ := by
    have j2 : eJoin [(eK (.str " or after ")), (eFmt (eVar 7))] (ρ2 (kStart ++ [dg a])) μ = .ok (.str (SX.S (kAfter ++ [dg g]))) μ := joinE (by
      rw [join_cons (k_e s_kAfter) (by simp [n6]), join_cons (fmt_e (i := g) rfl (by omega) (by omega)) (by simp [n6])]
      rfl)
    have e7 : eVar 7 (ρ2 (kStart ++ [dg a])) μ = .ok (.int g) μ := rfl
    have e2 : eVar 2 (ρ2 (kStart ++ [dg a])) μ = .ok (.str (SX.S (kStart ++ [dg a]))) μ := rfl
    simp only [sIf, tBl, eBin, e7, e2, eK, bind_ok, st_ok, cmpD, neD_int, r_some, seq_eq, sSet, j2, binD, addS (show (kStart ++ [dg a]).length + (kAfter ++ [dg g]).length ≤ 10000 by simp [n5, n6])]
    by_cases hg : g = 5
    · subst hg
      simp [sNx]
    · have : (g == 5) = false := by simpa using hg
      simp only [this, Bool.not_false, if_true, hg, if_false]
      rfl
  rw [seq_eq, q1]
  simp only []
  generalize hx : kStart ++ [dg a] ++ (if g = 5 then [] else kAfter ++ [48 + g.toNat]) = X
  have hxl : X.length ≤ 100 := by
    rw [← hx]
    split <;> simp [n5, n6]
  have q2 : sIf (tBl (eBin (cmpD .Gt) (eVar 8) (eK (.int 1)))) (sSeq (sSet (.nm 2) (eBin (binD .Add) (eVar 2) (eJoin [(eK (.str " every ")), (eFmt (eVar 8))]))) sNx) sNx (ρ2 X) μ = .nx (ρ2 (X ++ (if b = 2 then kEvery2 else []))) μ := by
    have j3 : eJoin [(eK (.str " every ")), (eFmt (eVar 8))] (ρ2 X) μ = .ok (.str (SX.S (kEvery ++ [dg b]))) μ := joinE (by
      rw [join_cons (k_e s_kEvery) (by simp [n7]), join_cons (fmt_e (i := b) rfl (by omega) (by omega)) (by simp [n7])]
      rfl)
    have e8 : eVar 8 (ρ2 X) μ = .ok (.int b) μ := rfl
    have e2 : eVar 2 (ρ2 X) μ = .ok (.str (SX.S X)) μ := rfl
    simp only [sIf, tBl, eBin, e8, e2, eK, bind_ok, st_ok, cmpD, icmp, r_some, seq_eq, sSet, j3, binD, addS (show X.length + (kEvery ++ [dg b]).length ≤ 10000 by simp [n7]; omega)]
    have hb : b = 1 ∨ b = 2 := by omega
    rcases hb with rfl | rfl
    · simp [sNx]
    · rfl
  rw [seq_eq, q2]
  simp only []
  generalize hy : X ++ (if b = 2 then kEvery2 else []) = Y
  have hyl : Y.length ≤ 200 := by
    rw [← hy]
    split <;> simp [n8] <;> omega
  have j4 : eJoin [(eK (.str "machine ")), (eFmt (eVar 3)), (eK (.str " length ")), (eFmt (eVar 4)), (eK (.str " price ")), (eFmt (eVar 5)), (eK (.str "\n"))] (ρ2 Y) μ = .ok (.str (SX.S (tA (dg r) (dg l) (dg p) ++ kNl))) μ := joinE (by
    rw [join_cons (k_e s_kMachine) (by simp [n1]), join_cons (fmt_e (i := r) rfl (by omega) (by omega)) (by simp [n1]), join_cons (k_e s_kLength) (by simp [n1, n2]), join_cons (fmt_e (i := l) rfl (by omega) (by omega)) (by simp [n1, n2]), join_cons (k_e s_kPrice) (by simp [n1, n2, n3]), join_cons (fmt_e (i := p) rfl (by omega) (by omega)) (by simp [n1, n2, n3]), join_cons (k_e s_kNl) (by simp [n1, n2, n3, n4])]
    rfl)
  have e2 : eVar 2 (ρ2 Y) μ = .ok (.str (SX.S Y)) μ := rfl
  simp only [seq_eq, sRet, eBin, j4, e2, bind_ok, binD, addS (show (tA (dg r) (dg l) (dg p) ++ kNl).length + Y.length ≤ 10000 by simp [tA, n1, n2, n3, n4]; omega), r_some, st_ok, runS]
  have : tA (dg r) (dg l) (dg p) ++ kNl ++ Y = textN r l p a g b := by
    unfold textN tB
    rw [← hy, ← hx]
  rw [this]
theorem sp_law_text (call : Tab) : SpText (mkFn 2 5 m__law_text_of call) := by
  intro r l p a g b μ ⟨r1, r2, l1, l2, p1, p2⟩ ⟨a1, a2, g1, g2, b1, b2⟩
  obtain ⟨n1, n2, n3, n4, n5, n6, n7, n8⟩ := len_k
  let ρ : List D → Env := fun x => [some (.tup [.int r, .int l, .int p]), some (ruleD a g b)] ++ (match x with
    | [] => [none, none]
    | [y] => [some y, none]
    | y :: z :: _ => [some y, some z]) ++ [some (.int r), some (.int l), some (.int p)]
  have h0 : mkFn 2 5 m__law_text_of call [.tup [.int r, .int l, .int p], ruleD a g b] μ = runS (m__law_text_of call [some (.tup [.int r, .int l, .int p]), some (ruleD a g b), none, none, none, none, none] μ) := rfl
  rw [h0]
  unfold m__law_text_of
  rw [seq_eq, show sSet (.tp [(.nm 4), (.nm 5), (.nm 6)]) (eVar 0) [some (.tup [.int r, .int l, .int p]), some (ruleD a g b), none, none, none, none, none] μ = .nx (ρ []) μ from rfl]
  simp only []
  have u1 : strD [.int r] μ = some (.str (SX.S [dg r]), μ) := str_dig (by omega) (by omega)
  have u2 : strD [.int l] μ = some (.str (SX.S [dg l]), μ) := str_dig (by omega) (by omega)
  have u3 : strD [.int p] μ = some (.str (SX.S [dg p]), μ) := str_dig (by omega) (by omega)
  have u4 : strD [.int a] μ = some (.str (SX.S [dg a]), μ) := str_dig (by omega) (by omega)
  have u5 : strD [.int g] μ = some (.str (SX.S [dg g]), μ) := str_dig (by omega) (by omega)
  let F := kMachine ++ [dg r] ++ kLength ++ [dg l]
  have v4 : ∀ x, eVar 4 (ρ x) μ = .ok (.int r) μ := fun x => by match x with | [] => rfl | [_] => rfl | _ :: _ :: _ => rfl
  have v5 : ∀ x, eVar 5 (ρ x) μ = .ok (.int l) μ := fun x => by match x with | [] => rfl | [_] => rfl | _ :: _ :: _ => rfl
  have v6 : ∀ x, eVar 6 (ρ x) μ = .ok (.int p) μ := fun x => by match x with | [] => rfl | [_] => rfl | _ :: _ :: _ => rfl
  have v1 : ∀ x, eVar 1 (ρ x) μ = .ok (ruleD a g b) μ := fun x => by match x with | [] => rfl | [_] => rfl | _ :: _ :: _ => rfl
  have q1 : sSet (.nm 2) (eBin (binD .Add) (eBin (binD .Add) (eBin (binD .Add) (eK (.str "machine ")) (eApp strD (esCons (eVar 4) esNil))) (eK (.str " length "))) (eApp strD (esCons (eVar 5) esNil))) (ρ []) μ = .nx (ρ [.str (SX.S F)]) μ := by
    simp only [sSet, eBin, k_e s_kMachine, k_e s_kLength, eApp, esCons, esNil, v4, v5, bind_ok, u1, u2, r_some, binD, addS (show kMachine.length + [dg r].length ≤ 10000 by simp [n1]), addS (show (kMachine ++ [dg r]).length + kLength.length ≤ 10000 by simp [n1, n2]), addS (show (kMachine ++ [dg r] ++ kLength).length + [dg l].length ≤ 10000 by simp [n1, n2]), st_ok]
    rfl
  rw [seq_eq, q1]
  simp only []
  have q2 : sSet (.nm 3) (eBin (binD .Add) (eK (.str "start at ")) (eApp strD (esCons (eBin ixD (eVar 1) (eK (.int 0))) esNil))) (ρ [.str (SX.S F)]) μ = .nx (ρ [.str (SX.S F), .str (SX.S (kStart ++ [dg a]))]) μ := by
    have ix : ixD (ruleD a g b) (.int 0) μ = some (.int a, μ) := rfl
    have ek : eK (.int 0) (ρ [.str (SX.S F)]) μ = .ok (.int 0) μ := rfl
    simp only [sSet, eBin, k_e s_kStart, eApp, esCons, esNil, v1, ek, bind_ok, ix, u4, r_some, binD, addS (show kStart.length + [dg a].length ≤ 10000 by simp [n5]), st_ok]
    rfl
  rw [seq_eq, q2]
  simp only []
  have q3 : sIf (tBl (eBin (cmpD .Lt) (eBin ixD (eVar 1) (eK (.int 1))) (eK (.int 5)))) (sSeq (sSet (.nm 3) (eBin (binD .Add) (eBin (binD .Add) (eVar 3) (eK (.str " or after "))) (eApp strD (esCons (eBin ixD (eVar 1) (eK (.int 1))) esNil)))) sNx) sNx (ρ [.str (SX.S F), .str (SX.S (kStart ++ [dg a]))]) μ = .nx (ρ [.str (SX.S F), .str (SX.S (kStart ++ [dg a] ++ (if g = 5 then [] else kAfter ++ [48 + g.toNat])))]) μ := by
    have ix : ixD (ruleD a g b) (.int 1) μ = some (.int g, μ) := rfl
    have ek : ∀ i ρ, eK (.int i) ρ μ = .ok (.int i) μ := fun _ _ => rfl
    have e3 : eVar 3 (ρ [.str (SX.S F), .str (SX.S (kStart ++ [dg a]))]) μ = .ok (.str (SX.S (kStart ++ [dg a]))) μ := rfl
    simp only [sIf, tBl, eBin, v1, ek, bind_ok, ix, r_some, cmpD, icmp, st_ok, seq_eq, sSet, e3, k_e s_kAfter, eApp, esCons, esNil, u5, binD, addS (show (kStart ++ [dg a]).length + kAfter.length ≤ 10000 by simp [n5, n6]), addS (show (kStart ++ [dg a] ++ kAfter).length + [dg g].length ≤ 10000 by simp [n5, n6])]
    by_cases hg : g = 5
    · subst hg
      simp [sNx]
    · have : g < 5 := by omega
      simp only [this, decide_true, if_true, hg, if_false, List.append_assoc]
      rfl
  rw [seq_eq, q3]
  simp only []
  generalize hx : kStart ++ [dg a] ++ (if g = 5 then [] else kAfter ++ [48 + g.toNat]) = X
  have hxl : X.length ≤ 100 := by
    rw [← hx]
    split <;> simp [n5, n6]
  have q4 : sIf (tBl (eBin (cmpD .Eq) (eBin ixD (eVar 1) (eK (.int 2))) (eK (.int 2)))) (sSeq (sSet (.nm 3) (eBin (binD .Add) (eVar 3) (eK (.str " every 2")))) sNx) sNx (ρ [.str (SX.S F), .str (SX.S X)]) μ = .nx (ρ [.str (SX.S F), .str (SX.S (X ++ (if b = 2 then kEvery2 else [])))]) μ := by
    have ix : ixD (ruleD a g b) (.int 2) μ = some (.int b, μ) := rfl
    have ek : ∀ i ρ, eK (.int i) ρ μ = .ok (.int i) μ := fun _ _ => rfl
    have e3 : eVar 3 (ρ [.str (SX.S F), .str (SX.S X)]) μ = .ok (.str (SX.S X)) μ := rfl
    simp only [sIf, tBl, eBin, v1, ek, bind_ok, ix, r_some, cmpD, eqD_int, st_ok, seq_eq, sSet, e3, k_e s_kEvery2, binD, addS (show X.length + kEvery2.length ≤ 10000 by rw [n8]; omega)]
    have hb : b = 1 ∨ b = 2 := by omega
    rcases hb with rfl | rfl
    · simp [sNx]
    · rfl
  rw [seq_eq, q4]
  simp only []
  generalize hy : X ++ (if b = 2 then kEvery2 else []) = Y
  have hyl : Y.length ≤ 200 := by
    rw [← hy]
    split <;> simp [n8] <;> omega
  have e2 : eVar 2 (ρ [.str (SX.S F), .str (SX.S Y)]) μ = .ok (.str (SX.S F)) μ := rfl
  have e3 : eVar 3 (ρ [.str (SX.S F), .str (SX.S Y)]) μ = .ok (.str (SX.S Y)) μ := rfl
  have nF : F.length = 18 := by simp [F, n1, n2]
  simp only [seq_eq, sRet, eBin, e2, e3, k_e s_kPrice, k_e s_kNl, eApp, esCons, esNil, v6, u3, bind_ok, r_some, binD, addS (show F.length + kPrice.length ≤ 10000 by rw [nF, n3]; omega), addS (show (F ++ kPrice).length + [dg p].length ≤ 10000 by simp [nF, n3]), addS (show (F ++ kPrice ++ [dg p]).length + kNl.length ≤ 10000 by simp [nF, n3, n4]), addS (show (F ++ kPrice ++ [dg p] ++ kNl).length + Y.length ≤ 10000 by simp [nF, n3, n4]; omega), st_ok, runS]
  have : F ++ kPrice ++ [dg p] ++ kNl ++ Y = textN r l p a g b := by
    unfold textN tB tA
    rw [← hy, ← hx]
  rw [this]
end Ev

set_option Elab.async false
set_option linter.all false
set_option maxRecDepth 100000
set_option maxHeartbeats 4000000
set_option exponentiation.threshold 3000
namespace Ev
open PySem PySem.Spec PyProof.Rows L2 SX
/-! ### a text cut at a sign -/
def cut (c : Nat) : List Nat → List (List Nat)
  | [] => [[]]
  | x :: r => if x = c then [] :: cut c r else match cut c r with
    | [] => [[x]]
    | p :: q => (x :: p) :: q
theorem cut_ne {c : Nat} : ∀ a, cut c a ≠ []
  | [] => by simp [cut]
  | x :: r => by
    unfold cut
    split
    · simp
    · split <;> simp
theorem cut_no {c : Nat} : ∀ a, ∀ p ∈ cut c a, c ∉ p
  | [], p, h => by
    simp [cut] at h
    simp [h]
  | x :: r, p, h => by
    have ih := cut_no (c := c) r
    unfold cut at h
    split at h
    · rcases List.mem_cons.mp h with e | e
      · simp [e]
      · exact ih p e
    · rename_i hx
      split at h
      · rename_i e
        exact absurd e (cut_ne r)
      · rename_i p0 q0 e
        rw [e] at ih
        rcases List.mem_cons.mp h with h | h
        · rw [h]
          intro hm
          rcases List.mem_cons.mp hm with h2 | h2
          · exact hx h2.symm
          · exact ih p0 (by simp) h2
        · exact ih p (by simp [h])
theorem cut_join {c : Nat} : ∀ a, TL.joinL [c] (cut c a) = a
  | [] => rfl
  | x :: r => by
    have ih := cut_join (c := c) r
    unfold cut
    split
    · rename_i hx
      subst hx
      cases e : cut x r with
      | nil => exact absurd e (cut_ne r)
      | cons p q =>
        rw [e] at ih
        show [] ++ ([x] ++ TL.joinL [x] (p :: q)) = _
        rw [ih]
        rfl
    · split
      · rename_i e
        exact absurd e (cut_ne r)
      · rename_i p q e
        rw [e] at ih
        cases q with
        | nil =>
          have ih : p = r := ih
          rw [← ih]
          rfl
        | cons q qs =>
          have ih : p ++ ([c] ++ TL.joinL [c] (q :: qs)) = r := ih
          show (x :: p) ++ ([c] ++ TL.joinL [c] (q :: qs)) = _
          rw [← ih]
          rfl
theorem cut_sub {c : Nat} : ∀ a, ∀ p ∈ cut c a, (∀ y ∈ p, y ∈ a) ∧ p.length ≤ a.length
  | [], p, h => by
    simp [cut] at h
    simp [h]
  | x :: r, p, h => by
    have ih := cut_sub (c := c) r
    unfold cut at h
    split at h
    · rcases List.mem_cons.mp h with e | e
      · simp [e]
      · exact ⟨fun y hy => List.mem_cons_of_mem _ ((ih p e).1 y hy), by have := (ih p e).2; simp; omega⟩
    · split at h
      · rename_i e
        exact absurd e (cut_ne r)
      · rename_i p0 q0 e
        rw [e] at ih
        rcases List.mem_cons.mp h with h | h
        · rw [h]
          have h0 := ih p0 (by simp)
          exact ⟨fun y hy => by
            rcases List.mem_cons.mp hy with h2 | h2
            · simp [h2]
            · exact List.mem_cons_of_mem _ (h0.1 y h2), by have := h0.2; simp; omega⟩
        · have h0 := ih p (by simp [h])
          exact ⟨fun y hy => List.mem_cons_of_mem _ (h0.1 y hy), by have := h0.2; simp; omega⟩
theorem split_cut {c : Nat} (hc : c < 256) (a : List Nat) : Txt.split (SX.S a) (SX.S [c]) = (cut c a).map SX.S := by
  rw [split_S (by simp) (by simp [hc])]
  congr 1
  have := SX.spl_join (c := c) (sep := []) (parts := cut c a) (cut_ne a) (cut_no a)
  rw [cut_join] at this
  exact this
theorem cut_count {c : Nat} (hc : c < 256) (a : List Nat) : Txt.count (SX.S a) (SX.S [c]) = ((cut c a).length : Int) - 1 := by
  have h1 := split_len (SX.S a) c
  have h2 := count_cnt (SX.S a) c
  have h3 : Txt.split (SX.S a) ⟨#[c]⟩ = (cut c a).map SX.S := split_cut hc a
  rw [h3, List.length_map] at h1
  have h4 : Txt.count (SX.S a) (SX.S [c]) = cnt c (SX.S a).cps.toList := h2
  rw [h4]
  omega
/-- a text of few signs -/
def txOk (a : List Nat) : Prop := (∀ c ∈ a, c < 1114112) ∧ a.length ≤ 900
theorem txOk.cut {a : List Nat} (h : txOk a) {c : Nat} {p : List Nat} (hp : p ∈ cut c a) : txOk p := by
  obtain ⟨h1, h2⟩ := cut_sub a p hp
  exact ⟨fun y hy => h.1 y (h1 y hy), Nat.le_trans h2 h.2⟩
theorem txOk.ws {a : List Nat} (h : txOk a) (c : Nat) : wsOk ((Ev.cut c a).map SX.S) := by
  intro w hw
  obtain ⟨p, hp, rfl⟩ := List.mem_map.mp hw
  have := h.cut hp
  refine ⟨?_, by rw [S_len]; have := this.2; omega⟩
  unfold PyData.strOk
  rw [← Array.all_toList]
  exact List.all_eq_true.mpr fun y hy => decide_eq_true (this.1 y hy)
theorem cut_len {c : Nat} : ∀ a, (cut c a).length ≤ a.length + 1
  | [] => by simp [cut]
  | x :: r => by
    have ih := cut_len (c := c) r
    unfold cut
    split
    · simp; omega
    · split
      · simp
      · rename_i e
        rw [e] at ih
        simp at ih ⊢
        omega
/-! ### what of the store stays -/
def Keep (μ μ' : Mem) : Prop := ∀ m xs, lstAt μ m = some xs → lstAt μ' m = some xs
theorem Keep.refl (μ : Mem) : Keep μ μ := fun _ _ h => h
theorem Keep.trans {a b c : Mem} (h : Keep a b) (k : Keep b c) : Keep a c := fun m xs x => k m xs (h m xs x)
theorem Keep.app (μ ν : Mem) : Keep μ (μ ++ ν) := fun _ _ h => lst_app h
theorem Keep.set {μ μ' : Mem} {n : Nat} {o : MO} (h : Keep μ μ') (hn : μ.length ≤ n) : Keep μ (μ'.set n o) := fun m xs x => by
  have := h m xs x
  have hm := lst_lt x
  unfold lstAt at this ⊢
  rw [List.getElem?_set_ne (by omega)]
  exact this
theorem Keep.bag {μ μ' : Mem} (h : Keep μ μ') {n : Nat} (b : Bag μ n) : Bag μ' n := let ⟨x, y, e, r⟩ := b; ⟨x, y, h _ _ e, r⟩
/-- a comprehension without a test, by an invariant -/
theorem lc_inv {src : Src} {tg : Tg} {elt : E} {ρ : Env} {n N : Nat} (I : Nat → Mem → Prop)
    (step : ∀ i μ, i < N → I i μ → ∃ d ρ1 y μ3 xs, src.nxt i μ = some (some d) ∧ Tg.set μ tg d ρ = some ρ1 ∧ elt ρ1 μ = .ok y μ3 ∧ lstAt μ3 n = some xs ∧ xs.length < 16777216 ∧ I (i + 1) (μ3.set n (.lst (xs ++ [y]))))
    (stop : ∀ μ, I N μ → src.nxt N μ = some none) : ∀ k i μ, i + k = N → I i μ → ∃ μ', lcGo src tg tYesT elt ρ n k i μ = .ok (.loc n) μ' ∧ I N μ'
  | 0, i, μ, hi, h => by
    have e : i = N := by omega
    subst e
    refine ⟨μ, ?_, h⟩
    rw [lcGo, stop μ h]
  | k + 1, i, μ, hi, h => by
    obtain ⟨d, ρ1, y, μ3, xs, h1, h2, h3, h4, h5, h6⟩ := step i μ (by omega) h
    obtain ⟨μ', h7, h8⟩ := lc_inv I step stop k (i + 1) _ (by omega) h6
    refine ⟨μ', ?_, h8⟩
    rw [lcGo, h1]
    simp only [h2, tYesT, noEx, if_true, h3, h4, h5]
    exact h7
end Ev

set_option Elab.async false
set_option linter.all false
set_option maxRecDepth 100000
set_option maxHeartbeats 4000000
set_option exponentiation.threshold 3000
namespace Ev
open PySem PySem.Spec PyProof.Rows L2 SX
def m_read_rule (call : Tab) : S := (sSeq (sIf (tOr' (tNo (tTru (eUn (isiD ["str"]) (eVar 0)))) (tBl (eBin (cmpD .NotEq) (eMt "str" countD (eVar 0) (esCons (eK (.str "\n")) esNil)) (eK (.int 1))))) (sSeq (sRaise "NoText") sNx) sNx) (sSeq (sSet (.tp [(.nm 3), (.nm 4)]) (eLc (iSeq (eMt "str" splitD (eVar 0) (esCons (eK (.str "\n")) esNil))) (.nm 5) tYesT (eMt "str" splitD (eVar 5) (esCons (eK (.str " ")) esNil)) [5])) (sSeq (sSet (.nm 1) (eApp tupleD (esCons (eLc (iSeq (eApp tupP (esCons (eK (.str "machine")) (esCons (eK (.str "length")) (esCons (eK (.str "price")) esNil))))) (.nm 6) tYesT (eDef call "figure" (esCons (eVar 3) (esCons (eVar 6) (esCons (eUn negD (eK (.int 1))) esNil)))) [6]) esNil))) (sSeq (sSet (.nm 2) (eApp tupP (esCons (eDef call "figure" (esCons (eVar 4) (esCons (eK (.str "at")) (esCons (eUn negD (eK (.int 1))) esNil)))) (esCons (eDef call "figure" (esCons (eVar 4) (esCons (eK (.str "after")) (esCons (eK (.int 5)) esNil)))) (esCons (eDef call "figure" (esCons (eVar 4) (esCons (eK (.str "every")) (esCons (eK (.int 1)) esNil)))) esNil))))) (sSeq (sIf (tOr' (tNo (tTru (eDef call "is_machine" (esCons (eVar 1) esNil)))) (tOr' (tNo (tTru (eDef call "is_rule_of" (esCons (eVar 1) (esCons (eVar 2) esNil))))) (tBl (eBin (cmpD .NotEq) (eDef call "text_of" (esCons (eVar 1) (esCons (eVar 2) esNil))) (eVar 0))))) (sSeq (sRaise "NoText") sNx) sNx) (sSeq (sRet (eApp tupP (esCons (eVar 1) (esCons (eVar 2) esNil)))) sNx))))))
def readB (x : List Nat) : Option D := match cut 10 x with
  | [A, B] =>
    let wa := (cut 32 A).map SX.S
    let wb := (cut 32 B).map SX.S
    let r := figB wa "machine" (-1)
    let l := figB wa "length" (-1)
    let p := figB wa "price" (-1)
    let a := figB wb "at" (-1)
    let g := figB wb "after" 5
    let b := figB wb "every" 1
    if machB (.tup [.int r, .int l, .int p]) = true ∧ ruleB r l (ruleD a g b) = true ∧ textN r l p a g b = x then some (.tup [.tup [.int r, .int l, .int p], ruleD a g b]) else none
  | _ => none
def SpRead (f : Fn) : Prop := ∀ x μ, txOk x → ∃ μ', Keep μ μ' ∧ f [.str (SX.S x)] μ = match readB x with
  | some d => .ok d μ'
  | none => .ex { c := "NoText" } μ'
theorem lst_set_ne {μ : Mem} {n m : Nat} {o : MO} (h : n ≠ m) : lstAt (μ.set n o) m = lstAt μ m := by
  unfold lstAt
  rw [List.getElem?_set_ne h]
theorem lc_turn {src : Src} {tg : Tg} {elt : E} {ρ ρ1 : Env} {n k i : Nat} {μ μ3 : Mem} {d y : D} {xs : List D} (h1 : src.nxt i μ = some (some d)) (h2 : Tg.set μ tg d ρ = some ρ1) (h3 : elt ρ1 μ = .ok y μ3) (h4 : lstAt μ3 n = some xs) (h5 : xs.length < 16777216) :
    lcGo src tg tYesT elt ρ n (k + 1) i μ = lcGo src tg tYesT elt ρ n k (i + 1) (μ3.set n (.lst (xs ++ [y]))) := by
  rw [lcGo, h1]
  simp only [h2, tYesT, noEx, if_true, h3, h4, h5]
theorem lc_end {src : Src} {tg : Tg} {elt : E} {ρ : Env} {n i : Nat} {μ : Mem} (h1 : src.nxt i μ = some none) : lcGo src tg tYesT elt ρ n 0 i μ = .ok (.loc n) μ := by
  rw [lcGo, h1]
theorem split_e {x : List Nat} {c : Nat} {μ : Mem} (hc : c < 256) (h : txOk x) : splitD (.str (SX.S x)) [.str (SX.S [c])] μ = some (.loc μ.length, μ ++ [.lst (((cut c x).map SX.S).map .str)]) := by
  unfold splitD
  have h1 : (SX.S [c]).length ≠ 0 ∧ (SX.S x).length + 2 ≤ sizeLine := by
    rw [S_len, S_len, sizeLine_eq]
    have := h.2
    exact ⟨by simp, by omega⟩
  simp only [h1, split_cut hc]
  rfl
/-- the two lines, as lists of words -/
def rdL : E := (eLc (iSeq (eMt "str" splitD (eVar 0) (esCons (eK (.str "\n")) esNil))) (.nm 5) tYesT (eMt "str" splitD (eVar 5) (esCons (eK (.str " ")) esNil)) [5])
theorem s_sp : (" " : Str) = SX.S [32] := by kernel_rfl
theorem s_nl : ("\n" : Str) = SX.S [10] := by kernel_rfl
theorem rd_lines {x A B : List Nat} {μ : Mem} (h : txOk x) (hc : cut 10 x = [A, B]) : ∃ n w1 w2 μ', rdL [some (.str (SX.S x)), none, none, none, none, none, none] μ = .ok (.loc n) μ' ∧ Keep μ μ' ∧ lstAt μ' n = some [.loc w1, .loc w2] ∧ lstAt μ' w1 = some (((cut 32 A).map SX.S).map .str) ∧ lstAt μ' w2 = some (((cut 32 B).map SX.S).map .str) := by
  have hA : txOk A := h.cut (c := 10) (by rw [hc]; simp)
  have hB : txOk B := h.cut (c := 10) (by rw [hc]; simp)
  have hs := split_e (μ := μ) (c := 10) (by omega) h
  rw [hc] at hs
  let μ1 : Mem := μ ++ [.lst [.str (SX.S A), .str (SX.S B)]]
  have hs : splitD (.str (SX.S x)) [.str (SX.S [10])] μ = some (.loc μ.length, μ1) := hs
  have hi : iSeq (eMt "str" splitD (eVar 0) (esCons (eK (.str "\n")) esNil)) [some (.str (SX.S x)), none, none, none, none, none, none] μ = .ok (.lst μ.length) μ1 := by
    unfold iSeq
    have hk : kindD μ (.str (SX.S x)) = "str" := rfl
    simp only [eMt, eVar, List.getElem?_cons_zero, bind_ok, hk, if_true, esCons, esNil, k_e s_nl, hs, r_some]
    have : lstAt μ1 μ.length = some [.str (SX.S A), .str (SX.S B)] := lst_at_new
    simp only [this]
  let n := μ1.length
  let M0 : Mem := μ1 ++ [.lst []]
  have hl0 : lstAt M0 μ.length = some [.str (SX.S A), .str (SX.S B)] := lst_app lst_at_new
  have hn0 : lstAt M0 n = some [] := lst_at_new
  have ne1 : n ≠ μ.length := by show (μ ++ _).length ≠ _; simp
  -- turn 1
  let W1 : MO := .lst (((cut 32 A).map SX.S).map .str)
  let M0' : Mem := M0 ++ [W1]
  let M1 : Mem := M0'.set n (.lst ([] ++ [.loc M0.length]))
  have lM0 : M0.length = n + 1 := by show (μ1 ++ _).length = _; simp [n]
  have hl0' : lstAt M0' μ.length = some [.str (SX.S A), .str (SX.S B)] := lst_app hl0
  have hn0' : lstAt M0' n = some [] := lst_app hn0
  have hl1 : lstAt M1 μ.length = some [.str (SX.S A), .str (SX.S B)] := by rw [lst_set_ne ne1]; exact hl0'
  have hn1 : lstAt M1 n = some ([] ++ [.loc M0.length]) := lst_set hn0'
  have hw1 : lstAt M1 M0.length = some (((cut 32 A).map SX.S).map .str) := by rw [lst_set_ne (by omega)]; exact lst_at_new
  -- turn 2
  let M1' : Mem := M1 ++ [.lst (((cut 32 B).map SX.S).map .str)]
  let M2 : Mem := M1'.set n (.lst ([] ++ [.loc M0.length] ++ [.loc M1.length]))
  have lM1 : M1.length = n + 2 := by show (M0'.set n _).length = _; rw [List.length_set]; show (M0 ++ _).length = _; simp [lM0]
  have hn1' : lstAt M1' n = some ([] ++ [.loc M0.length]) := lst_app hn1
  have e1 : ∀ y M, txOk y → eMt "str" splitD (eVar 5) (esCons (eK (.str " ")) esNil) [some (.str (SX.S x)), none, none, none, none, some (.str (SX.S y)), none] M = .ok (.loc M.length) (M ++ [.lst (((cut 32 y).map SX.S).map .str)]) := fun y M hy => by
    have hk : kindD M (.str (SX.S y)) = "str" := rfl
    simp only [eMt, eVar, List.getElem?_cons_zero, List.getElem?_cons_succ, bind_ok, hk, if_true, esCons, esNil, k_e s_sp, split_e (c := 32) (by omega) hy, r_some]
  refine ⟨n, M0.length, M1.length, M2, ?_, ?_, ?_, ?_, ?_⟩
  · unfold rdL eLc
    rw [hi]
    have hb : Src.bnd (.lst μ.length) μ1 = 2 := by
      have : lstAt μ1 μ.length = some [.str (SX.S A), .str (SX.S B)] := lst_at_new
      simp only [Src.bnd, this]
      rfl
    simp only [bind_ok, hb]
    rw [if_pos (by rfl)]
    have t1 := lc_turn (src := .lst μ.length) (tg := .nm 5) (elt := eMt "str" splitD (eVar 5) (esCons (eK (.str " ")) esNil)) (ρ := wipeE [some (.str (SX.S x)), none, none, none, none, none, none] [5]) (n := n) (k := 1) (i := 0) (μ := M0) (d := .str (SX.S A)) (by simp only [Src.nxt, hl0]; rfl) rfl (e1 A M0 hA) hn0' (by simp)
    have t2 := lc_turn (src := .lst μ.length) (tg := .nm 5) (elt := eMt "str" splitD (eVar 5) (esCons (eK (.str " ")) esNil)) (ρ := wipeE [some (.str (SX.S x)), none, none, none, none, none, none] [5]) (n := n) (k := 0) (i := 1) (μ := M1) (d := .str (SX.S B)) (by simp only [Src.nxt, hl1]; rfl) rfl (e1 B M1 hB) hn1' (by simp)
    have t3 := lc_end (src := .lst μ.length) (tg := .nm 5) (elt := eMt "str" splitD (eVar 5) (esCons (eK (.str " ")) esNil)) (ρ := wipeE [some (.str (SX.S x)), none, none, none, none, none, none] [5]) (n := n) (i := 2) (μ := M2) (by
      have : lstAt M2 μ.length = some [.str (SX.S A), .str (SX.S B)] := by rw [lst_set_ne ne1]; exact lst_app hl1
      simp only [Src.nxt, this]
      rfl)
    exact t1.trans (t2.trans t3)
  · have hle : μ.length ≤ n := by show _ ≤ (μ ++ _).length; simp
    exact ((((Keep.app μ _).trans (Keep.app μ1 [.lst []])).trans (Keep.app M0 [W1])).set hle).trans (Keep.app M1 _) |>.set hle
  · exact lst_set hn1'
  · rw [lst_set_ne (by omega)]
    exact lst_app hw1
  · rw [lst_set_ne (by omega)]
    exact lst_at_new
end Ev

set_option Elab.async false
set_option linter.all false
set_option maxRecDepth 100000
set_option maxHeartbeats 4000000
set_option exponentiation.threshold 3000
namespace Ev
open PySem PySem.Spec PyProof.Rows L2 SX
theorem app1 {p : List D → Mem → O} {e : E} {ρ : Env} {μ μ' : Mem} {d : D} (h : e ρ μ = .ok d μ') : eApp p (esCons e esNil) ρ μ = (p [d] μ').r := by simp only [eApp, esCons, esNil, h, bind_ok]
theorem tupleD_seq {μ : Mem} {th : D} {xs : List D} (h : seqD μ th = some xs) : tupleD [th] μ = some (.tup xs, μ) := by simp only [tupleD, h]
def rdM (call : Tab) : E := (eApp tupleD (esCons (eLc (iSeq (eApp tupP (esCons (eK (.str "machine")) (esCons (eK (.str "length")) (esCons (eK (.str "price")) esNil))))) (.nm 6) tYesT (eDef call "figure" (esCons (eVar 3) (esCons (eVar 6) (esCons (eUn negD (eK (.int 1))) esNil)))) [6]) esNil))
def rdR (call : Tab) : E := (eApp tupP (esCons (eDef call "figure" (esCons (eVar 4) (esCons (eK (.str "at")) (esCons (eUn negD (eK (.int 1))) esNil)))) (esCons (eDef call "figure" (esCons (eVar 4) (esCons (eK (.str "after")) (esCons (eK (.int 5)) esNil)))) (esCons (eDef call "figure" (esCons (eVar 4) (esCons (eK (.str "every")) (esCons (eK (.int 1)) esNil)))) esNil))))
section
variable {call : Tab} {ff : Fn} (hf : call "figure" = some ff) (sf : SpFig ff)
include hf sf
theorem fig_k {ρ : Env} {M : Mem} {j w : Nat} {ws : List Str} {y : Str} {u : Int} {eu : E} (hj : ρ[j]? = some (some (.loc w))) (hw : lstAt M w = some (ws.map .str)) (ok : wsOk ws) (hu : ∀ M, eu ρ M = .ok (.int u) M) : ∃ ν, eDef call "figure" (esCons (eVar j) (esCons (eK (.str y)) (esCons eu esNil))) ρ M = .ok (.int (figB ws y u)) (M ++ ν) := by
  obtain ⟨ν, h⟩ := sf w ws y u M hw ok
  refine ⟨ν, ?_⟩
  rw [eDef_some hf]
  simp only [eCall, esCons, esNil, eVar, eK, hj, bind_ok, hu, h]
theorem fig_v {ρ : Env} {M : Mem} {j i w : Nat} {ws : List Str} {y : Str} {u : Int} {eu : E} (hj : ρ[j]? = some (some (.loc w))) (hi : ρ[i]? = some (some (.str y))) (hw : lstAt M w = some (ws.map .str)) (ok : wsOk ws) (hu : ∀ M, eu ρ M = .ok (.int u) M) : ∃ ν, eDef call "figure" (esCons (eVar j) (esCons (eVar i) (esCons eu esNil))) ρ M = .ok (.int (figB ws y u)) (M ++ ν) := by
  obtain ⟨ν, h⟩ := sf w ws y u M hw ok
  refine ⟨ν, ?_⟩
  rw [eDef_some hf]
  simp only [eCall, esCons, esNil, eVar, eK, hj, hi, bind_ok, hu, h]
theorem rd_mach {a1 a2 a3 a6 a7 : Option D} {w : Nat} {ws : List Str} {M : Mem} (hw : lstAt M w = some (ws.map .str)) (ok : wsOk ws) : ∃ M', rdM call [a1, a2, a3, some (.loc w), a6, a7, none] M = .ok (.tup [.int (figB ws "machine" (-1)), .int (figB ws "length" (-1)), .int (figB ws "price" (-1))]) M' ∧ Keep M M' := by
  let src : Src := .fix [.str "machine", .str "length", .str "price"]
  let n := M.length
  have hu : ∀ (y : Str) M, (eUn negD (eK (.int 1))) [a1, a2, a3, some (.loc w), a6, a7, some (.str y)] M = .ok (.int (-1)) M := fun _ _ => rfl
  have wn : ∀ {M' : Mem}, Keep M M' → w ≠ n := fun _ => by have := lst_lt hw; show w ≠ M.length; omega
  let M0 : Mem := M ++ [.lst []]
  have k0 : Keep M M0 := Keep.app M _
  have n0 : lstAt M0 n = some [] := lst_at_new
  obtain ⟨ν1, f1⟩ := fig_v hf sf (ρ := [a1, a2, a3, some (.loc w), a6, a7, some (.str "machine")]) (j := 3) (i := 6) rfl rfl (k0 _ _ hw) ok (hu "machine")
  let M1 : Mem := (M0 ++ ν1).set n (.lst ([] ++ [.int (figB ws "machine" (-1))]))
  have n1' : lstAt (M0 ++ ν1) n = some [] := lst_app n0
  have k1 : Keep M M1 := (k0.trans (Keep.app _ _)).set (Nat.le_refl _)
  have n1 : lstAt M1 n = some ([] ++ [.int (figB ws "machine" (-1))]) := lst_set n1'
  obtain ⟨ν2, f2⟩ := fig_v hf sf (ρ := [a1, a2, a3, some (.loc w), a6, a7, some (.str "length")]) (j := 3) (i := 6) rfl rfl (k1 _ _ hw) ok (hu "length")
  let M2 : Mem := (M1 ++ ν2).set n (.lst ([] ++ [.int (figB ws "machine" (-1))] ++ [.int (figB ws "length" (-1))]))
  have n2' : lstAt (M1 ++ ν2) n = some ([] ++ [.int (figB ws "machine" (-1))]) := lst_app n1
  have k2 : Keep M M2 := (k1.trans (Keep.app _ _)).set (Nat.le_refl _)
  have n2 : lstAt M2 n = some ([] ++ [.int (figB ws "machine" (-1))] ++ [.int (figB ws "length" (-1))]) := lst_set n2'
  obtain ⟨ν3, f3⟩ := fig_v hf sf (ρ := [a1, a2, a3, some (.loc w), a6, a7, some (.str "price")]) (j := 3) (i := 6) rfl rfl (k2 _ _ hw) ok (hu "price")
  let M3 : Mem := (M2 ++ ν3).set n (.lst ([] ++ [.int (figB ws "machine" (-1))] ++ [.int (figB ws "length" (-1))] ++ [.int (figB ws "price" (-1))]))
  have n3' : lstAt (M2 ++ ν3) n = some ([] ++ [.int (figB ws "machine" (-1))] ++ [.int (figB ws "length" (-1))]) := lst_app n2
  have k3 : Keep M M3 := (k2.trans (Keep.app _ _)).set (Nat.le_refl _)
  have n3 : lstAt M3 n = some ([] ++ [.int (figB ws "machine" (-1))] ++ [.int (figB ws "length" (-1))] ++ [.int (figB ws "price" (-1))]) := lst_set n3'
  refine ⟨M3, ?_, k3⟩
  have hi : iSeq (eApp tupP (esCons (eK (.str "machine")) (esCons (eK (.str "length")) (esCons (eK (.str "price")) esNil)))) [a1, a2, a3, some (.loc w), a6, a7, none] M = .ok src M := rfl
  have t1 := lc_turn (src := src) (tg := .nm 6) (elt := eDef call "figure" (esCons (eVar 3) (esCons (eVar 6) (esCons (eUn negD (eK (.int 1))) esNil)))) (ρ := wipeE [a1, a2, a3, some (.loc w), a6, a7, none] [6]) (n := n) (k := 2) (i := 0) (μ := M0) (d := .str "machine") rfl rfl f1 n1' (by simp)
  have t2 := lc_turn (src := src) (tg := .nm 6) (elt := eDef call "figure" (esCons (eVar 3) (esCons (eVar 6) (esCons (eUn negD (eK (.int 1))) esNil)))) (ρ := wipeE [a1, a2, a3, some (.loc w), a6, a7, none] [6]) (n := n) (k := 1) (i := 1) (μ := M1) (d := .str "length") rfl rfl f2 n2' (by simp)
  have t3 := lc_turn (src := src) (tg := .nm 6) (elt := eDef call "figure" (esCons (eVar 3) (esCons (eVar 6) (esCons (eUn negD (eK (.int 1))) esNil)))) (ρ := wipeE [a1, a2, a3, some (.loc w), a6, a7, none] [6]) (n := n) (k := 0) (i := 2) (μ := M2) (d := .str "price") rfl rfl f3 n3' (by simp)
  have t4 := lc_end (src := src) (tg := .nm 6) (elt := eDef call "figure" (esCons (eVar 3) (esCons (eVar 6) (esCons (eUn negD (eK (.int 1))) esNil)))) (ρ := wipeE [a1, a2, a3, some (.loc w), a6, a7, none] [6]) (n := n) (i := 3) (μ := M3) rfl
  have hlc : eLc (iSeq (eApp tupP (esCons (eK (.str "machine")) (esCons (eK (.str "length")) (esCons (eK (.str "price")) esNil))))) (.nm 6) tYesT (eDef call "figure" (esCons (eVar 3) (esCons (eVar 6) (esCons (eUn negD (eK (.int 1))) esNil)))) [6] [a1, a2, a3, some (.loc w), a6, a7, none] M = .ok (.loc n) M3 := by
    unfold eLc
    rw [hi]
    simp only [bind_ok]
    rw [if_pos (by rfl)]
    exact t1.trans (t2.trans (t3.trans t4))
  refine (app1 hlc).trans ?_
  rw [tupleD_seq (show seqD M3 (.loc n) = _ from n3)]
  rfl
theorem rd_rule {a1 a2 a3 a4 a6 a7 : Option D} {w : Nat} {ws : List Str} {M : Mem} (hw : lstAt M w = some (ws.map .str)) (ok : wsOk ws) : ∃ M', rdR call [a1, a2, a3, a4, some (.loc w), a6, a7] M = .ok (ruleD (figB ws "at" (-1)) (figB ws "after" 5) (figB ws "every" 1)) M' ∧ Keep M M' := by
  obtain ⟨ν1, f1⟩ := fig_k hf sf (ρ := [a1, a2, a3, a4, some (.loc w), a6, a7]) (M := M) (j := 4) (y := "at") (u := -1) (eu := eUn negD (eK (.int 1))) rfl hw ok (fun _ => rfl)
  obtain ⟨ν2, f2⟩ := fig_k hf sf (ρ := [a1, a2, a3, a4, some (.loc w), a6, a7]) (M := M ++ ν1) (j := 4) (y := "after") (u := 5) (eu := eK (.int 5)) rfl (lst_app hw) ok (fun _ => rfl)
  obtain ⟨ν3, f3⟩ := fig_k hf sf (ρ := [a1, a2, a3, a4, some (.loc w), a6, a7]) (M := M ++ ν1 ++ ν2) (j := 4) (y := "every") (u := 1) (eu := eK (.int 1)) rfl (lst_app (lst_app hw)) ok (fun _ => rfl)
  refine ⟨M ++ ν1 ++ ν2 ++ ν3, ?_, ((Keep.app M ν1).trans (Keep.app _ ν2)).trans (Keep.app _ ν3)⟩
  unfold rdR
  simp only [eApp, f1, f2, f3, esCons, esNil, bind_ok, tupP]
  rfl
end
theorem txt_of_beq {x y : List Nat} {μ : Mem} (hx : ∀ c ∈ x, c < 1114112) (hy : ∀ c ∈ y, c < 1114112) : neD (.str (SX.S x)) (.str (SX.S y)) μ = some (.bl (!decide (x = y)), μ) := by
  have s1 : ∀ z : List Nat, (∀ c ∈ z, c < 1114112) → SeqAt.shaped (.str (SX.S z)) = true := fun z hz => by
    have : PyData.strOk (SX.S z) = true := by
      unfold PyData.strOk
      rw [← Array.all_toList]
      exact List.all_eq_true.mpr fun c hc => decide_eq_true (hz c hc)
    unfold SeqAt.shaped
    simp only [PyData.canLay0, PyData.depth, this]
    rfl
  unfold neD eqM
  simp only [toPyM, toPy, s1 x hx, s1 y hy, Bool.and_self, if_true, PyData.eqv, S_beq_eq]
  rfl
theorem lt_dg {i : Int} (h : 0 ≤ i) (h2 : i ≤ 9) : dg i < 1114112 := by unfold dg; omega
theorem text_sm {r l p a g b : Int} (hm : machN r l p) (hr : ruleN a g b) : ∀ c ∈ textN r l p a g b, c < 1114112 := by
  obtain ⟨r1, r2, l1, l2, p1, p2⟩ := hm
  obtain ⟨a1, a2, g1, g2, b1, b2⟩ := hr
  have h1 := lt_dg (i := r) (by omega) (by omega)
  have h2 := lt_dg (i := l) (by omega) (by omega)
  have h3 := lt_dg (i := p) (by omega) (by omega)
  have h4 := lt_dg (i := a) (by omega) (by omega)
  have hk : ∀ k ∈ [kMachine, kLength, kPrice, kNl, kStart, kAfter, kEvery2], ∀ c ∈ k, c < 1114112 := by decide
  intro c hc
  unfold textN tA tB at hc
  simp only [List.mem_append, List.mem_singleton] at hc
  rcases hc with ((((((h | h) | h) | h) | h) | h) | h) | ((h | h) | h) | h
  · exact hk kMachine (by simp) c h
  · rw [h]; exact h1
  · exact hk kLength (by simp) c h
  · rw [h]; exact h2
  · exact hk kPrice (by simp) c h
  · rw [h]; exact h3
  · exact hk kNl (by simp) c h
  · exact hk kStart (by simp) c h
  · rw [h]; exact h4
  · split at h
    · simp at h
    · rcases List.mem_append.mp h with h | h
      · exact hk kAfter (by simp) c h
      · rw [List.mem_singleton.mp h]; omega
  · split at h
    · exact hk kEvery2 (by simp) c h
    · simp at h
theorem machB_N {r l p : Int} (h : machB (.tup [.int r, .int l, .int p]) = true) : machN r l p := by
  simp [machB, intB] at h
  unfold machN
  omega
theorem machB_of {r l p : Int} (h : machN r l p) : machB (.tup [.int r, .int l, .int p]) = true := by
  obtain ⟨r1, r2, l1, l2, p1, p2⟩ := h
  simp [machB, intB]
  omega
theorem ruleB_N {r l a g b : Int} (hr : r ≤ 3) (h : ruleB r l (ruleD a g b) = true) : ruleN a g b := by
  simp [ruleB, ruleD, intB] at h
  unfold ruleN
  omega
theorem okTT3 {μ : Mem} {a b c : Int} : okTT μ (.tup [.int a, .int b, .int c]) := ⟨rfl, fun xs e x hx => by
  cases e
  simp at hx
  rcases hx with rfl | rfl | rfl <;> rfl⟩
theorem sp_read {call : Tab} {ff fm fr ft : Fn} (hf : call "figure" = some ff) (hm : call "is_machine" = some fm) (hr : call "is_rule_of" = some fr) (ht : call "text_of" = some ft) (sf : SpFig ff) (sm : SpMach fm) (sr : SpRule fr) (st : SpText ft) : SpRead (mkFn 1 6 m_read_rule call) := by
  intro x μ hx
  have h0 : mkFn 1 6 m_read_rule call [.str (SX.S x)] μ = runS (m_read_rule call [some (.str (SX.S x)), none, none, none, none, none, none] μ) := rfl
  have hcnt : eMt "str" countD (eVar 0) (esCons (eK (.str "\n")) esNil) [some (.str (SX.S x)), none, none, none, none, none, none] μ = .ok (.int (((cut 10 x).length : Int) - 1)) μ := by
    have hk : kindD μ (.str (SX.S x)) = "str" := rfl
    simp only [eMt, eVar, List.getElem?_cons_zero, bind_ok, hk, if_true, esCons, esNil, k_e s_nl, countD, cut_count (show 10 < 256 by omega), r_some]
  have hif : sIf (tOr' (tNo (tTru (eUn (isiD ["str"]) (eVar 0)))) (tBl (eBin (cmpD .NotEq) (eMt "str" countD (eVar 0) (esCons (eK (.str "\n")) esNil)) (eK (.int 1))))) (sSeq (sRaise "NoText") sNx) sNx [some (.str (SX.S x)), none, none, none, none, none, none] μ
      = if (cut 10 x).length = 2 then .nx [some (.str (SX.S x)), none, none, none, none, none, none] μ else .ex { c := "NoText" } [some (.str (SX.S x)), none, none, none, none, none, none] μ := by
    have h1 : eUn (isiD ["str"]) (eVar 0) [some (.str (SX.S x)), none, none, none, none, none, none] μ = .ok (.bl true) μ := rfl
    simp only [sIf, tOr', tNo, tTru, h1, bind_ok, tru_bl, Bool.not_true, Bool.false_eq_true, if_false, tBl, eBin, hcnt, eK, cmpD, neD_int, r_some, st_ok, seq_eq, sRaise, sNx]
    by_cases h2 : (cut 10 x).length = 2
    · have : ((((cut 10 x).length : Int) - 1) == 1) = true := by rw [beq_iff_eq]; omega
      rw [if_pos h2]
      simp only [this, Bool.not_true, Bool.false_eq_true, if_false]
    · have : ((((cut 10 x).length : Int) - 1) == 1) = false := by rw [beq_eq_false_iff_ne]; omega
      rw [if_neg h2]
      simp only [this, Bool.not_false, if_true]
  by_cases h2 : (cut 10 x).length = 2
  · obtain ⟨A, B, hc⟩ : ∃ A B, cut 10 x = [A, B] := by
      match cut 10 x, h2 with
      | [A, B], _ => exact ⟨A, B, rfl⟩
    rw [if_pos h2] at hif
    obtain ⟨n, w1, w2, M1, e1, k1, l0, l1, l2⟩ := rd_lines (μ := μ) hx hc
    have hA : wsOk ((cut 32 A).map SX.S) := (hx.cut (c := 10) (p := A) (by rw [hc]; simp)).ws 32
    have hB : wsOk ((cut 32 B).map SX.S) := (hx.cut (c := 10) (p := B) (by rw [hc]; simp)).ws 32
    obtain ⟨M2, e2, k2⟩ := rd_mach hf sf (a1 := some (.str (SX.S x))) (a2 := none) (a3 := none) (a6 := some (.loc w2)) (a7 := none) l1 hA
    generalize hr0 : figB ((cut 32 A).map SX.S) "machine" (-1) = r at e2
    generalize hl0 : figB ((cut 32 A).map SX.S) "length" (-1) = l at e2
    generalize hp0 : figB ((cut 32 A).map SX.S) "price" (-1) = p at e2
    obtain ⟨M3, e3, k3⟩ := rd_rule hf sf (a1 := some (.str (SX.S x))) (a2 := some (.tup [.int r, .int l, .int p])) (a3 := none) (a4 := some (.loc w1)) (a6 := none) (a7 := none) (k2 _ _ l2) hB
    generalize ha0 : figB ((cut 32 B).map SX.S) "at" (-1) = a at e3
    generalize hg0 : figB ((cut 32 B).map SX.S) "after" 5 = g at e3
    generalize hb0 : figB ((cut 32 B).map SX.S) "every" 1 = b at e3
    refine ⟨M3, (k1.trans k2).trans k3, ?_⟩
    have hread : readB x = if machB (.tup [.int r, .int l, .int p]) = true ∧ ruleB r l (ruleD a g b) = true ∧ textN r l p a g b = x then some (.tup [.tup [.int r, .int l, .int p], ruleD a g b]) else none := by
      unfold readB
      rw [hc]
      simp only [hr0, hl0, hp0, ha0, hg0, hb0]
    rw [hread, h0]
    let ρ : Env := [some (.str (SX.S x)), some (.tup [.int r, .int l, .int p]), some (ruleD a g b), some (.loc w1), some (.loc w2), none, none]
    have s1 : sSet (.tp [(.nm 3), (.nm 4)]) rdL [some (.str (SX.S x)), none, none, none, none, none, none] μ = .nx [some (.str (SX.S x)), none, none, some (.loc w1), some (.loc w2), none, none] M1 := by
      unfold sSet
      rw [e1]
      simp only [st_ok, Tg.set, l0, Tg.sets]
      rfl
    have s2 : sSet (.nm 1) (rdM call) [some (.str (SX.S x)), none, none, some (.loc w1), some (.loc w2), none, none] M1 = .nx [some (.str (SX.S x)), some (.tup [.int r, .int l, .int p]), none, some (.loc w1), some (.loc w2), none, none] M2 := by
      unfold sSet
      rw [e2]
      rfl
    have s3 : sSet (.nm 2) (rdR call) [some (.str (SX.S x)), some (.tup [.int r, .int l, .int p]), none, some (.loc w1), some (.loc w2), none, none] M2 = .nx ρ M3 := by
      unfold sSet
      rw [e3]
      rfl
    have hm0 : m_read_rule call = sSeq (sIf (tOr' (tNo (tTru (eUn (isiD ["str"]) (eVar 0)))) (tBl (eBin (cmpD .NotEq) (eMt "str" countD (eVar 0) (esCons (eK (.str "\n")) esNil)) (eK (.int 1))))) (sSeq (sRaise "NoText") sNx) sNx) (sSeq (sSet (.tp [(.nm 3), (.nm 4)]) rdL) (sSeq (sSet (.nm 1) (rdM call)) (sSeq (sSet (.nm 2) (rdR call)) (sSeq (sIf (tOr' (tNo (tTru (eDef call "is_machine" (esCons (eVar 1) esNil)))) (tOr' (tNo (tTru (eDef call "is_rule_of" (esCons (eVar 1) (esCons (eVar 2) esNil))))) (tBl (eBin (cmpD .NotEq) (eDef call "text_of" (esCons (eVar 1) (esCons (eVar 2) esNil))) (eVar 0))))) (sSeq (sRaise "NoText") sNx) sNx) (sSeq (sRet (eApp tupP (esCons (eVar 1) (esCons (eVar 2) esNil)))) sNx))))) := rfl
    rw [hm0, seq_eq, hif]
    simp only []
    rw [seq_eq, s1]
    simp only []
    rw [seq_eq, s2]
    simp only []
    rw [seq_eq, s3]
    simp only []
    have v0 : eVar 0 ρ M3 = .ok (.str (SX.S x)) M3 := rfl
    have v1 : eVar 1 ρ M3 = .ok (.tup [.int r, .int l, .int p]) M3 := rfl
    have v2 : eVar 2 ρ M3 = .ok (ruleD a g b) M3 := rfl
    have m1 := sm (.tup [.int r, .int l, .int p]) M3 okTT3
    rw [eDef_some hm, eDef_some hr, eDef_some ht]
    cases hmB : machB (.tup [.int r, .int l, .int p]) with
    | false =>
      rw [hmB] at m1
      simp [seq_eq, sIf, tOr', tNo, tTru, tBl, eCall, esCons, esNil, v1, v2, m1, tru_bl, bind_ok, st_ok, sRaise, sNx, runS]
    | true =>
      rw [hmB] at m1
      have hN := machB_N hmB
      have m2 := sr r l (.int p) (ruleD a g b) M3 hN.2.2.1 hN.2.2.2.1 hN.2.1 okTT3
      cases hrB : ruleB r l (ruleD a g b) with
      | false =>
        rw [hrB] at m2
        simp [seq_eq, sIf, tOr', tNo, tTru, tBl, eCall, esCons, esNil, v1, v2, m1, m2, tru_bl, bind_ok, st_ok, sRaise, sNx, runS]
      | true =>
        rw [hrB] at m2
        have hN2 := ruleB_N hN.2.1 hrB
        have m3 := st r l p a g b M3 hN hN2
        have m4 := txt_of_beq (μ := M3) (text_sm hN hN2) hx.1
        by_cases he : textN r l p a g b = x
        · have m4' : neD (.str (SX.S (textN r l p a g b))) (.str (SX.S x)) M3 = some (.bl false, M3) := by rw [m4, decide_eq_true he]; rfl
          rw [if_pos ⟨rfl, rfl, he⟩]
          simp [seq_eq, sIf, tOr', tNo, tTru, tBl, eBin, cmpD, eCall, esCons, esNil, v0, v1, v2, m1, m2, m3, m4', tru_bl, bind_ok, st_ok, r_some, sRaise, sNx, sRet, eApp, tupP, runS]
        · simp [seq_eq, sIf, tOr', tNo, tTru, tBl, eBin, cmpD, eCall, esCons, esNil, v0, v1, v2, m1, m2, m3, m4, he, tru_bl, bind_ok, st_ok, r_some, sRaise, sNx, runS]
  · rw [if_neg h2] at hif
    have hread : readB x = none := by
      unfold readB
      split
      · rename_i A B e
        rw [e] at h2
        exact absurd rfl h2
      · rfl
    refine ⟨μ, Keep.refl μ, ?_⟩
    rw [hread, h0]
    unfold m_read_rule
    rw [seq_eq, hif]
    rfl
end Ev

set_option Elab.async false
set_option linter.all false
set_option maxRecDepth 100000
set_option maxHeartbeats 4000000
set_option exponentiation.threshold 3000
namespace Ev
open PySem PySem.Spec PyProof.Rows L2 SX
structure SpRT (f : Fn) : Prop where
  good : ∀ r l p a g b μ, machN r l p → ruleB r l (ruleD a g b) = true → f [.tup [.int r, .int l, .int p], ruleD a g b] μ = .ok (.str (SX.S (textN r l p a g b))) μ
  rule : ∀ r l p v μ, machN r l p → okTT μ v → ruleB r l v = false → f [.tup [.int r, .int l, .int p], v] μ = .ex { c := "InvalidRule" } μ
  mach : ∀ v w μ, okTT μ v → machB v = false → f [v, w] μ = .ex { c := "InvalidMachine" } μ
theorem sp_rule_text {call : Tab} {fm fr ft : Fn} (hm : call "need_machine" = some fm) (hr : call "need_rule" = some fr) (ht : call "text_of" = some ft) (sm : SpNeedM fm) (sr : SpNeedR fr) (st : SpText ft) : SpRT (mkFn 2 0 m_rule_text call) := by
  have h0 : ∀ v w μ, mkFn 2 0 m_rule_text call [v, w] μ = runS (m_rule_text call [some v, some w] μ) := fun _ _ _ => rfl
  have e0 : ∀ v w μ, eVar 0 [some v, some w] μ = .ok v μ := fun _ _ _ => rfl
  have e1 : ∀ v w μ, eVar 1 [some v, some w] μ = .ok w μ := fun _ _ _ => rfl
  refine ⟨fun r l p a g b μ hN hB => ?_, fun r l p v μ hN hv hB => ?_, fun v w μ hv hB => ?_⟩
  · have m1 := sm (.tup [.int r, .int l, .int p]) μ okTT3
    rw [machB_of hN] at m1
    have m2 := sr r l (.int p) (ruleD a g b) μ hN.2.2.1 hN.2.2.2.1 hN.2.1 okTT3
    rw [hB] at m2
    have m3 := st r l p a g b μ hN (ruleB_N hN.2.1 hB)
    rw [h0]
    unfold m_rule_text
    rw [eDef_some hm, eDef_some hr, eDef_some ht]
    simp [seq_eq, sExpr, sRet, eCall, esCons, esNil, e0, e1, m1, m2, m3, bind_ok, st_ok, runS]
  · have m1 := sm (.tup [.int r, .int l, .int p]) μ okTT3
    rw [machB_of hN] at m1
    have m2 := sr r l (.int p) v μ hN.2.2.1 hN.2.2.2.1 hN.2.1 hv
    rw [hB] at m2
    rw [h0]
    unfold m_rule_text
    rw [eDef_some hm, eDef_some hr, eDef_some ht]
    simp [seq_eq, sExpr, sRet, eCall, esCons, esNil, e0, e1, m1, m2, bind_ok, bind_ex, st_ok, st_ex, runS]
  · have m1 := sm v μ hv
    rw [hB] at m1
    rw [h0]
    unfold m_rule_text
    rw [eDef_some hm, eDef_some hr, eDef_some ht]
    simp [seq_eq, sExpr, sRet, eCall, esCons, esNil, e0, e1, m1, bind_ok, bind_ex, st_ok, st_ex, runS]
/-! ### a good text is read to what it tells -/
theorem cut_app {c : Nat} : ∀ {p : List Nat} (q : List Nat), c ∉ p → cut c (p ++ c :: q) = p :: cut c q
  | [], q, _ => by simp [cut]
  | x :: r, q, h => by
    have hx : x ≠ c := fun e => h (by simp [e])
    have ih := cut_app (p := r) q (fun hm => h (List.mem_cons_of_mem _ hm))
    show cut c (x :: (r ++ c :: q)) = _
    rw [cut, if_neg hx, ih]
theorem cut_none {c : Nat} : ∀ {p : List Nat}, c ∉ p → cut c p = [p]
  | [], _ => rfl
  | x :: r, h => by
    have hx : x ≠ c := fun e => h (by simp [e])
    have ih := cut_none (p := r) (fun hm => h (List.mem_cons_of_mem _ hm))
    rw [cut, if_neg hx, ih]
theorem mach_cases {r l p : Int} {Q : Int → Int → Int → Prop} (h : machN r l p) (q : ∀ r ∈ ([1, 2, 3] : List Int), ∀ l ∈ ([1, 2, 3] : List Int), ∀ p ∈ ([1, 2, 3, 4, 5, 6, 7, 8, 9] : List Int), Q r l p) : Q r l p := by
  obtain ⟨r1, r2, l1, l2, p1, p2⟩ := h
  refine q r ?_ l ?_ p ?_
  · simp; omega
  · simp; omega
  · simp; omega
theorem rule_cases {a g b : Int} {Q : Int → Int → Int → Prop} (h : ruleN a g b) (q : ∀ a ∈ ([1, 2, 3] : List Int), ∀ g ∈ ([0, 1, 2, 3, 4, 5] : List Int), ∀ b ∈ ([1, 2] : List Int), Q a g b) : Q a g b := by
  obtain ⟨r1, r2, l1, l2, p1, p2⟩ := h
  refine q a ?_ g ?_ b ?_
  · simp; omega
  · simp; omega
  · simp; omega
def chkA (r l p : Int) : Bool := !(tA (dg r) (dg l) (dg p)).contains 10 && decide (figB ((cut 32 (tA (dg r) (dg l) (dg p))).map SX.S) "machine" (-1) = r) && decide (figB ((cut 32 (tA (dg r) (dg l) (dg p))).map SX.S) "length" (-1) = l) && decide (figB ((cut 32 (tA (dg r) (dg l) (dg p))).map SX.S) "price" (-1) = p)
def chkB (a g b : Int) : Bool := !(tB (dg a) g b).contains 10 && decide (figB ((cut 32 (tB (dg a) g b)).map SX.S) "at" (-1) = a) && decide (figB ((cut 32 (tB (dg a) g b)).map SX.S) "after" 5 = g) && decide (figB ((cut 32 (tB (dg a) g b)).map SX.S) "every" 1 = b)
theorem chkA_all : ([1, 2, 3] : List Int).all (fun r => ([1, 2, 3] : List Int).all fun l => ([1, 2, 3, 4, 5, 6, 7, 8, 9] : List Int).all fun p => chkA r l p) = true := by kernel_rfl
theorem chkB_all : ([1, 2, 3] : List Int).all (fun a => ([0, 1, 2, 3, 4, 5] : List Int).all fun g => ([1, 2] : List Int).all fun b => chkB a g b) = true := by kernel_rfl
theorem text_len {r l p a g b : Int} : (textN r l p a g b).length ≤ 900 := by
  obtain ⟨n1, n2, n3, n4, n5, n6, n7, n8⟩ := len_k
  unfold textN tA tB
  simp only [List.length_append, List.length_cons, List.length_nil, n1, n2, n3, n4, n5]
  split <;> split <;> simp [n6, n8]
theorem read_good {r l p a g b : Int} (hm : machN r l p) (hB : ruleB r l (ruleD a g b) = true) : readB (textN r l p a g b) = some (.tup [.tup [.int r, .int l, .int p], ruleD a g b]) := by
  have hr := ruleB_N hm.2.1 hB
  have cA : chkA r l p = true := mach_cases hm fun r hr l hl p hp => List.all_eq_true.mp (List.all_eq_true.mp (List.all_eq_true.mp chkA_all r hr) l hl) p hp
  have cB : chkB a g b = true := rule_cases hr fun a ha g hg b hb => List.all_eq_true.mp (List.all_eq_true.mp (List.all_eq_true.mp chkB_all a ha) g hg) b hb
  unfold chkA at cA
  unfold chkB at cB
  simp only [Bool.and_eq_true, Bool.not_eq_true', decide_eq_true_eq] at cA cB
  obtain ⟨⟨⟨a0, a1⟩, a2⟩, a3⟩ := cA
  obtain ⟨⟨⟨b0, b1⟩, b2⟩, b3⟩ := cB
  have nA : 10 ∉ tA (dg r) (dg l) (dg p) := fun h => by
    rw [List.contains_iff_mem.mpr h] at a0
    cases a0
  have nB : 10 ∉ tB (dg a) g b := fun h => by
    rw [List.contains_iff_mem.mpr h] at b0
    cases b0
  have hc : cut 10 (textN r l p a g b) = [tA (dg r) (dg l) (dg p), tB (dg a) g b] := by
    have e : textN r l p a g b = tA (dg r) (dg l) (dg p) ++ 10 :: tB (dg a) g b := by
      unfold textN
      rw [List.append_assoc]
      rfl
    rw [e, cut_app _ nA, cut_none nB]
  unfold readB
  rw [hc]
  simp only [a1, a2, a3, b1, b2, b3]
  simp [machB_of hm, hB]
theorem text_ok {r l p a g b : Int} (hm : machN r l p) (hr : ruleN a g b) : txOk (textN r l p a g b) := ⟨text_sm hm hr, text_len⟩
end Ev

set_option Elab.async false
set_option linter.all false
set_option maxRecDepth 100000
set_option maxHeartbeats 4000000
set_option exponentiation.threshold 3000
namespace Ev
open PySem PySem.Spec PyProof.Rows L2 SX
theorem if_ne {A B : E} {X : S} {ρ : Env} {μ μ1 μ2 : Mem} {x y : D} (hA : A ρ μ = .ok x μ1) (hB : B ρ μ1 = .ok y μ2) (hne : neD x y μ2 = some (.bl false, μ2)) : sIf (tBl (eBin (cmpD .NotEq) A B)) X sNx ρ μ = .nx ρ μ2 := by
  simp [sIf, tBl, eBin, hA, hB, bind_ok, cmpD, hne, r_some, st_ok, sNx]
theorem law_ok' {f : E} {ρ : Env} {μ μ' : Mem} {d : D} (h : f ρ μ = .ok d μ') : eLaw f ρ μ = .ok (.tup [.str "told", d]) μ' := by
  simp only [eLaw, h]
theorem law_ex' {f : E} {ρ : Env} {μ μ' : Mem} {c : Str} (h : f ρ μ = .ex { c := c } μ') (hc : lawCls.contains c = true) : eLaw f ρ μ = .ok (.tup [.str (c ++ " +")]) μ' := by
  have : lawEx { c := c } = some (.tup [.str (c ++ " +")]) := by
    unfold lawEx
    simp only [Option.isNone_none, hc, Bool.and_self, if_true]
  simp only [eLaw, h, this]
theorem ne_str1 {x y : Str} {μ : Mem} (h : x = y) (hs : PyData.strOk y = true) : neD (.tup [.str x]) (.tup [.str y]) μ = some (.bl false, μ) := by
  subst h
  unfold neD eqM
  simp only [toPyM, toPy, toPys, SeqAt.shaped, PyData.canLay0, PyData.canLayAll0, PyData.depth, PyData.depthAll, hs, PyData.eqv, PyData.eqvAll]
  simp
theorem ne_told {r l p a g b : Int} {μ : Mem} : neD (.tup [.str "told", .tup [.tup [.int r, .int l, .int p], ruleD a g b]]) (.tup [.str "told", .tup [.tup [.int r, .int l, .int p], ruleD a g b]]) μ = some (.bl false, μ) := by
  have hs : PyData.strOk "told" = true := by kernel_rfl
  unfold neD eqM ruleD
  simp only [toPyM, toPy, toPys, SeqAt.shaped, PyData.canLay0, PyData.canLayAll0, PyData.depth, PyData.depthAll, hs, PyData.eqv, PyData.eqvAll]
  simp
/-! ### the rules drawn are rules -/
theorem good_rule {r l a g b : Int} (h1 : 1 ≤ l) (h2 : l ≤ r) (h3 : r ≤ 3) (hb : b = 1 ∨ b = 2) (h : goodB r l a g b = true) : ruleB r l (ruleD a g b) = true := by
  unfold goodB at h
  simp only [Bool.and_eq_true, decide_eq_true_eq] at h
  obtain ⟨⟨a1, a2⟩, ⟨g1, g2⟩, hl⟩ := h
  have hlc : l = 1 ∨ l = 2 ∨ l = 3 := by omega
  unfold ruleB ruleD
  simp only [intB, Bool.and_eq_true, decide_eq_true_eq]
  refine ⟨⟨⟨a1, a2⟩, g1, g2⟩, ⟨by omega, by omega⟩, ?_⟩
  rcases hb with rfl | rfl <;> rcases hlc with rfl | rfl | rfl <;> simp at hl ⊢ <;> omega
theorem ra_mem {r l : Int} {k : Nat} {x : D} (h : x ∈ ra r l k) : ∃ a g b : Int, x = ruleD a g b ∧ (b = 1 ∨ b = 2) ∧ goodB r l a g b = true := by
  unfold ra rg rb at h
  simp only [List.mem_flatMap, List.mem_map, List.mem_filter] at h
  obtain ⟨i, _, g, _, b, ⟨hb, hg⟩, rfl⟩ := h
  refine ⟨_, _, b, rfl, ?_, hg⟩
  simpa using hb
theorem ra_ne {r l : Int} (h1 : 1 ≤ l) (h2 : l ≤ r) : ra r l r.toNat ≠ [] := by
  intro h
  have hm : ruleD 1 0 1 ∈ ra r l r.toNat := by
    unfold ra rg rb
    simp only [List.mem_flatMap, List.mem_map, List.mem_filter]
    refine ⟨0, by simp; omega, 0, by simp, 1, ⟨by simp, ?_⟩, rfl⟩
    unfold goodB
    simp
    omega
  rw [h] at hm
  cases hm
namespace K16
def lawB2 (call : Tab) : S := (sSeq (sSet (.nm 6) (eDef call "_law_text_of" (esCons (eVar 3) (esCons (eVar 5) esNil)))) (sSeq (sIf (tBl (eBin (cmpD .NotEq) (eDef call "rule_text" (esCons (eVar 3) (esCons (eVar 5) esNil))) (eVar 6))) (sSeq (sRet (eK (.bl false))) sNx) sNx) (sSeq (sIf (tBl (eBin (cmpD .NotEq) (eLaw (eDef call "read_rule" (esCons (eVar 6) esNil))) (eApp tupP (esCons (eK (.str "told")) (esCons (eApp tupP (esCons (eVar 3) (esCons (eVar 5) esNil))) esNil))))) (sSeq (sRet (eK (.bl false))) sNx) sNx) (sSeq (sIf (tBl (eBin (cmpD .NotEq) (eLaw (eDef call "rule_text" (esCons (eVar 3) (esCons (eApp listD (esCons (eVar 5) esNil)) esNil)))) (eApp tupP (esCons (eK (.str "InvalidRule +")) esNil)))) (sSeq (sRet (eK (.bl false))) sNx) sNx) (sSeq (sIf (tBl (eBin (cmpD .NotEq) (eLaw (eDef call "rule_text" (esCons (eK .non) (esCons (eK .non) esNil)))) (eApp tupP (esCons (eK (.str "InvalidMachine +")) esNil)))) (sSeq (sRet (eK (.bl false))) sNx) sNx) sNx)))))
def lawI (call : Tab) : Iv := (iSeq (eApp tupP (esCons (eDef call "_law_some" (esCons (eVar 2) (esCons (eVar 4) esNil))) (esCons (eDef call "_law_some" (esCons (eVar 2) (esCons (eVar 4) esNil))) esNil))))
def lawB1 (call : Tab) : S := (sSeq (sSet (.nm 2) (eDef call "_law_bag" (esCons (eVar 0) (esCons (eVar 1) esNil)))) (sSeq (sSet (.nm 3) (eDef call "_law_machine" (esCons (eVar 2) (esCons (eK (.int 3)) esNil)))) (sSeq (sSet (.nm 4) (eDef call "_law_every_rule" (esCons (eVar 3) esNil))) (sSeq (sFor (lawI call) (.nm 5) (lawB2 call)) sNx))))
def lawR (call : Tab) : E := (eBin (cmpD .Eq) (eDef call "rule_text" (esCons (eApp tupP (esCons (eK (.int 3)) (esCons (eK (.int 2)) (esCons (eK (.int 9)) esNil)))) (esCons (eApp tupP (esCons (eK (.int 1)) (esCons (eK (.int 0)) (esCons (eK (.int 2)) esNil)))) esNil))) (eK (.str "machine 3 length 2 price 9\nstart at 1 or after 0 every 2")))
def lawN : Iv := (iRg1 (esCons (eApp maxD (esCons (eK (.int 1)) (esCons (eApp minD (esCons (eK (.int 20)) (esCons (eApp lenD (esCons (eVar 0) esNil)) esNil))) esNil))) esNil))
def m_law (call : Tab) : S := (sSeq (sFor lawN (.nm 1) (lawB1 call)) (sSeq (sRet (lawR call)) sNx))
structure Has (call : Tab) : Prop where
  bag : ∃ f, call "_law_bag" = some f ∧ SpBag f
  mach : ∃ f, call "_law_machine" = some f ∧ SpLMach f
  every : ∃ f, call "_law_every_rule" = some f ∧ SpEvery f
  some' : ∃ f, call "_law_some" = some f ∧ SpSome f
  text : ∃ f, call "_law_text_of" = some f ∧ SpText f
  rt : ∃ f, call "rule_text" = some f ∧ SpRT f
  read : ∃ f, call "read_rule" = some f ∧ SpRead f
section
variable {call : Tab} (H : Has call)
include H
theorem turn2 {sc k bg ev y : Option D} {r l p a g b : Int} {μ : Mem} (hm : machN r l p) (hB : ruleB r l (ruleD a g b) = true) : ∃ μ', lawB2 call [sc, k, bg, some (.tup [.int r, .int l, .int p]), ev, some (ruleD a g b), y] μ = .nx [sc, k, bg, some (.tup [.int r, .int l, .int p]), ev, some (ruleD a g b), some (.str (SX.S (textN r l p a g b)))] μ' := by
  obtain ⟨ft, h1, st⟩ := H.text
  obtain ⟨fr, h2, sr⟩ := H.rt
  obtain ⟨fd, h3, sd⟩ := H.read
  have hr := ruleB_N hm.2.1 hB
  have e1 : sSet (.nm 6) (eDef call "_law_text_of" (esCons (eVar 3) (esCons (eVar 5) esNil))) [sc, k, bg, some (.tup [.int r, .int l, .int p]), ev, some (ruleD a g b), y] μ = .nx [sc, k, bg, some (.tup [.int r, .int l, .int p]), ev, some (ruleD a g b), some (.str (SX.S (textN r l p a g b)))] μ := by
    have : eDef call "_law_text_of" (esCons (eVar 3) (esCons (eVar 5) esNil)) [sc, k, bg, some (.tup [.int r, .int l, .int p]), ev, some (ruleD a g b), y] μ = .ok (.str (SX.S (textN r l p a g b))) μ := by
      rw [eDef_some h1]
      exact st r l p a g b μ hm hr
    unfold sSet
    rw [this]
    rfl
  generalize hρ : ([sc, k, bg, some (.tup [.int r, .int l, .int p]), ev, some (ruleD a g b), some (.str (SX.S (textN r l p a g b)))] : Env) = ρ at e1 ⊢
  have v3 : ∀ M, eVar 3 ρ M = .ok (.tup [.int r, .int l, .int p]) M := fun M => by rw [← hρ]; rfl
  have v5 : ∀ M, eVar 5 ρ M = .ok (ruleD a g b) M := fun M => by rw [← hρ]; rfl
  have v6 : ∀ M, eVar 6 ρ M = .ok (.str (SX.S (textN r l p a g b))) M := fun M => by rw [← hρ]; rfl
  have c1 : eDef call "rule_text" (esCons (eVar 3) (esCons (eVar 5) esNil)) ρ μ = .ok (.str (SX.S (textN r l p a g b))) μ := by
    rw [eDef_some h2]
    simp only [eCall, esCons, esNil, v3, v5, bind_ok, sr.good r l p a g b μ hm hB]
  have n1 : neD (.str (SX.S (textN r l p a g b))) (.str (SX.S (textN r l p a g b))) μ = some (.bl false, μ) := by
    rw [txt_of_beq (text_sm hm hr) (text_sm hm hr)]
    simp
  have i1 := if_ne (X := sSeq (sRet (eK (.bl false))) sNx) c1 (v6 μ) n1
  obtain ⟨μ2, _, d2⟩ := sd (textN r l p a g b) μ (text_ok hm hr)
  rw [read_good hm hB] at d2
  have c2 : eDef call "read_rule" (esCons (eVar 6) esNil) ρ μ = .ok (.tup [.tup [.int r, .int l, .int p], ruleD a g b]) μ2 := by
    rw [eDef_some h3]
    simp only [eCall, esCons, esNil, v6, bind_ok, d2]
  have i2 := if_ne (X := sSeq (sRet (eK (.bl false))) sNx) (B := eApp tupP (esCons (eK (.str "told")) (esCons (eApp tupP (esCons (eVar 3) (esCons (eVar 5) esNil))) esNil))) (y := .tup [.str "told", .tup [.tup [.int r, .int l, .int p], ruleD a g b]]) (μ2 := μ2) (law_ok' c2) (by
    simp only [eApp, esCons, esNil, v3, v5, eK, bind_ok, tupP]
    rfl) ne_told
  have c3 : eDef call "rule_text" (esCons (eVar 3) (esCons (eApp listD (esCons (eVar 5) esNil)) esNil)) ρ μ2 = .ex { c := "InvalidRule" } (μ2 ++ [.lst [.int a, .int g, .int b]]) := by
    have hl : listD [ruleD a g b] μ2 = some (.loc μ2.length, μ2 ++ [.lst [.int a, .int g, .int b]]) := rfl
    have ho : okTT (μ2 ++ [.lst [.int a, .int g, .int b]]) (.loc μ2.length) := ⟨by unfold okT tyOfD; simp only [lst_at_new]; rfl, fun xs e => by cases e⟩
    rw [eDef_some h2]
    simp only [eCall, esCons, esNil, eApp, v3, v5, bind_ok, hl, r_some, sr.rule r l p (.loc μ2.length) _ hm ho rfl]
  have i3 := if_ne (X := sSeq (sRet (eK (.bl false))) sNx) (B := eApp tupP (esCons (eK (.str "InvalidRule +")) esNil)) (y := .tup [.str "InvalidRule +"]) (μ2 := μ2 ++ [.lst [.int a, .int g, .int b]]) (law_ex' c3 (by kernel_rfl)) rfl (ne_str1 (by kernel_rfl) (by kernel_rfl))
  generalize μ2 ++ [MO.lst [.int a, .int g, .int b]] = M3 at i3
  have c4 : eDef call "rule_text" (esCons (eK .non) (esCons (eK .non) esNil)) ρ M3 = .ex { c := "InvalidMachine" } M3 := by
    rw [eDef_some h2]
    simp only [eCall, esCons, esNil, eK, bind_ok, sr.mach .non .non M3 ⟨rfl, fun xs e => by cases e⟩ rfl]
  have i4 := if_ne (X := sSeq (sRet (eK (.bl false))) sNx) (B := eApp tupP (esCons (eK (.str "InvalidMachine +")) esNil)) (y := .tup [.str "InvalidMachine +"]) (μ2 := M3) (law_ex' c4 (by kernel_rfl)) rfl (ne_str1 (by kernel_rfl) (by kernel_rfl))
  refine ⟨M3, ?_⟩
  unfold lawB2
  rw [seq_eq, e1]
  simp only []
  rw [seq_eq, i1]
  simp only []
  rw [seq_eq, i2]
  simp only []
  rw [seq_eq, i3]
  simp only []
  rw [seq_eq, i4]
  rfl
theorem turn1 {sc : List Int} {k : Nat} {x2 x3 x4 x5 x6 : Option D} {μ : Mem} (hk : k < 1000) (hsc : sc.length ≤ 1000) : ∃ y2 y3 y4 y5 y6 μ', lawB1 call [some (.fl (sc.map .int)), some (.int k), x2, x3, x4, x5, x6] μ = .nx [some (.fl (sc.map .int)), some (.int k), y2, y3, y4, y5, y6] μ' := by
  obtain ⟨fb, hb, sb⟩ := H.bag
  obtain ⟨fm, hm, sm⟩ := H.mach
  obtain ⟨fe, he, se⟩ := H.every
  obtain ⟨fs, hs, ss⟩ := H.some'
  obtain ⟨n, μ1, e1, b1, _, _⟩ := sb sc k μ hk hsc
  obtain ⟨r, l, p, μ2, e2, d2, r1, r2, l1, l2, p1, p2⟩ := sm n 3 μ1 b1 (by omega) (by omega)
  have b2 := d2.bag b1
  have e3 := se r l (.int p) μ2 (by omega) (by omega)
  have hN : machN r l p := ⟨r1, r2, l1, l2, p1, p2⟩
  have b3 : Bag (μ2 ++ [.lst (ra r l r.toNat)]) n := (Keep.app μ2 _).bag b2
  have q3 : seqD (μ2 ++ [.lst (ra r l r.toNat)]) (.loc μ2.length) = some (ra r l r.toNat) := lst_at_new
  have ne3 : D.loc μ2.length ≠ .loc n := fun e => by
    obtain ⟨_, _, hx, _⟩ := b2
    have := lst_lt hx
    cases e
    omega
  have hlen : (ra r l r.toNat).length ≤ 8192 := by
    have := ra_len (r := r) (l := l) r.toNat
    omega
  obtain ⟨x, μ4, e4, d4, m4⟩ := ss n (.loc μ2.length) _ _ b3 q3 ne3 (ra_ne l1 l2) hlen
  obtain ⟨x', μ5, e5, d5, m5⟩ := ss n (.loc μ2.length) _ μ4 (d4.bag b3) ((seq_drawn d4 ne3).trans q3) ne3 (ra_ne l1 l2) hlen
  obtain ⟨a, g, b, rfl, hbb, hg⟩ := ra_mem m4
  obtain ⟨a', g', b', rfl, hbb', hg'⟩ := ra_mem m5
  have hB := good_rule l1 l2 r2 hbb hg
  have hB' := good_rule l1 l2 r2 hbb' hg'
  have s1 : sSet (.nm 2) (eDef call "_law_bag" (esCons (eVar 0) (esCons (eVar 1) esNil))) [some (.fl (sc.map .int)), some (.int k), x2, x3, x4, x5, x6] μ = .nx [some (.fl (sc.map .int)), some (.int k), some (.loc n), x3, x4, x5, x6] μ1 := by
    have : eDef call "_law_bag" (esCons (eVar 0) (esCons (eVar 1) esNil)) [some (.fl (sc.map .int)), some (.int k), x2, x3, x4, x5, x6] μ = .ok (.loc n) μ1 := by
      rw [eDef_some hb]
      exact e1
    unfold sSet
    rw [this]
    rfl
  have s2 : sSet (.nm 3) (eDef call "_law_machine" (esCons (eVar 2) (esCons (eK (.int 3)) esNil))) [some (.fl (sc.map .int)), some (.int k), some (.loc n), x3, x4, x5, x6] μ1 = .nx [some (.fl (sc.map .int)), some (.int k), some (.loc n), some (.tup [.int r, .int l, .int p]), x4, x5, x6] μ2 := by
    have : eDef call "_law_machine" (esCons (eVar 2) (esCons (eK (.int 3)) esNil)) [some (.fl (sc.map .int)), some (.int k), some (.loc n), x3, x4, x5, x6] μ1 = .ok (.tup [.int r, .int l, .int p]) μ2 := by
      rw [eDef_some hm]
      exact e2
    unfold sSet
    rw [this]
    rfl
  have s3 : sSet (.nm 4) (eDef call "_law_every_rule" (esCons (eVar 3) esNil)) [some (.fl (sc.map .int)), some (.int k), some (.loc n), some (.tup [.int r, .int l, .int p]), x4, x5, x6] μ2 = .nx [some (.fl (sc.map .int)), some (.int k), some (.loc n), some (.tup [.int r, .int l, .int p]), some (.loc μ2.length), x5, x6] (μ2 ++ [.lst (ra r l r.toNat)]) := by
    have : eDef call "_law_every_rule" (esCons (eVar 3) esNil) [some (.fl (sc.map .int)), some (.int k), some (.loc n), some (.tup [.int r, .int l, .int p]), x4, x5, x6] μ2 = .ok (.loc μ2.length) (μ2 ++ [.lst (ra r l r.toNat)]) := by
      rw [eDef_some he]
      exact e3
    unfold sSet
    rw [this]
    rfl
  have hi : lawI call [some (.fl (sc.map .int)), some (.int k), some (.loc n), some (.tup [.int r, .int l, .int p]), some (.loc μ2.length), x5, x6] (μ2 ++ [.lst (ra r l r.toNat)]) = .ok (.fix [ruleD a g b, ruleD a' g' b']) μ5 := by
    have c1 : eDef call "_law_some" (esCons (eVar 2) (esCons (eVar 4) esNil)) [some (.fl (sc.map .int)), some (.int k), some (.loc n), some (.tup [.int r, .int l, .int p]), some (.loc μ2.length), x5, x6] (μ2 ++ [.lst (ra r l r.toNat)]) = .ok (ruleD a g b) μ4 := by
      rw [eDef_some hs]
      exact e4
    have c2 : eDef call "_law_some" (esCons (eVar 2) (esCons (eVar 4) esNil)) [some (.fl (sc.map .int)), some (.int k), some (.loc n), some (.tup [.int r, .int l, .int p]), some (.loc μ2.length), x5, x6] μ4 = .ok (ruleD a' g' b') μ5 := by
      rw [eDef_some hs]
      exact e5
    unfold lawI iSeq
    simp only [eApp, esCons, esNil, c1, c2, bind_ok, tupP]
    rfl
  obtain ⟨M1, t1⟩ := turn2 H (sc := some (.fl (sc.map .int))) (k := some (.int k)) (bg := some (.loc n)) (ev := some (.loc μ2.length)) (y := x6) (p := p) (μ := μ5) hN hB
  obtain ⟨M2, t2⟩ := turn2 H (sc := some (.fl (sc.map .int))) (k := some (.int k)) (bg := some (.loc n)) (ev := some (.loc μ2.length)) (y := some (.str (SX.S (textN r l p a g b)))) (p := p) (μ := M1) hN hB'
  have hfor : sFor (lawI call) (.nm 5) (lawB2 call) [some (.fl (sc.map .int)), some (.int k), some (.loc n), some (.tup [.int r, .int l, .int p]), some (.loc μ2.length), x5, x6] (μ2 ++ [.lst (ra r l r.toNat)]) = .nx [some (.fl (sc.map .int)), some (.int k), some (.loc n), some (.tup [.int r, .int l, .int p]), some (.loc μ2.length), some (ruleD a' g' b'), some (.str (SX.S (textN r l p a' g' b')))] M2 := by
    unfold sFor
    rw [hi]
    simp only [st_ok, Src.bnd, List.length_cons, List.length_nil]
    rw [foGo]
    simp only [Src.nxt, List.getElem?_cons_zero, Tg.set, List.length_cons, List.length_nil, List.set_cons_succ, List.set_cons_zero, show (5 < 7) = True from by simp, if_true, t1]
    rw [foGo]
    simp only [Src.nxt, List.getElem?_cons_zero, List.getElem?_cons_succ, Tg.set, List.length_cons, List.length_nil, List.set_cons_succ, List.set_cons_zero, show (5 < 7) = True from by simp, if_true, t2]
    rw [foGo]
    simp only [Src.nxt, List.getElem?_cons_zero, List.getElem?_cons_succ, List.getElem?_nil]
  refine ⟨some (.loc n), some (.tup [.int r, .int l, .int p]), some (.loc μ2.length), some (ruleD a' g' b'), some (.str (SX.S (textN r l p a' g' b'))), M2, ?_⟩
  unfold lawB1
  rw [seq_eq, s1]
  simp only []
  rw [seq_eq, s2]
  simp only []
  rw [seq_eq, s3]
  simp only []
  rw [seq_eq, hfor]
  rfl
theorem law_true {ns : List Int} {μ : Mem} (hl : ns.length ≤ 63) : ∃ μ', mkFn 1 6 m_law call [.fl (ns.map .int)] μ = .ok (.bl true) μ' := by
  obtain ⟨fr, h2, sr⟩ := H.rt
  obtain ⟨N, hN, hNi⟩ : ∃ N : Nat, N ≤ 20 ∧ lawN [some (.fl (ns.map .int)), none, none, none, none, none, none] μ = .ok (.rng 0 N) μ := by
    have hlen : lenD [.fl (ns.map .int)] μ = some (.int ((ns.map D.int).length : Nat), μ) := rfl
    rw [List.length_map] at hlen
    let m : Int := if ((ns.length : Nat) : Int) < 20 then ns.length else 20
    have hm : m ≤ 20 := by show (if _ then _ else _) ≤ _; split <;> omega
    refine ⟨(if m > 1 then m else 1).toNat, by split <;> omega, ?_⟩
    unfold lawN iRg1
    simp only [List.length_cons, List.length_nil, if_true, List.map_cons, List.map_nil, List.replicate_zero, List.replicate_succ, List.append_nil, List.cons_append, List.nil_append, seq_eq, sRet, sNx, sIf, sExpr, sSet, sRaise, eAn, eOr, eNo, eUn, eBin, eApp, esCons, esNil, eIf, eChain, eVar, eK, tNo, tTru, tBl, tAn, tOr', List.getElem?_cons_zero, List.getElem?_cons_succ, bind_ok, bind_ex, st_ok, st_ex, r_some, cmpD, binD, runS, hlen, minD, maxD]
    rw [if_pos (by constructor <;> split <;> (try split) <;> omega)]
  obtain ⟨ρ', μ', h5, ⟨x1, x2, x3, x4, x5, x6, h6⟩⟩ := fo_inv (src := .rng 0 N) (tg := .nm 1) (b := lawB1 call) (N := N) (fun i ρ μ' => ∃ x1 x2 x3 x4 x5 x6, ρ = [some (.fl (ns.map .int)), x1, x2, x3, x4, x5, x6])
    (fun i ρ μ' hi ⟨x1, x2, x3, x4, x5, x6, e1⟩ => by
      subst e1
      obtain ⟨y2, y3, y4, y5, y6, M, hb⟩ := turn1 H (sc := ns) (k := i) (x2 := x2) (x3 := x3) (x4 := x4) (x5 := x5) (x6 := x6) (μ := μ') (by omega) (by omega)
      refine ⟨.int i, _, _, _, ?_, rfl, hb, _, _, _, _, _, _, rfl⟩
      simp [Src.nxt, hi])
    (fun ρ μ' _ => by simp [Src.nxt]) N 0 [some (.fl (ns.map .int)), none, none, none, none, none, none] μ (by omega) ⟨none, none, none, none, none, none, rfl⟩
  subst h6
  have hfor : sFor lawN (.nm 1) (lawB1 call) [some (.fl (ns.map .int)), none, none, none, none, none, none] μ = .nx [some (.fl (ns.map .int)), x1, x2, x3, x4, x5, x6] μ' := by
    unfold sFor
    rw [hNi]
    exact h5
  have hR : lawR call [some (.fl (ns.map .int)), x1, x2, x3, x4, x5, x6] μ' = .ok (.bl true) μ' := by
    have c1 := sr.good 3 2 9 1 0 2 μ' ⟨by omega, by omega, by omega, by omega, by omega, by omega⟩ (by decide)
    have et : (SX.S (textN 3 2 9 1 0 2)) = "machine 3 length 2 price 9\nstart at 1 or after 0 every 2" := by kernel_rfl
    have c2 : eDef call "rule_text" (esCons (eApp tupP (esCons (eK (.int 3)) (esCons (eK (.int 2)) (esCons (eK (.int 9)) esNil)))) (esCons (eApp tupP (esCons (eK (.int 1)) (esCons (eK (.int 0)) (esCons (eK (.int 2)) esNil)))) esNil)) [some (.fl (ns.map .int)), x1, x2, x3, x4, x5, x6] μ' = .ok (.str "machine 3 length 2 price 9\nstart at 1 or after 0 every 2") μ' := by
      rw [eDef_some h2, ← et]
      exact c1
    have hq : eqD (.str "machine 3 length 2 price 9\nstart at 1 or after 0 every 2") (.str "machine 3 length 2 price 9\nstart at 1 or after 0 every 2") μ' = some (.bl true, μ') := by
      have : eqM μ' (.str "machine 3 length 2 price 9\nstart at 1 or after 0 every 2") (.str "machine 3 length 2 price 9\nstart at 1 or after 0 every 2") = some true := by kernel_rfl
      unfold eqD
      rw [this]
      rfl
    unfold lawR
    simp only [eBin, c2, bind_ok, eK, cmpD, hq, r_some]
  refine ⟨μ', ?_⟩
  have h0 : mkFn 1 6 m_law call [.fl (ns.map .int)] μ = runS (m_law call [some (.fl (ns.map .int)), none, none, none, none, none, none] μ) := rfl
  rw [h0]
  unfold m_law
  rw [seq_eq, hfor]
  simp only []
  rw [seq_eq]
  unfold sRet
  rw [hR]
  rfl
end
end K16
end Ev

set_option Elab.async false
set_option linter.all false
set_option maxRecDepth 100000
set_option maxHeartbeats 4000000
namespace Ev
open PySem PySem.Spec PyProof.Rows L2 C8
namespace K16
abbrev prg : Program := PySem.Challenge.pw_startorwait_k16_texts
def dS (x : Str) : Stmt := defSt prg x
def d_is_int : DI := ⟨"is_int", dS "is_int", ["value", "low", "high"], ["value", "low", "high"], none⟩
def d_is_triple : DI := ⟨"is_triple", dS "is_triple", ["value"], ["value"], none⟩
def d_is_machine : DI := ⟨"is_machine", dS "is_machine", ["value"], ["value"], none⟩
def d_is_rule_of : DI := ⟨"is_rule_of", dS "is_rule_of", ["machine", "value"], ["machine", "value"], none⟩
def d_need_machine : DI := ⟨"need_machine", dS "need_machine", ["machine"], ["machine"], none⟩
def d_need_rule : DI := ⟨"need_rule", dS "need_rule", ["machine", "rule"], ["machine", "rule"], none⟩
def d_text_of : DI := ⟨"text_of", dS "text_of", ["machine", "rule"], ["machine", "rule", "line", "room", "length", "price", "least", "age", "beat"], none⟩
def d_figure : DI := ⟨"figure", dS "figure", ["words", "word", "usual"], ["words", "word", "usual", "later"], none⟩
def d_rule_text : DI := ⟨"rule_text", dS "rule_text", ["machine", "rule"], ["machine", "rule"], none⟩
def d_read_rule : DI := ⟨"read_rule", dS "read_rule", ["text"], ["text", "machine", "rule", "first", "second", "line", "word"], none⟩
def d__law_bag : DI := ⟨"_law_bag", dS "_law_bag", ["script", "k"], ["script", "k", "cell", "number"], none⟩
def d__law_out : DI := ⟨"_law_out", dS "_law_out", ["bag", "many"], ["bag", "many", "found", "wide"], none⟩
def d__law_some : DI := ⟨"_law_some", dS "_law_some", ["bag", "things"], ["bag", "things"], none⟩
def d__law_machine : DI := ⟨"_law_machine", dS "_law_machine", ["bag", "most"], ["bag", "most", "room"], none⟩
def d__law_good_rule : DI := ⟨"_law_good_rule", dS "_law_good_rule", ["machine", "least", "age", "beat"], ["machine", "least", "age", "beat", "lasts"], none⟩
def d__law_every_rule : DI := ⟨"_law_every_rule", dS "_law_every_rule", ["machine"], ["machine", "found", "least", "age", "beat"], none⟩
def d__law_text_of : DI := ⟨"_law_text_of", dS "_law_text_of", ["machine", "rule"], ["machine", "rule", "first", "second", "room", "length", "price"], none⟩
def d_law : DI := ⟨"law", dS "law", ["script"], ["script", "k", "bag", "machine", "every", "rule", "text"], some "_law_call"⟩
def ds : List DI := [d_is_int, d_is_triple, d_is_machine, d_is_rule_of, d_need_machine, d_need_rule, d_text_of, d_figure, d_rule_text, d_read_rule, d__law_bag, d__law_out, d__law_some, d__law_machine, d__law_good_rule, d__law_every_rule, d__law_text_of, d_law]
def P : Pg := { ds := ds, gv := [("NEVER", .int 5), ("FIGURES", .str "0123456789")], bn := ["isinstance", "len", "int", "bool", "tuple", "str", "list", "abs", "range", "max", "min", "zip"], exc := ["InvalidMachine", "InvalidRule", "NoText"], fuel := 100, dep := 40 }
theorem shape : LawSh (dS "_law_call") "call_so" "found" "e" "_law_kinds" "TooMany" "StartError" "told" := ⟨_, _, _, _, _, _, _, _, _, _, _, _, _, _, _, _, _, _, _, _, _, _, _, _, _, _, _, _, rfl⟩
theorem g_is_int (n : Nat) : P.call (n + 1) "is_int" = some (mkFn 3 0 m_is_int (P.call n)) := by kernel_rfl
theorem g_is_triple (n : Nat) : P.call (n + 1) "is_triple" = some (mkFn 1 0 m_is_triple (P.call n)) := by kernel_rfl
theorem g_is_machine (n : Nat) : P.call (n + 1) "is_machine" = some (mkFn 1 0 m_is_machine (P.call n)) := by kernel_rfl
theorem g_is_rule_of (n : Nat) : P.call (n + 1) "is_rule_of" = some (mkFn 2 0 m_is_rule_of (P.call n)) := by kernel_rfl
theorem g_need_machine (n : Nat) : P.call (n + 1) "need_machine" = some (mkFn 1 0 m_need_machine (P.call n)) := by kernel_rfl
theorem g_need_rule (n : Nat) : P.call (n + 1) "need_rule" = some (mkFn 2 0 m_need_rule (P.call n)) := by kernel_rfl
theorem g_text_of (n : Nat) : P.call (n + 1) "text_of" = some (mkFn 2 7 m_text_of (P.call n)) := by kernel_rfl
theorem g_figure (n : Nat) : P.call (n + 1) "figure" = some (mkFn 3 1 m_figure (P.call n)) := by kernel_rfl
theorem g_rule_text (n : Nat) : P.call (n + 1) "rule_text" = some (mkFn 2 0 m_rule_text (P.call n)) := by kernel_rfl
theorem g_read_rule (n : Nat) : P.call (n + 1) "read_rule" = some (mkFn 1 6 m_read_rule (P.call n)) := by kernel_rfl
theorem g__law_bag (n : Nat) : P.call (n + 1) "_law_bag" = some (mkFn 2 2 m__law_bag (P.call n)) := by kernel_rfl
theorem g__law_out (n : Nat) : P.call (n + 1) "_law_out" = some (mkFn 2 2 m__law_out (P.call n)) := by kernel_rfl
theorem g__law_some (n : Nat) : P.call (n + 1) "_law_some" = some (mkFn 2 0 m__law_some (P.call n)) := by kernel_rfl
theorem g__law_machine (n : Nat) : P.call (n + 1) "_law_machine" = some (mkFn 2 1 m__law_machine (P.call n)) := by kernel_rfl
theorem g__law_good_rule (n : Nat) : P.call (n + 1) "_law_good_rule" = some (mkFn 4 1 m__law_good_rule (P.call n)) := by kernel_rfl
theorem g__law_every_rule (n : Nat) : P.call (n + 1) "_law_every_rule" = some (mkFn 1 4 m__law_every_rule (P.call n)) := by kernel_rfl
theorem g__law_text_of (n : Nat) : P.call (n + 1) "_law_text_of" = some (mkFn 2 5 m__law_text_of (P.call n)) := by kernel_rfl
theorem g_law (n : Nat) : P.call (n + 1) "law" = some (mkFn 1 6 m_law (P.call n)) := by kernel_rfl
theorem k_mach (n : Nat) : SpMach (mkFn 1 0 m_is_machine (P.call (n + 1))) := sp_is_machine (g_is_triple n) (g_is_int n) (sp_is_triple _) (sp_is_int _)
theorem k_rule (n : Nat) : SpRule (mkFn 2 0 m_is_rule_of (P.call (n + 1))) := sp_is_rule_of (g_is_triple n) (g_is_int n) (sp_is_triple _) (sp_is_int _)
theorem k_needM (n : Nat) : SpNeedM (mkFn 1 0 m_need_machine (P.call (n + 2))) := sp_need_machine (g_is_machine (n + 1)) (k_mach n)
theorem k_needR (n : Nat) : SpNeedR (mkFn 2 0 m_need_rule (P.call (n + 2))) := sp_need_rule (g_is_rule_of (n + 1)) (k_rule n)
theorem k_rt (n : Nat) : SpRT (mkFn 2 0 m_rule_text (P.call (n + 3))) := sp_rule_text (g_need_machine (n + 2)) (g_need_rule (n + 2)) (g_text_of (n + 2)) (k_needM n) (k_needR n) (sp_text_of _)
theorem k_read (n : Nat) : SpRead (mkFn 1 6 m_read_rule (P.call (n + 2))) := sp_read (g_figure (n + 1)) (g_is_machine (n + 1)) (g_is_rule_of (n + 1)) (g_text_of (n + 1)) (sp_figure _) (k_mach n) (k_rule n) (sp_text_of _)
theorem has : Has (P.call 8) where
  bag := ⟨_, g__law_bag 7, sp_bag _⟩
  mach := ⟨_, g__law_machine 7, sp_lmach (g__law_out 6) (sp_out _)⟩
  every := ⟨_, g__law_every_rule 7, sp_every (g__law_good_rule 6) (sp_good _)⟩
  some' := ⟨_, g__law_some 7, sp_some (g__law_out 6) (sp_out _)⟩
  text := ⟨_, g__law_text_of 7, sp_law_text _⟩
  rt := ⟨_, g_rule_text 7, k_rt 4⟩
  read := ⟨_, g_read_rule 7, k_read 5⟩
theorem law_fn : P.fn (P.call 8) d_law = mkFn 1 6 m_law (P.call 8) := by kernel_rfl
theorem math (ns : List Int) (hl : ns.length ≤ 63) (hb : ∀ z ∈ ns, Builtin.Int.intBits z ≤ 1048576) : ∃ μ', P.fn (P.call 8) d_law [.fl (ns.map .int)] [] = .ok (.bl true) μ' := by
  rw [law_fn]
  exact law_true has hl
end K16
end Ev

open PySem PySem.W PyProof.Rows
set_option Elab.async false
set_option maxRecDepth 100000 in
set_option maxHeartbeats 0 in
theorem PySem.Challenge.cw_startorwait_k16_texts_holds : PySem.Challenge.rw_startorwait_k16_texts.Holds := by
  w_on; o_law; k_head; (case hw => w_witness2)
  k_fill
  refine LamX.walk_ofTs (l := PySem.Challenge.rw_startorwait_k16_texts) (n := 63) (k := 50) (x := "script") (CX := fun w => L2N.CX PySem.Challenge.rw_startorwait_k16_texts.prog w) rfl (by decide) rfl ⟨rfl, by decide, by decide⟩ (fun w h Y => PySem.W.km_in_of Y) ?F ?C
  case C =>
    intro w H s e s' hh
    obtain ⟨_, _, _, _, _, _, _, _, _, _, _, _, z⟩ := hh
    exact z.elim
  case F =>
    intro w mg fa h Y KX G hmg
    have x_is_int : Ev.DefX (PySem.Challenge.cw_startorwait_k16_texts_holds.heap_39 w.params) mg "is_int" (Ev.K16.dS "is_int") ["value", "low", "high"] ["value", "low", "high"] := by
      refine' Ev.defX_mk KX G ?aiszint ?liszint ?ciszint ?kiszint ?Siszint ?biszint
      (case aiszint => k_is); (case liszint => k_is); (case ciszint => k_is); (case kiszint => k_is); (case Siszint => kernel_rfl)
      case biszint =>
        intro us hl
        match us, hl with
        | [_, _, _], _ => rfl
    have x_is_triple : Ev.DefX (PySem.Challenge.cw_startorwait_k16_texts_holds.heap_39 w.params) mg "is_triple" (Ev.K16.dS "is_triple") ["value"] ["value"] := by
      refine' Ev.defX_mk KX G ?aisztriple ?lisztriple ?cisztriple ?kisztriple ?Sisztriple ?bisztriple
      (case aisztriple => k_is); (case lisztriple => k_is); (case cisztriple => k_is); (case kisztriple => k_is); (case Sisztriple => kernel_rfl)
      case bisztriple =>
        intro us hl
        match us, hl with
        | [_], _ => rfl
    have x_is_machine : Ev.DefX (PySem.Challenge.cw_startorwait_k16_texts_holds.heap_39 w.params) mg "is_machine" (Ev.K16.dS "is_machine") ["value"] ["value"] := by
      refine' Ev.defX_mk KX G ?aiszmachine ?liszmachine ?ciszmachine ?kiszmachine ?Siszmachine ?biszmachine
      (case aiszmachine => k_is); (case liszmachine => k_is); (case ciszmachine => k_is); (case kiszmachine => k_is); (case Siszmachine => kernel_rfl)
      case biszmachine =>
        intro us hl
        match us, hl with
        | [_], _ => rfl
    have x_is_rule_of : Ev.DefX (PySem.Challenge.cw_startorwait_k16_texts_holds.heap_39 w.params) mg "is_rule_of" (Ev.K16.dS "is_rule_of") ["machine", "value"] ["machine", "value"] := by
      refine' Ev.defX_mk KX G ?aiszrulezof ?liszrulezof ?ciszrulezof ?kiszrulezof ?Siszrulezof ?biszrulezof
      (case aiszrulezof => k_is); (case liszrulezof => k_is); (case ciszrulezof => k_is); (case kiszrulezof => k_is); (case Siszrulezof => kernel_rfl)
      case biszrulezof =>
        intro us hl
        match us, hl with
        | [_, _], _ => rfl
    have x_need_machine : Ev.DefX (PySem.Challenge.cw_startorwait_k16_texts_holds.heap_39 w.params) mg "need_machine" (Ev.K16.dS "need_machine") ["machine"] ["machine"] := by
      refine' Ev.defX_mk KX G ?aneedzmachine ?lneedzmachine ?cneedzmachine ?kneedzmachine ?Sneedzmachine ?bneedzmachine
      (case aneedzmachine => k_is); (case lneedzmachine => k_is); (case cneedzmachine => k_is); (case kneedzmachine => k_is); (case Sneedzmachine => kernel_rfl)
      case bneedzmachine =>
        intro us hl
        match us, hl with
        | [_], _ => rfl
    have x_need_rule : Ev.DefX (PySem.Challenge.cw_startorwait_k16_texts_holds.heap_39 w.params) mg "need_rule" (Ev.K16.dS "need_rule") ["machine", "rule"] ["machine", "rule"] := by
      refine' Ev.defX_mk KX G ?aneedzrule ?lneedzrule ?cneedzrule ?kneedzrule ?Sneedzrule ?bneedzrule
      (case aneedzrule => k_is); (case lneedzrule => k_is); (case cneedzrule => k_is); (case kneedzrule => k_is); (case Sneedzrule => kernel_rfl)
      case bneedzrule =>
        intro us hl
        match us, hl with
        | [_, _], _ => rfl
    have x_text_of : Ev.DefX (PySem.Challenge.cw_startorwait_k16_texts_holds.heap_39 w.params) mg "text_of" (Ev.K16.dS "text_of") ["machine", "rule", "line", "room", "length", "price", "least", "age", "beat"] ["machine", "rule"] := by
      refine' Ev.defX_mk KX G ?atextzof ?ltextzof ?ctextzof ?ktextzof ?Stextzof ?btextzof
      (case atextzof => k_is); (case ltextzof => k_is); (case ctextzof => k_is); (case ktextzof => k_is); (case Stextzof => kernel_rfl)
      case btextzof =>
        intro us hl
        match us, hl with
        | [_, _], _ => rfl
    have x_figure : Ev.DefX (PySem.Challenge.cw_startorwait_k16_texts_holds.heap_39 w.params) mg "figure" (Ev.K16.dS "figure") ["words", "word", "usual", "later"] ["words", "word", "usual"] := by
      refine' Ev.defX_mk KX G ?afigure ?lfigure ?cfigure ?kfigure ?Sfigure ?bfigure
      (case afigure => k_is); (case lfigure => k_is); (case cfigure => k_is); (case kfigure => k_is); (case Sfigure => kernel_rfl)
      case bfigure =>
        intro us hl
        match us, hl with
        | [_, _, _], _ => rfl
    have x_rule_text : Ev.DefX (PySem.Challenge.cw_startorwait_k16_texts_holds.heap_39 w.params) mg "rule_text" (Ev.K16.dS "rule_text") ["machine", "rule"] ["machine", "rule"] := by
      refine' Ev.defX_mk KX G ?aruleztext ?lruleztext ?cruleztext ?kruleztext ?Sruleztext ?bruleztext
      (case aruleztext => k_is); (case lruleztext => k_is); (case cruleztext => k_is); (case kruleztext => k_is); (case Sruleztext => kernel_rfl)
      case bruleztext =>
        intro us hl
        match us, hl with
        | [_, _], _ => rfl
    have x_read_rule : Ev.DefX (PySem.Challenge.cw_startorwait_k16_texts_holds.heap_39 w.params) mg "read_rule" (Ev.K16.dS "read_rule") ["text", "machine", "rule", "first", "second", "line", "word"] ["text"] := by
      refine' Ev.defX_mk KX G ?areadzrule ?lreadzrule ?creadzrule ?kreadzrule ?Sreadzrule ?breadzrule
      (case areadzrule => k_is); (case lreadzrule => k_is); (case creadzrule => k_is); (case kreadzrule => k_is); (case Sreadzrule => kernel_rfl)
      case breadzrule =>
        intro us hl
        match us, hl with
        | [_], _ => rfl
    have x__law_bag : Ev.DefX (PySem.Challenge.cw_startorwait_k16_texts_holds.heap_39 w.params) mg "_law_bag" (Ev.K16.dS "_law_bag") ["script", "k", "cell", "number"] ["script", "k"] := by
      refine' Ev.defX_mk KX G ?azlawzbag ?lzlawzbag ?czlawzbag ?kzlawzbag ?Szlawzbag ?bzlawzbag
      (case azlawzbag => k_is); (case lzlawzbag => k_is); (case czlawzbag => k_is); (case kzlawzbag => k_is); (case Szlawzbag => kernel_rfl)
      case bzlawzbag =>
        intro us hl
        match us, hl with
        | [_, _], _ => rfl
    have x__law_out : Ev.DefX (PySem.Challenge.cw_startorwait_k16_texts_holds.heap_39 w.params) mg "_law_out" (Ev.K16.dS "_law_out") ["bag", "many", "found", "wide"] ["bag", "many"] := by
      refine' Ev.defX_mk KX G ?azlawzout ?lzlawzout ?czlawzout ?kzlawzout ?Szlawzout ?bzlawzout
      (case azlawzout => k_is); (case lzlawzout => k_is); (case czlawzout => k_is); (case kzlawzout => k_is); (case Szlawzout => kernel_rfl)
      case bzlawzout =>
        intro us hl
        match us, hl with
        | [_, _], _ => rfl
    have x__law_some : Ev.DefX (PySem.Challenge.cw_startorwait_k16_texts_holds.heap_39 w.params) mg "_law_some" (Ev.K16.dS "_law_some") ["bag", "things"] ["bag", "things"] := by
      refine' Ev.defX_mk KX G ?azlawzsome ?lzlawzsome ?czlawzsome ?kzlawzsome ?Szlawzsome ?bzlawzsome
      (case azlawzsome => k_is); (case lzlawzsome => k_is); (case czlawzsome => k_is); (case kzlawzsome => k_is); (case Szlawzsome => kernel_rfl)
      case bzlawzsome =>
        intro us hl
        match us, hl with
        | [_, _], _ => rfl
    have x__law_machine : Ev.DefX (PySem.Challenge.cw_startorwait_k16_texts_holds.heap_39 w.params) mg "_law_machine" (Ev.K16.dS "_law_machine") ["bag", "most", "room"] ["bag", "most"] := by
      refine' Ev.defX_mk KX G ?azlawzmachine ?lzlawzmachine ?czlawzmachine ?kzlawzmachine ?Szlawzmachine ?bzlawzmachine
      (case azlawzmachine => k_is); (case lzlawzmachine => k_is); (case czlawzmachine => k_is); (case kzlawzmachine => k_is); (case Szlawzmachine => kernel_rfl)
      case bzlawzmachine =>
        intro us hl
        match us, hl with
        | [_, _], _ => rfl
    have x__law_good_rule : Ev.DefX (PySem.Challenge.cw_startorwait_k16_texts_holds.heap_39 w.params) mg "_law_good_rule" (Ev.K16.dS "_law_good_rule") ["machine", "least", "age", "beat", "lasts"] ["machine", "least", "age", "beat"] := by
      refine' Ev.defX_mk KX G ?azlawzgoodzrule ?lzlawzgoodzrule ?czlawzgoodzrule ?kzlawzgoodzrule ?Szlawzgoodzrule ?bzlawzgoodzrule
      (case azlawzgoodzrule => k_is); (case lzlawzgoodzrule => k_is); (case czlawzgoodzrule => k_is); (case kzlawzgoodzrule => k_is); (case Szlawzgoodzrule => kernel_rfl)
      case bzlawzgoodzrule =>
        intro us hl
        match us, hl with
        | [_, _, _, _], _ => rfl
    have x__law_every_rule : Ev.DefX (PySem.Challenge.cw_startorwait_k16_texts_holds.heap_39 w.params) mg "_law_every_rule" (Ev.K16.dS "_law_every_rule") ["machine", "found", "least", "age", "beat"] ["machine"] := by
      refine' Ev.defX_mk KX G ?azlawzeveryzrule ?lzlawzeveryzrule ?czlawzeveryzrule ?kzlawzeveryzrule ?Szlawzeveryzrule ?bzlawzeveryzrule
      (case azlawzeveryzrule => k_is); (case lzlawzeveryzrule => k_is); (case czlawzeveryzrule => k_is); (case kzlawzeveryzrule => k_is); (case Szlawzeveryzrule => kernel_rfl)
      case bzlawzeveryzrule =>
        intro us hl
        match us, hl with
        | [_], _ => rfl
    have x__law_kinds : Ev.DefX (PySem.Challenge.cw_startorwait_k16_texts_holds.heap_39 w.params) mg "_law_kinds" (Ev.K16.dS "_law_kinds") ["e", "some", "words", "word", "good"] ["e"] := by
      refine' Ev.defX_mk KX G ?azlawzkinds ?lzlawzkinds ?czlawzkinds ?kzlawzkinds ?Szlawzkinds ?bzlawzkinds
      (case azlawzkinds => k_is); (case lzlawzkinds => k_is); (case czlawzkinds => k_is); (case kzlawzkinds => k_is); (case Szlawzkinds => kernel_rfl)
      case bzlawzkinds =>
        intro us hl
        match us, hl with
        | [_], _ => rfl
    have x__law_call : Ev.DefX (PySem.Challenge.cw_startorwait_k16_texts_holds.heap_39 w.params) mg "_law_call" (Ev.K16.dS "_law_call") ["call_so", "found", "e"] ["call_so"] := by
      refine' Ev.defX_mk KX G ?azlawzcall ?lzlawzcall ?czlawzcall ?kzlawzcall ?Szlawzcall ?bzlawzcall
      (case azlawzcall => k_is); (case lzlawzcall => k_is); (case czlawzcall => k_is); (case kzlawzcall => k_is); (case Szlawzcall => kernel_rfl)
      case bzlawzcall =>
        intro us hl
        match us, hl with
        | [_], _ => rfl
    have x__law_text_of : Ev.DefX (PySem.Challenge.cw_startorwait_k16_texts_holds.heap_39 w.params) mg "_law_text_of" (Ev.K16.dS "_law_text_of") ["machine", "rule", "first", "second", "room", "length", "price"] ["machine", "rule"] := by
      refine' Ev.defX_mk KX G ?azlawztextzof ?lzlawztextzof ?czlawztextzof ?kzlawztextzof ?Szlawztextzof ?bzlawztextzof
      (case azlawztextzof => k_is); (case lzlawztextzof => k_is); (case czlawztextzof => k_is); (case kzlawztextzof => k_is); (case Szlawztextzof => kernel_rfl)
      case bzlawztextzof =>
        intro us hl
        match us, hl with
        | [_, _], _ => rfl
    have x_law : Ev.DefX (PySem.Challenge.cw_startorwait_k16_texts_holds.heap_39 w.params) mg "law" (Ev.K16.dS "law") ["script", "k", "bag", "machine", "every", "rule", "text"] ["script"] := by
      refine' Ev.defX_mk KX G ?alaw ?llaw ?claw ?klaw ?Slaw ?blaw
      (case alaw => k_is); (case llaw => k_is); (case claw => k_is); (case klaw => k_is); (case Slaw => kernel_rfl)
      case blaw =>
        intro us hl
        match us, hl with
        | [_], _ => rfl
    have c2 : Ev.K16.P.gv.all (Ev.gvB (PySem.Challenge.cw_startorwait_k16_texts_holds.heap_39 w.params)) = true := by kernel_rfl
    have c3 : Ev.K16.P.bn.all (Ev.bnB (PySem.Challenge.cw_startorwait_k16_texts_holds.heap_39 w.params)) = true := by kernel_rfl
    have c4 : Ev.K16.P.exc.all (Ev.excB (PySem.Challenge.cw_startorwait_k16_texts_holds.heap_39 w.params)) = true := by kernel_rfl
    have c1 : Ev.lawCls.all (Ev.clsB (PySem.Challenge.cw_startorwait_k16_texts_holds.heap_39 w.params)) = true := by kernel_rfl
    have c5 : Ev.lawCls.all (Ev.kindsB (Ev.K16.dS "_law_kinds") ["e", "some", "words", "word", "good"]) = true := by kernel_rfl
    have hdefs : ∀ d ∈ Ev.K16.P.ds, Ev.DefX (PySem.Challenge.cw_startorwait_k16_texts_holds.heap_39 w.params) mg d.x d.st d.N d.ps := List.forall_mem_cons.mpr ⟨x_is_int, List.forall_mem_cons.mpr ⟨x_is_triple, List.forall_mem_cons.mpr ⟨x_is_machine, List.forall_mem_cons.mpr ⟨x_is_rule_of, List.forall_mem_cons.mpr ⟨x_need_machine, List.forall_mem_cons.mpr ⟨x_need_rule, List.forall_mem_cons.mpr ⟨x_text_of, List.forall_mem_cons.mpr ⟨x_figure, List.forall_mem_cons.mpr ⟨x_rule_text, List.forall_mem_cons.mpr ⟨x_read_rule, List.forall_mem_cons.mpr ⟨x__law_bag, List.forall_mem_cons.mpr ⟨x__law_out, List.forall_mem_cons.mpr ⟨x__law_some, List.forall_mem_cons.mpr ⟨x__law_machine, List.forall_mem_cons.mpr ⟨x__law_good_rule, List.forall_mem_cons.mpr ⟨x__law_every_rule, List.forall_mem_cons.mpr ⟨x__law_text_of, List.forall_mem_cons.mpr ⟨x_law, List.forall_mem_nil _⟩⟩⟩⟩⟩⟩⟩⟩⟩⟩⟩⟩⟩⟩⟩⟩⟩⟩
    have hlawF := Ev.lawF_mk KX G x__law_call x__law_kinds Ev.K16.shape (by kernel_rfl) (by kernel_rfl) (by kernel_rfl) c1 c5 (by kernel_rfl) (by kernel_rfl)
    let T : Ev.TX := ⟨[(273, (envOfC "law" (C8.fnScope (Ev.K16.dS "law")) 0 0 .none).qual ++ "<lambda>")], fun _ => none⟩
    let cs : List (Addr × Addr) := [(277, 273)]
    have l_law : Ev.DefL (PySem.Challenge.cw_startorwait_k16_texts_holds.heap_39 w.params) mg cs T Ev.K16.d_law := by
      refine' Ev.defL_mk (c := 277) (P := 273) KX G ?aLlaw ?lLlaw (List.mem_of_elem_eq_true rfl) (List.mem_of_elem_eq_true (by kernel_rfl)) ?uLlaw
      (case aLlaw => k_is); (case lLlaw => k_is)
      case uLlaw => decide +kernel
    have hlaw : ∀ d ∈ Ev.K16.P.ds, ∀ x, d.law = some x → (∃ stC stK a fo e kn tm se y NK TM SE, Ev.LawF (PySem.Challenge.cw_startorwait_k16_texts_holds.heap_39 w.params) mg x stC stK a fo e kn tm se y NK TM SE "told") ∧ (x == ("__debug__" : Str)) = false ∧ Ev.DefL (PySem.Challenge.cw_startorwait_k16_texts_holds.heap_39 w.params) mg cs T d :=
      List.forall_mem_cons.mpr ⟨(fun x h => by (have h : (none : Option Str) = some x := h); cases h), List.forall_mem_cons.mpr ⟨(fun x h => by (have h : (none : Option Str) = some x := h); cases h), List.forall_mem_cons.mpr ⟨(fun x h => by (have h : (none : Option Str) = some x := h); cases h), List.forall_mem_cons.mpr ⟨(fun x h => by (have h : (none : Option Str) = some x := h); cases h), List.forall_mem_cons.mpr ⟨(fun x h => by (have h : (none : Option Str) = some x := h); cases h), List.forall_mem_cons.mpr ⟨(fun x h => by (have h : (none : Option Str) = some x := h); cases h), List.forall_mem_cons.mpr ⟨(fun x h => by (have h : (none : Option Str) = some x := h); cases h), List.forall_mem_cons.mpr ⟨(fun x h => by (have h : (none : Option Str) = some x := h); cases h), List.forall_mem_cons.mpr ⟨(fun x h => by (have h : (none : Option Str) = some x := h); cases h), List.forall_mem_cons.mpr ⟨(fun x h => by (have h : (none : Option Str) = some x := h); cases h), List.forall_mem_cons.mpr ⟨(fun x h => by (have h : (none : Option Str) = some x := h); cases h), List.forall_mem_cons.mpr ⟨(fun x h => by (have h : (none : Option Str) = some x := h); cases h), List.forall_mem_cons.mpr ⟨(fun x h => by (have h : (none : Option Str) = some x := h); cases h), List.forall_mem_cons.mpr ⟨(fun x h => by (have h : (none : Option Str) = some x := h); cases h), List.forall_mem_cons.mpr ⟨(fun x h => by (have h : (none : Option Str) = some x := h); cases h), List.forall_mem_cons.mpr ⟨(fun x h => by (have h : (none : Option Str) = some x := h); cases h), List.forall_mem_cons.mpr ⟨(fun x h => by (have h : (none : Option Str) = some x := h); cases h), List.forall_mem_cons.mpr ⟨(fun x h => by (have h : some ("_law_call" : Str) = some x := h); cases h; exact ⟨hlawF, by decide, l_law⟩), List.forall_mem_nil _⟩⟩⟩⟩⟩⟩⟩⟩⟩⟩⟩⟩⟩⟩⟩⟩⟩⟩
    refine Ev.lawAt_of (P := Ev.K16.P) (cs := cs) (T := T) (n := 9) (c := Ev.K16.P.fn (Ev.K16.P.call 8) Ev.K16.d_law) ⟨hdefs, Ev.gv_ok KX G c2, fun x hx => Ev.bn_ok1 KX G (List.all_eq_true.mp c3 x hx), fun x hx => Ev.exc_ok1 KX G (List.all_eq_true.mp c4 x hx), hlaw⟩ ?_ ?_ ?_ ?_ hmg (by kernel_rfl) (by decide) (fun st hst => ?_) Ev.K16.math
    · exact List.forall_mem_cons.mpr ⟨PySem.W.km_tabs_of Y _ (List.mem_of_elem_eq_true rfl), List.forall_mem_nil _⟩
    · exact List.forall_mem_cons.mpr ⟨(by kernel_rfl), List.forall_mem_nil _⟩
    · exact List.forall_mem_cons.mpr ⟨(PySem.W.codeHd_of_K KX (by kernel_rfl)), List.forall_mem_nil _⟩
    · exact List.forall_mem_cons.mpr ⟨⟨_, List.mem_of_elem_eq_true (show List.elem (277, 273) cs = true from rfl), rfl⟩, List.forall_mem_nil _⟩
    · have e : some (["script"] : List Str) = some st := (show some (["script"] : List Str) = (Ev.K16.P.ds.find? fun d => d.x == ("law" : Str)).map (·.ps) from by kernel_rfl).trans hst
      cases e
      rfl

