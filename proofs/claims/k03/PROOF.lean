import PyProof.Rows.All
import Wide.All
import OpenK.AllK
import Wide.FinOn
import HandS.ForMost
import HandS.ExcCtx
import HandS.HotCalls
import HandS.IsInst
import HandS.Wide
import HandS.Lambda
import HandS.CallLocal
import HandS.TupMul
import HandS.Conv
import HandS.TryOnly
import HandS.Flow
import PyProof.CallStr
import HandS.WordsExc
import KE.KeyNested
import KE.KDictKeyed
import HandS.Iter
import HandS.TupAny
import HandS.RaiseMore
import HandS.Small
import KE.KTupSum
import HandS.Style
import HandS.StrMore
import HandS.Text
import HandS.FStr
import HandS.Zip
import KE.KDictWalk
import KE.GoesMore
import KE.KDictDisplayH
import KE.KDictCopyH
import HandS.SortInts
import KE.SortData
import KE.KDictPairs
import HandS.SetFor
import HandS.Strs
import PyProof.Rows.FactsN_isinstance
import PyProof.Rows.FactsN_abs
import HandS.ExcIs
import KE.KUnpack
import KE.DataMinKey
import PyProof.WalkInts
import HandS.EndTab
import KE.KNestM
import KE.KLam
import PySem.Challenge.RW_startorwait_k03_the_one_who_knows
set_option Elab.async false
set_option linter.all false
set_option maxRecDepth 100000
set_option maxHeartbeats 4000000
namespace Ev
open PySem PySem.Spec PyProof.Rows L2
abbrev St := L2.St

/-! ### values, the store -/
inductive D where
  | non | bl (b : Bool) | int (i : Int) | str (x : Str) | tup (xs : List D) | fl (xs : List D) | loc (n : Nat) | gl (x : Str) | rw (t : Nat)
  deriving Inhabited
inductive MO where
  | lst (xs : List D)
  /-- a dict: whether nothing was ever taken from it by an unknown road; keys as such, as values; values -/
  | dct (kn : Bool) (kvs : List (NestedKey × D × D))
  | ins (c : Str) (fs : List (Str × D))
abbrev Mem := List MO
structure Exc where
  c : Str
  d : Option D := none
inductive R (α : Type) where
  | ok (a : α) (m : Mem) | ex (x : Exc) (m : Mem) | er
abbrev Env := List (Option D)
abbrev E := Env → Mem → R D
abbrev Es := Env → Mem → R (List D)
abbrev T := Env → Mem → R Bool
inductive RS where
  | nx (ρ : Env) (m : Mem) | bk (ρ : Env) (m : Mem) | ct (ρ : Env) (m : Mem) | rt (d : D) (m : Mem) | ex (x : Exc) (ρ : Env) (m : Mem) | er
abbrev S := Env → Mem → RS
def R.bind {α β : Type} : R α → (α → Mem → R β) → R β
  | .ok a m, f => f a m
  | .ex x m, _ => .ex x m
  | .er, _ => .er
/-- of an expression's result: a statement's -/
def R.st {α : Type} : R α → Env → (α → Mem → RS) → RS
  | .ok a m, _, f => f a m
  | .ex x m, ρ, _ => .ex x ρ m
  | .er, _, _ => .er

/-! ### what a value, the store stands for -/
/-- tables of code objects; raw addresses -/
structure TX where
  l : List (Addr × Str)
  x : Nat → Option Addr := fun _ => none
  w : World
structure Gc where
  K : PySem.W.Frag
  mg : Str → Option Value
  T : TX

/-- a list that stands still: not one of the store -/
def FzL (K : PySem.W.Frag) (ι : List Addr) (H : Hp) (a : Addr) (vs : List V) : Prop := (Rd H a (.lst vs) ∧ a ∉ ι) ∨ SqL K (fun _ => none) a vs
mutual
inductive RelD (G : Gc) (ι : List Addr) (H : Hp) : D → V → Prop
  | non : RelD G ι H .non .non
  | bl (b : Bool) : RelD G ι H (.bl b) (.bl b)
  | int (i : Int) : RelD G ι H (.int i) (.int i)
  | str (x : Str) : RelD G ι H (.str x) (.str x)
  | tup {a : Addr} {vs : List V} {ds : List D} : SqT G.K H a vs → RelDs G ι H ds vs → RelD G ι H (.tup ds) (.ref a)
  | fl {a : Addr} {vs : List V} {ds : List D} : FzL G.K ι H a vs → RelDs G ι H ds vs → RelD G ι H (.fl ds) (.ref a)
  | loc {n : Nat} {a : Addr} : ι[n]? = some a → RelD G ι H (.loc n) (.ref a)
  | gl {x : Str} {a : Addr} : G.mg x = some (.ref a) → RelD G ι H (.gl x) (.ref a)
  | rw {t : Nat} {a : Addr} : G.T.x t = some a → RelD G ι H (.rw t) (.ref a)
inductive RelDs (G : Gc) (ι : List Addr) (H : Hp) : List D → List V → Prop
  | nil : RelDs G ι H [] []
  | cons {d : D} {v : V} {ds : List D} {vs : List V} : RelD G ι H d v → RelDs G ι H ds vs → RelDs G ι H (d :: ds) (v :: vs)
end
theorem RelDs.length {G : Gc} {ι : List Addr} {H : Hp} : ∀ {ds : List D} {vs : List V}, RelDs G ι H ds vs → ds.length = vs.length
  | _, _, .nil => rfl
  | _, _, .cons _ r => congrArg (· + 1) r.length
theorem RelDs.get {G : Gc} {ι : List Addr} {H : Hp} : ∀ {ds : List D} {vs : List V}, RelDs G ι H ds vs → ∀ {i : Nat} {d : D}, ds[i]? = some d → ∃ v, vs[i]? = some v ∧ RelD G ι H d v
  | _, _, .nil, i, d, h => by simp at h
  | _, _, .cons r _, 0, d, h => by simp at h; subst h; exact ⟨_, rfl, r⟩
  | _, _, .cons _ r, i + 1, d, h => by
    obtain ⟨v, h1, h2⟩ := r.get (i := i) (d := d) (by simpa using h)
    exact ⟨v, by simpa using h1, h2⟩
theorem RelDs.get' {G : Gc} {ι : List Addr} {H : Hp} : ∀ {ds : List D} {vs : List V}, RelDs G ι H ds vs → ∀ {i : Nat} {v : V}, vs[i]? = some v → ∃ d, ds[i]? = some d ∧ RelD G ι H d v
  | _, _, .nil, i, d, h => by simp at h
  | _, _, .cons r _, 0, d, h => by simp at h; subst h; exact ⟨_, rfl, r⟩
  | _, _, .cons _ r, i + 1, d, h => by
    obtain ⟨v, h1, h2⟩ := r.get' (i := i) (v := d) (by simpa using h)
    exact ⟨v, by simpa using h1, h2⟩
theorem RelDs.append {G : Gc} {ι : List Addr} {H : Hp} : ∀ {ds es : List D} {vs ws : List V}, RelDs G ι H ds vs → RelDs G ι H es ws → RelDs G ι H (ds ++ es) (vs ++ ws)
  | _, _, _, _, .nil, s => s
  | _, _, _, _, .cons r t, s => .cons r (RelDs.append t s)
theorem RelDs.take {G : Gc} {ι : List Addr} {H : Hp} : ∀ {ds : List D} {vs : List V} (n : Nat), RelDs G ι H ds vs → RelDs G ι H (ds.take n) (vs.take n)
  | _, _, 0, _ => .nil
  | _, _, _ + 1, .nil => .nil
  | _, _, n + 1, .cons r t => .cons r (RelDs.take n t)
theorem RelDs.drop {G : Gc} {ι : List Addr} {H : Hp} : ∀ {ds : List D} {vs : List V} (n : Nat), RelDs G ι H ds vs → RelDs G ι H (ds.drop n) (vs.drop n)
  | _, _, 0, r => r
  | _, _, _ + 1, .nil => .nil
  | _, _, n + 1, .cons _ t => RelDs.drop n t
theorem RelDs.set {G : Gc} {ι : List Addr} {H : Hp} {d : D} {v : V} (r : RelD G ι H d v) : ∀ {ds : List D} {vs : List V} (i : Nat), RelDs G ι H ds vs → RelDs G ι H (ds.set i d) (vs.set i v)
  | _, _, _, .nil => .nil
  | _, _, 0, .cons _ t => .cons r t
  | _, _, i + 1, .cons q t => .cons q (RelDs.set r i t)
theorem RelDs.rep {G : Gc} {ι : List Addr} {H : Hp} {ds : List D} {vs : List V} (r : RelDs G ι H ds vs) : ∀ n, RelDs G ι H (List.replicate n ds).flatten (List.replicate n vs).flatten
  | 0 => .nil
  | n + 1 => by
    rw [List.replicate_succ, List.replicate_succ, List.flatten_cons, List.flatten_cons]
    exact r.append (RelDs.rep r n)

/-- the attributes -/
inductive RelF (G : Gc) (ι : List Addr) (H : Hp) : List (Str × D) → List (Str × V) → Prop
  | nil : RelF G ι H [] []
  | cons {x : Str} {d : D} {v : V} {ds : List (Str × D)} {vs : List (Str × V)} : RelD G ι H d v → RelF G ι H ds vs → RelF G ι H ((x, d) :: ds) ((x, v) :: vs)
/-! a value as a key of a dict -/
mutual
def nkD : D → Option NestedKey
  | .non => some .none
  | .bl b => some (.num (if b = true then 1 else 0))
  | .int i => some (.num i)
  | .str x => some (.text x)
  | .tup ds => match nkDs ds with
    | some ks => some (.tup ks)
    | none => none
  | _ => none
def nkDs : List D → Option (List NestedKey)
  | [] => some []
  | d :: ds => match nkD d, nkDs ds with
    | some k, some ks => some (k :: ks)
    | _, _ => none
end
/-- a dict's entries, told -/
def entV (w : World) (x : NestedKey × Addr × Value) : DictEntry := ⟨x.1.hash w, .ref x.2.1, x.2.2⟩
abbrev EntR : List (NestedKey × Addr × V) → List (NestedKey × Addr × Value) → Prop := Paired fun p q => p.1 = q.1 ∧ p.2.1 = q.2.1 ∧ RelV p.2.2 q.2.2
/-- the object at a is a dict with these entries -/
def dctP (w : World) (kn : Bool) (a : Addr) (xs : List (NestedKey × Addr × V)) (h : Heap) : Prop :=
  ∃ o es ep vs, h.get? a = some o ∧ o.ExactDict ∧ o.data = .dict es ep ∧ EntR xs vs ∧ es.toList = vs.map (entV w) ∧ (kn = true → ep = es.size)
def dctO (w : World) (kn : Bool) (a : Addr) (xs : List (NestedKey × Addr × V)) : HO := .ext (dctP w kn a xs)
/-- the entries of the store's dict -/
structure RelK (G : Gc) (ι : List Addr) (H : Hp) (kvs : List (NestedKey × D × D)) (xs : List (NestedKey × Addr × V)) : Prop where
  keys : kvs.map (·.1) = xs.map (·.1)
  kd : RelDs G ι H (kvs.map (·.2.1)) (xs.map fun x => .ref x.2.1)
  vd : RelDs G ι H (kvs.map (·.2.2)) (xs.map (·.2.2))
  nk : ∀ p ∈ kvs, nkD p.2.1 = some p.1 ∧ p.1.depth ≤ 8
  nd : (kvs.map (·.1)).Nodup
  len : kvs.length ≤ sizeLine
/-- what the store's object o at a is -/
def ObR (G : Gc) (ι : List Addr) (H : Hp) (a : Addr) : MO → Prop
  | .lst ds => ∃ vs, H a = some (.lst vs) ∧ RelDs G ι H ds vs
  | .dct kn kvs => ∃ xs, H a = some (dctO G.T.w kn a xs) ∧ (a == sysModules) = false ∧ RelK G ι H kvs xs
  | .ins c fs => ∃ C dx fv, G.mg c = some (.ref C) ∧ H a = some (.ins C dx fv) ∧ RelF G ι H fs fv
def isMu : HO → Bool
  | .lst _ => true
  | .ins _ _ _ => true
  | .ext _ => true
  | _ => false
structure Wd (G : Gc) (ι : List Addr) (μ : Mem) (H : Hp) : Prop where
  len : ι.length = μ.length
  nd : ι.Nodup
  mu : ∀ a ∈ ι, ∃ o, H a = some o ∧ isMu o = true
  ob : ∀ (n : Nat) (a : Addr) (o : MO), ι[n]? = some a → μ[n]? = some o → ObR G ι H a o
  tb : LamX.Tabs G.T.l H
/-- from a state to a later one -/
structure Grow (G : Gc) (ι : List Addr) (H : Hp) (ι' : List Addr) (H' : Hp) : Prop where
  pre : ι <+: ι'
  new : ∀ a ∈ ι', a ∈ ι ∨ H a = none
  ext : ∀ b o, H b = some o → b ∉ ι → (∀ ps, o ≠ .tbl ps) → H' b = some o
  tbl : ∀ b ps, H b = some (.tbl ps) → b ∉ ι → ∃ ps', H' b = some (.tbl ps')
section
variable {G : Gc} {ι ι1 ι' : List Addr} {H H1 H' : Hp} {μ : Mem}
theorem Grow.refl : Grow G ι H ι H := ⟨List.prefix_refl _, fun _ h => .inl h, fun _ _ h _ _ => h, fun _ ps h _ => ⟨ps, h⟩⟩
theorem Grow.trans (a : Grow G ι H ι1 H1) (b : Grow G ι1 H1 ι' H') : Grow G ι H ι' H' := by
  have out : ∀ c o, H c = some o → c ∉ ι → c ∉ ι1 := fun c o h n m => (a.new c m).elim n fun z => by rw [z] at h; cases h
  refine ⟨a.pre.trans b.pre, fun c hc => ?_, fun c o h n nt => b.ext c o (a.ext c o h n nt) (out c o h n) nt, fun c ps h n => ?_⟩
  · by_cases hn : H c = none
    · exact .inr hn
    · rcases b.new c hc with h | h
      · exact a.new c h
      · by_cases hi : c ∈ ι
        · exact .inl hi
        · exfalso
          obtain ⟨o, ho⟩ : ∃ o, H c = some o := by
            cases q : H c with
            | none => exact absurd q hn
            | some o => exact ⟨o, rfl⟩
          by_cases ht : ∃ ps, o = .tbl ps
          · obtain ⟨ps, rfl⟩ := ht
            obtain ⟨ps', z⟩ := a.tbl c ps ho hi
            rw [h] at z; cases z
          · have z := a.ext c o ho hi (fun ps e => ht ⟨ps, e⟩)
            rw [h] at z; cases z
  · obtain ⟨ps', z⟩ := a.tbl c ps h n
    exact b.tbl c ps' z (out c _ h n)
theorem Grow.get (g : Grow G ι H ι' H') {n : Nat} {a : Addr} (h : ι[n]? = some a) : ι'[n]? = some a := by
  obtain ⟨t, rfl⟩ := g.pre
  rw [List.getElem?_append_left (List.getElem?_eq_some_iff.mp h).1]
  exact h
theorem Wd.notIn (w : Wd G ι μ H) {a : Addr} {o : HO} (h : H a = some o) (n : isMu o = false) : a ∉ ι := fun hm => by
  obtain ⟨o', e, q⟩ := w.mu a hm
  rw [h] at e; cases e
  rw [n] at q; cases q
theorem Wd.fresh (w : Wd G ι μ H) {a : Addr} (h : H a = none) : a ∉ ι := fun hm => by
  obtain ⟨o', e, _⟩ := w.mu a hm
  rw [h] at e; cases e
theorem Wd.sqT (w : Wd G ι μ H) (g : Grow G ι H ι' H') {a : Addr} {vs : List V} (h : SqT G.K H a vs) : SqT G.K H' a vs := by
  rcases h with (h | ⟨o, h⟩) | h
  · exact .inl (.inl (g.ext a _ h (w.notIn h rfl) (fun _ e => by cases e)))
  · exact .inl (.inr ⟨o, g.ext a _ h (w.notIn h rfl) (fun _ e => by cases e)⟩)
  · exact .inr h
theorem Grow.fzL (g : Grow G ι H ι' H') {a : Addr} {vs : List V} (h : FzL G.K ι H a vs) : FzL G.K ι' H' a vs := by
  rcases h with ⟨h, n⟩ | h
  · have out : ∀ o, H a = some o → a ∉ ι' := fun o h m => (g.new a m).elim n fun z => by rw [z] at h; cases h
    rcases h with h | ⟨o, h⟩
    · exact .inl ⟨.inl (g.ext a _ h n (fun _ e => by cases e)), out _ h⟩
    · exact .inl ⟨.inr ⟨o, g.ext a _ h n (fun _ e => by cases e)⟩, out _ h⟩
  · exact .inr h
theorem FzL.sq {K : PySem.W.Frag} {a : Addr} {vs : List V} (h : FzL K ι H a vs) : SqL K H a vs := by
  rcases h with ⟨h, _⟩ | h
  · exact .inl h
  · rcases h with (h | ⟨o, h⟩) | h
    · cases h
    · cases h
    · exact .inr h
mutual
theorem RelD.grow (w : Wd G ι μ H) (g : Grow G ι H ι' H') : ∀ {d : D} {v : V}, RelD G ι H d v → RelD G ι' H' d v
  | _, _, .non => .non
  | _, _, .bl b => .bl b
  | _, _, .int i => .int i
  | _, _, .str x => .str x
  | _, _, .tup h r => .tup (w.sqT g h) (RelDs.grow w g r)
  | _, _, .fl h r => .fl (g.fzL h) (RelDs.grow w g r)
  | _, _, .loc h => .loc (g.get h)
  | _, _, .gl h => .gl h
  | _, _, .rw h => .rw h
theorem RelDs.grow (w : Wd G ι μ H) (g : Grow G ι H ι' H') : ∀ {ds : List D} {vs : List V}, RelDs G ι H ds vs → RelDs G ι' H' ds vs
  | _, _, .nil => .nil
  | _, _, .cons r rs => .cons (RelD.grow w g r) (RelDs.grow w g rs)
end
theorem RelF.grow (w : Wd G ι μ H) (g : Grow G ι H ι' H') : ∀ {fs : List (Str × D)} {vs : List (Str × V)}, RelF G ι H fs vs → RelF G ι' H' fs vs
  | _, _, .nil => .nil
  | _, _, .cons r rs => .cons (r.grow w g) (RelF.grow w g rs)
theorem RelK.grow (w : Wd G ι μ H) (g : Grow G ι H ι' H') {kvs : List (NestedKey × D × D)} {xs : List (NestedKey × Addr × V)} (r : RelK G ι H kvs xs) : RelK G ι' H' kvs xs := ⟨r.keys, r.kd.grow w g, r.vd.grow w g, r.nk, r.nd, r.len⟩
/-- the slots -/
def EnvR (G : Gc) (ι : List Addr) (H : Hp) (ρ : Env) (σ : St) : Prop := ρ.length = σ.length ∧ ∀ (i : Nat) (d : D), ρ[i]? = some (some d) → ∃ v, σ[i]? = some (some v) ∧ RelD G ι H d v
theorem EnvR.grow {ρ : Env} {σ : St} (w : Wd G ι μ H) (g : Grow G ι H ι' H') (e : EnvR G ι H ρ σ) : EnvR G ι' H' ρ σ :=
  ⟨e.1, fun i d h => let ⟨v, h1, h2⟩ := e.2 i d h; ⟨v, h1, h2.grow w g⟩⟩
theorem EnvR.set {ρ : Env} {σ : St} {d : D} {v : V} (e : EnvR G ι H ρ σ) (r : RelD G ι H d v) (i : Nat) : EnvR G ι H (ρ.set i (some d)) (σ.set i (some v)) := by
  refine ⟨by rw [List.length_set, List.length_set]; exact e.1, fun j d' h => ?_⟩
  by_cases hj : i = j
  · subst hj
    have hlt : i < ρ.length := by
      have := (List.getElem?_eq_some_iff.mp h).1
      rwa [List.length_set] at this
    rw [List.getElem?_set_self hlt] at h
    cases h
    exact ⟨v, List.getElem?_set_self (by rw [← e.1]; exact hlt), r⟩
  · rw [List.getElem?_set_ne hj] at h
    obtain ⟨v', h1, h2⟩ := e.2 j d' h
    exact ⟨v', by rw [List.getElem?_set_ne hj]; exact h1, h2⟩

/-! ### new objects, stores -/
theorem tabs_ext {T : List (Addr × Str)} (t : LamX.Tabs T H) (e : ∀ b o, H b = some o → H' b = some o) : LamX.Tabs T H' := t.ext e
theorem ext_new {p : Addr} {o : HO} (h : H p = none) : ∀ b u, H b = some u → upd H p o b = some u := fun b u e => by rw [upd_ne (ne_of_none e h)]; exact e
/-- an object that is not of the store -/
theorem Grow.obj {p : Addr} {o : HO} (h : H p = none) : Grow G ι H ι (upd H p o) :=
  ⟨List.prefix_refl _, fun _ h => .inl h, fun b u e _ _ => ext_new h b u e, fun b ps e _ => ⟨ps, ext_new h b _ e⟩⟩
theorem ObR.grow {a : Addr} {o : MO} (w : Wd G ι μ H) (g : Grow G ι H ι' H') (k : ∀ u, H a = some u → H' a = some u) (x : ObR G ι H a o) : ObR G ι' H' a o := by
  cases o with
  | lst ds => obtain ⟨vs, e, r⟩ := x; exact ⟨vs, k _ e, r.grow w g⟩
  | dct kn kvs => obtain ⟨xs, e, n, r⟩ := x; exact ⟨xs, k _ e, n, r.grow w g⟩
  | ins c fs => obtain ⟨C, dx, fv, e1, e2, r⟩ := x; exact ⟨C, dx, fv, e1, k _ e2, r.grow w g⟩
theorem Wd.obj (w : Wd G ι μ H) {p : Addr} {o : HO} (h : H p = none) : Wd G ι μ (upd H p o) := by
  refine ⟨w.len, w.nd, fun a ha => ?_, fun n a o' h1 h2 => (w.ob n a o' h1 h2).grow w (Grow.obj h) fun u e => ext_new h a u e, tabs_ext w.tb (ext_new h)⟩
  obtain ⟨u, e, q⟩ := w.mu a ha
  exact ⟨u, ext_new h a u e, q⟩
/-- one more of the store -/
theorem Grow.more {p : Addr} {o : HO} (h : H p = none) : Grow G ι H (ι ++ [p]) (upd H p o) :=
  ⟨List.prefix_append _ _, fun a ha => (List.mem_append.mp ha).elim .inl fun z => .inr (by rw [List.mem_singleton.mp z]; exact h), fun b u e _ _ => ext_new h b u e, fun b ps e _ => ⟨ps, ext_new h b _ e⟩⟩
theorem Wd.more (w : Wd G ι μ H) {p : Addr} {o : HO} {m : MO} (h : H p = none) (mo : isMu o = true) (x : ObR G (ι ++ [p]) (upd H p o) p m) : Wd G (ι ++ [p]) (μ ++ [m]) (upd H p o) := by
  have np := w.fresh h
  refine ⟨by simp [w.len], List.nodup_append.mpr ⟨w.nd, by simp, fun a ha b hb => by rw [List.mem_singleton.mp hb]; exact fun e => np (e ▸ ha)⟩, fun a ha => ?_, fun n a o' h1 h2 => ?_, tabs_ext w.tb (ext_new h)⟩
  · rcases List.mem_append.mp ha with z | z
    · obtain ⟨u, e, q⟩ := w.mu a z
      exact ⟨u, ext_new h a u e, q⟩
    · rw [List.mem_singleton.mp z]
      exact ⟨o, upd_same, mo⟩
  · by_cases hn : n < ι.length
    · rw [List.getElem?_append_left hn] at h1
      rw [List.getElem?_append_left (by rw [← w.len]; exact hn)] at h2
      exact (w.ob n a o' h1 h2).grow w (Grow.more h) fun u e => ext_new h a u e
    · rw [List.getElem?_append_right (by omega)] at h1
      rw [List.getElem?_append_right (by rw [← w.len]; omega)] at h2
      rw [← w.len] at h2
      cases hk : n - ι.length with
      | zero =>
        rw [hk] at h1 h2
        cases h1; cases h2
        exact x
      | succ k =>
        rw [hk] at h1
        simp at h1
theorem RelD.last {p : Addr} {o : HO} (w : Wd G ι μ H) : RelD G (ι ++ [p]) (upd H p o) (.loc μ.length) (.ref p) := .loc (by rw [← w.len]; simp)
/-- one of the store is written -/
theorem Grow.write {n : Nat} {a : Addr} {o : HO} (hn : ι[n]? = some a) : Grow G ι H ι (upd H a o) := by
  have hm : a ∈ ι := List.mem_of_getElem? hn
  exact ⟨List.prefix_refl _, fun _ h => .inl h, fun b u e hb _ => by rw [upd_ne (show b ≠ a from fun z => hb (by rw [z]; exact hm))]; exact e, fun b ps e hb => ⟨ps, by rw [upd_ne (show b ≠ a from fun z => hb (by rw [z]; exact hm))]; exact e⟩⟩
theorem Wd.write (w : Wd G ι μ H) {n : Nat} {a : Addr} {o : HO} {m : MO} (hn : ι[n]? = some a) (mo : isMu o = true) (nc : ∀ q, H a ≠ some (LamX.CodeO a q)) (x : ObR G ι (upd H a o) a m) : Wd G ι (μ.set n m) (upd H a o) := by
  have hm : a ∈ ι := List.mem_of_getElem? hn
  obtain ⟨u0, e0, q0⟩ := w.mu a hm
  refine ⟨by simp [w.len], w.nd, fun b hb => ?_, fun k b o' h1 h2 => ?_, fun p hp => ?_⟩
  · by_cases z : b = a
    · rw [z]; exact ⟨o, upd_same, mo⟩
    · obtain ⟨u, e, q⟩ := w.mu b hb
      exact ⟨u, by rw [upd_ne z]; exact e, q⟩
  · by_cases z : k = n
    · subst z
      rw [hn] at h1; cases h1
      have hlt : k < μ.length := by rw [← w.len]; exact (List.getElem?_eq_some_iff.mp hn).1
      rw [List.getElem?_set_self hlt] at h2
      cases h2
      exact x
    · rw [List.getElem?_set_ne (Ne.symm z)] at h2
      have zb : b ≠ a := fun e => z (by
        have h3 : ι[k]? = ι[n]? := by rw [h1, hn, e]
        exact (List.getElem?_inj (List.getElem?_eq_some_iff.mp h1).1 w.nd).mp h3)
      exact (w.ob k b o' h1 h2).grow w (Grow.write hn) fun u e => by rw [upd_ne zb]; exact e
  · obtain ⟨ps, e1, e2, e3⟩ := w.tb p hp
    refine ⟨ps, ?_, e2, fun pos cv hc => ?_⟩
    · rw [upd_ne (fun z => by rw [z, e0] at e1; cases e1; cases q0)]; exact e1
    · obtain ⟨c, f1, f2⟩ := e3 pos cv hc
      exact ⟨c, f1, by rw [upd_ne (fun z => nc p.2 (by rw [z] at f2; exact f2))]; exact f2⟩
theorem lst_ne_code {a : Addr} {vs : List V} (h : H a = some (.lst vs)) : ∀ q, H a ≠ some (LamX.CodeO a q) := fun q e => by
  rw [h] at e
  have e := Option.some.inj e
  unfold LamX.CodeO at e
  cases e
theorem ins_ne_code {a C dx : Addr} {fs : List (Str × V)} (h : H a = some (.ins C dx fs)) : ∀ q, H a ≠ some (LamX.CodeO a q) := fun q e => by
  rw [h] at e
  have e := Option.some.inj e
  unfold LamX.CodeO at e
  cases e
end

/-! ### the readings -/
/-- how an exception lies -/
def ExR (G : Gc) (x : Exc) (cls : Value) (od : Option Addr) (H : Hp) : Prop := G.mg x.c = some cls ∧ x.d.isNone = true ∧ od = none
def Pst (G : Gc) (ι : List Addr) (H : Hp) (E : XK) (Q : VK) : R D → Prop
  | .ok d μ' => ∀ v H' ι', Grow G ι H ι' H' → Wd G ι' μ' H' → RelD G ι' H' d v → Q v H'
  | .ex x μ' => ∀ H' ι' cls od, Grow G ι H ι' H' → Wd G ι' μ' H' → ExR G x cls od H' → E cls od H'
  | .er => False
def PsL (G : Gc) (ι : List Addr) (H : Hp) (E : XK) (Q : List V → Hp → Prop) : R (List D) → Prop
  | .ok d μ' => ∀ v H' ι', Grow G ι H ι' H' → Wd G ι' μ' H' → RelDs G ι' H' d v → Q v H'
  | .ex x μ' => ∀ H' ι' cls od, Grow G ι H ι' H' → Wd G ι' μ' H' → ExR G x cls od H' → E cls od H'
  | .er => False
def PsB (G : Gc) (ι : List Addr) (H : Hp) (E : XK) (Q : Bool → Hp → Prop) : R Bool → Prop
  | .ok d μ' => ∀ H' ι', Grow G ι H ι' H' → Wd G ι' μ' H' → Q d H'
  | .ex x μ' => ∀ H' ι' cls od, Grow G ι H ι' H' → Wd G ι' μ' H' → ExR G x cls od H' → E cls od H'
  | .er => False
def PsS (G : Gc) (ι : List Addr) (H : Hp) (W : WX) (D : Ends) : RS → Prop
  | .nx ρ μ' => ∀ σ' H' ι', Grow G ι H ι' H' → Wd G ι' μ' H' → EnvR G ι' H' ρ σ' → D.nx σ' H'
  | .bk ρ μ' => ∀ σ' H' ι', Grow G ι H ι' H' → Wd G ι' μ' H' → EnvR G ι' H' ρ σ' → D.bk σ' H'
  | .ct ρ μ' => ∀ σ' H' ι', Grow G ι H ι' H' → Wd G ι' μ' H' → EnvR G ι' H' ρ σ' → D.ct σ' H'
  | .rt d μ' => ∀ v H' ι', Grow G ι H ι' H' → Wd G ι' μ' H' → RelD G ι' H' d v → D.rt v H'
  | .ex x ρ μ' => ∀ σ' H' ι' cls od, Grow G ι H ι' H' → Wd G ι' μ' H' → EnvR G ι' H' ρ σ' → ExR G x cls od H' → W cls od σ' H'
  | .er => False
/-- the state ρ, μ stands for σ, H -/
def tE (G : Gc) (W : WX) (f : E) : TE := fun σ H Q => ∃ ρ μ ι, Wd G ι μ H ∧ EnvR G ι H ρ σ ∧ Pst G ι H (fun c d H' => W c d σ H') Q (f ρ μ)
def tEs (G : Gc) (W : WX) (f : Es) : TA := fun σ H Q => ∃ ρ μ ι, Wd G ι μ H ∧ EnvR G ι H ρ σ ∧ PsL G ι H (fun c d H' => W c d σ H') Q (f ρ μ)
def tT (G : Gc) (W : WX) (f : T) : TT := fun σ H Q => ∃ ρ μ ι, Wd G ι μ H ∧ EnvR G ι H ρ σ ∧ PsB G ι H (fun c d H' => W c d σ H') Q (f ρ μ)
def tS (G : Gc) (W : WX) (f : S) : TS := fun D σ H => ∃ ρ μ ι, Wd G ι μ H ∧ EnvR G ι H ρ σ ∧ PsS G ι H W D (f ρ μ)
section
variable {G : Gc} {ι ι1 ι' : List Addr} {H H1 H' : Hp} {μ : Mem} {E : XK} {W : WX}
theorem Pst.grow {Q : VK} {r : R D} (g : Grow G ι H ι1 H1) (h : Pst G ι H E Q r) : Pst G ι1 H1 E Q r := by
  cases r with
  | ok d m => exact fun v H' ι' g' w r => h v H' ι' (g.trans g') w r
  | ex x m => exact fun H' ι' cls od g' w r => h H' ι' cls od (g.trans g') w r
  | er => exact h
theorem PsL.grow {Q : List V → Hp → Prop} {r : R (List D)} (g : Grow G ι H ι1 H1) (h : PsL G ι H E Q r) : PsL G ι1 H1 E Q r := by
  cases r with
  | ok d m => exact fun v H' ι' g' w r => h v H' ι' (g.trans g') w r
  | ex x m => exact fun H' ι' cls od g' w r => h H' ι' cls od (g.trans g') w r
  | er => exact h
theorem PsB.grow {Q : Bool → Hp → Prop} {r : R Bool} (g : Grow G ι H ι1 H1) (h : PsB G ι H E Q r) : PsB G ι1 H1 E Q r := by
  cases r with
  | ok d m => exact fun H' ι' g' w => h H' ι' (g.trans g') w
  | ex x m => exact fun H' ι' cls od g' w r => h H' ι' cls od (g.trans g') w r
  | er => exact h
theorem PsS.grow {D : Ends} {r : RS} (g : Grow G ι H ι1 H1) (h : PsS G ι H W D r) : PsS G ι1 H1 W D r := by
  cases r with
  | nx ρ m => exact fun σ' H' ι' g' w r => h σ' H' ι' (g.trans g') w r
  | bk ρ m => exact fun σ' H' ι' g' w r => h σ' H' ι' (g.trans g') w r
  | ct ρ m => exact fun σ' H' ι' g' w r => h σ' H' ι' (g.trans g') w r
  | rt d m => exact fun v H' ι' g' w r => h v H' ι' (g.trans g') w r
  | ex x ρ m => exact fun σ' H' ι' cls od g' w r x => h σ' H' ι' cls od (g.trans g') w r x
  | er => exact h
end
end Ev

set_option Elab.async false
set_option linter.all false
set_option maxRecDepth 100000
set_option maxHeartbeats 4000000
namespace Ev
open PySem PySem.Spec PyProof.Rows L2
/-! ### what is new and no longer reached is dropped -/
mutual
/-- all places of a value are below n -/
def D.low (n : Nat) : D → Bool
  | .tup xs => D.lows n xs
  | .fl xs => D.lows n xs
  | .loc m => decide (m < n)
  | .non => true | .bl _ => true | .int _ => true | .str _ => true | .gl _ => true | .rw _ => true
def D.lows (n : Nat) : List D → Bool
  | [] => true
  | x :: xs => D.low n x && D.lows n xs
end
def MO.low (n : Nat) : MO → Bool
  | .lst xs => D.lows n xs
  | .dct _ kvs => D.lows n (kvs.map (·.2.1)) && D.lows n (kvs.map (·.2.2))
  | .ins _ fs => fs.all fun p => D.low n p.2
theorem lows_all {n : Nat} : ∀ {xs : List D}, D.lows n xs = true ↔ ∀ x ∈ xs, D.low n x = true
  | [] => ⟨fun _ _ h => absurd h (by simp), fun _ => rfl⟩
  | x :: xs => by
    rw [D.lows, Bool.and_eq_true, lows_all (xs := xs)]
    simp
/-- the old places: as before, or with old places alone -/
def KeepP (n : Nat) (μ μ' : Mem) : Prop := μ.length ≤ μ'.length ∧ ∀ (i : Nat) (o : MO), μ[i]? = some o → μ'[i]? = some o ∨ ∃ o', μ'[i]? = some o' ∧ o'.low n = true
/-- a list, told by value -/
def mapF (f : D → Option D) : List D → Option (List D)
  | [] => some []
  | x :: xs => match f x, mapF f xs with
    | some y, some ys => some (y :: ys)
    | _, _ => none
def lstA (μ : Mem) (n : Nat) : Option (List D) := match μ[n]? with
  | some (.lst xs) => some xs
  | _ => none
def frz (n : Nat) (μ' : Mem) : Nat → D → Option D
  | 0, _ => none
  | k + 1, d => if d.low n = true then some d else match d with
    | .tup xs => (mapF (frz n μ' k) xs).map .tup
    | .fl xs => (mapF (frz n μ' k) xs).map .fl
    | .loc m => match lstA μ' m with
      | some xs => (mapF (frz n μ' k) xs).map .fl
      | none => none
    | _ => none
open Classical in
noncomputable def gc (fz : Bool) (μ : Mem) : R D → R D
  | .ok d μ' => if μ'.length = μ.length then .ok d μ' else if KeepP μ.length μ μ' then (if d.low μ.length = true then .ok d (μ'.take μ.length)
      else if fz = true then (match frz μ.length μ' 12 d with
        | some d' => .ok d' (μ'.take μ.length)
        | none => .ok d μ')
      else (match d with
        | .loc m => (match μ'[m]? with
          | some o => if o.low μ.length = true then .ok (.loc μ.length) (μ'.take μ.length ++ [o]) else .ok d μ'
          | none => .ok d μ')
        | _ => .ok d μ')) else .ok d μ'
  | .ex x μ' => if KeepP μ.length μ μ' then .ex x (μ'.take μ.length) else .ex x μ'
  | .er => .er
open Classical in
noncomputable def gcB (μ : Mem) : R Bool → R Bool
  | .ok d μ' => if KeepP μ.length μ μ' then .ok d (μ'.take μ.length) else .ok d μ'
  | .ex x μ' => if KeepP μ.length μ μ' then .ex x (μ'.take μ.length) else .ex x μ'
  | .er => .er
section
variable {G : Gc} {ι ι1 ι' : List Addr} {H H1 H' : Hp} {μ μ' : Mem} {E : XK} {n : Nat}
mutual
theorem RelD.low : ∀ {d : D} {v : V}, RelD G ι H d v → D.low ι.length d = true
  | _, _, .non => rfl
  | _, _, .bl _ => rfl
  | _, _, .int _ => rfl
  | _, _, .str _ => rfl
  | _, _, .tup _ r => RelDs.low r
  | _, _, .fl _ r => RelDs.low r
  | _, _, .loc h => decide_eq_true (List.getElem?_eq_some_iff.mp h).1
  | _, _, .gl _ => rfl
  | _, _, .rw _ => rfl
theorem RelDs.low : ∀ {ds : List D} {vs : List V}, RelDs G ι H ds vs → D.lows ι.length ds = true
  | _, _, .nil => rfl
  | _, _, .cons r rs => by rw [D.lows, RelD.low r, RelDs.low rs]; rfl
end
theorem RelF.low : ∀ {fs : List (Str × D)} {vs : List (Str × V)}, RelF G ι H fs vs → (fs.all fun p => D.low ι.length p.2) = true
  | _, _, .nil => rfl
  | _, _, .cons r rs => by rw [List.all_cons, RelD.low r, RelF.low rs]; rfl
/-- by other places, the same below n -/
structure Alike (n : Nat) (ι ι' : List Addr) : Prop where
  get : ∀ k, k < n → ι[k]? = ι'[k]?
  sub : ∀ a ∈ ι, a ∈ ι'
theorem FzL.alike {K : PySem.W.Frag} {a : Addr} {vs : List V} (s : Alike n ι ι') (h : FzL K ι' H a vs) : FzL K ι H a vs := by
  rcases h with ⟨h, q⟩ | h
  · exact .inl ⟨h, fun z => q (s.sub a z)⟩
  · exact .inr h
mutual
theorem RelD.alike (s : Alike n ι ι') : ∀ {d : D} {v : V}, RelD G ι' H d v → D.low n d = true → RelD G ι H d v
  | _, _, .non, _ => .non
  | _, _, .bl b, _ => .bl b
  | _, _, .int i, _ => .int i
  | _, _, .str x, _ => .str x
  | _, _, .tup h r, l => .tup h (RelDs.alike s r l)
  | _, _, .fl h r, l => .fl (h.alike s) (RelDs.alike s r l)
  | _, _, .loc h, l => .loc ((s.get _ (of_decide_eq_true l)).trans h)
  | _, _, .gl h, _ => .gl h
  | _, _, .rw h, _ => .rw h
theorem RelDs.alike (s : Alike n ι ι') : ∀ {ds : List D} {vs : List V}, RelDs G ι' H ds vs → D.lows n ds = true → RelDs G ι H ds vs
  | _, _, .nil, _ => .nil
  | _, _, .cons r rs, l => by
    rw [D.lows, Bool.and_eq_true] at l
    exact .cons (RelD.alike s r l.1) (RelDs.alike s rs l.2)
end
theorem RelF.alike (s : Alike n ι ι') : ∀ {fs : List (Str × D)} {vs : List (Str × V)}, RelF G ι' H fs vs → (fs.all fun p => D.low n p.2) = true → RelF G ι H fs vs
  | _, _, .nil, _ => .nil
  | _, _, .cons r rs, l => by
    rw [List.all_cons, Bool.and_eq_true] at l
    exact .cons (r.alike s l.1) (RelF.alike s rs l.2)
theorem ObR.low {a : Addr} {o : MO} (x : ObR G ι H a o) : o.low ι.length = true := by
  cases o with
  | lst ds => obtain ⟨vs, _, r⟩ := x; exact r.low
  | dct kn kvs =>
    obtain ⟨xs, _, _, r⟩ := x
    show (D.lows _ _ && D.lows _ _) = true
    rw [r.kd.low, r.vd.low]; rfl
  | ins c fs => obtain ⟨C, dx, fv, _, _, r⟩ := x; exact r.low
theorem ObR.alike (s : Alike n ι ι') {a : Addr} {o : MO} (x : ObR G ι' H a o) (l : o.low n = true) : ObR G ι H a o := by
  cases o with
  | lst ds => obtain ⟨vs, e, r⟩ := x; exact ⟨vs, e, r.alike s l⟩
  | dct kn kvs =>
    obtain ⟨xs, e, nn, r⟩ := x
    have l : (D.lows n (kvs.map (·.2.1)) && D.lows n (kvs.map (·.2.2))) = true := l
    rw [Bool.and_eq_true] at l
    exact ⟨xs, e, nn, r.keys, r.kd.alike s l.1, r.vd.alike s l.2, r.nk, r.nd, r.len⟩
  | ins c fs => obtain ⟨C, dx, fv, e1, e2, r⟩ := x; exact ⟨C, dx, fv, e1, e2, r.alike s l⟩
theorem Alike.pre (h : ι <+: ι') : Alike ι.length ι ι' := by
  obtain ⟨t, rfl⟩ := h
  exact ⟨fun k hk => (List.getElem?_append_left hk).symm, fun a ha => List.mem_append_left _ ha⟩
theorem Alike.pre1 {m : Nat} {a : Addr} (h : ι <+: ι') (ha : ι'[m]? = some a) : Alike ι.length (ι ++ [a]) ι' := by
  obtain ⟨t, rfl⟩ := h
  refine ⟨fun k hk => by rw [List.getElem?_append_left hk, List.getElem?_append_left hk], fun b hb => ?_⟩
  rcases List.mem_append.mp hb with hb | hb
  · exact List.mem_append_left _ hb
  · rw [List.mem_singleton.mp hb]; exact List.mem_of_getElem? ha
theorem Grow.cut (g : Grow G ι H ι' H') : Grow G ι H ι H' := ⟨List.prefix_refl _, fun _ h => .inl h, g.ext, g.tbl⟩
theorem Grow.cut1 {m : Nat} {a : Addr} (g : Grow G ι H ι' H') (ha : ι'[m]? = some a) : Grow G ι H (ι ++ [a]) H' := by
  refine ⟨List.prefix_append _ _, fun b hb => ?_, g.ext, g.tbl⟩
  rcases List.mem_append.mp hb with hb | hb
  · exact .inl hb
  · rw [List.mem_singleton.mp hb]; exact g.new a (List.mem_of_getElem? ha)
/-- of an old place -/
theorem keep_low (w : Wd G ι μ H) (w' : Wd G ι' μ' H') (g : Grow G ι H ι' H') (kp : KeepP μ.length μ μ') {k : Nat} {a : Addr} {o : MO} (h1 : ι[k]? = some a) (h2 : μ'[k]? = some o) : o.low ι.length = true ∧ ObR G ι' H' a o := by
  have hk : k < ι.length := (List.getElem?_eq_some_iff.mp h1).1
  refine ⟨?_, w'.ob k a o (g.get h1) h2⟩
  have hk2 : k < μ.length := by rw [← w.len]; exact hk
  have e : μ[k]? = some μ[k] := List.getElem?_eq_getElem hk2
  rcases kp.2 k _ e with h | ⟨o', h, l⟩
  · rw [h2] at h; cases h
    exact (w.ob k a _ h1 e).low
  · rw [h2] at h; cases h
    rw [w.len]; exact l
theorem Wd.cut (w : Wd G ι μ H) (w' : Wd G ι' μ' H') (g : Grow G ι H ι' H') (kp : KeepP μ.length μ μ') : Wd G ι (μ'.take μ.length) H' := by
  refine ⟨?_, w.nd, fun a ha => w'.mu a ((Alike.pre g.pre).sub a ha), fun k a o h1 h2 => ?_, w'.tb⟩
  · rw [List.length_take, w.len]
    have := kp.1
    omega
  · have hk : k < ι.length := (List.getElem?_eq_some_iff.mp h1).1
    rw [List.getElem?_take_of_lt (by rw [← w.len]; exact hk)] at h2
    obtain ⟨l, x⟩ := keep_low w w' g kp h1 h2
    exact x.alike (Alike.pre g.pre) l
theorem Wd.cut1 {m : Nat} {a : Addr} {o : MO} (w : Wd G ι μ H) (w' : Wd G ι' μ' H') (g : Grow G ι H ι' H') (kp : KeepP μ.length μ μ') (ha : ι'[m]? = some a) (hm : ι.length ≤ m) (ho : μ'[m]? = some o) (l : o.low μ.length = true) : Wd G (ι ++ [a]) (μ'.take μ.length ++ [o]) H' := by
  have c := w.cut w' g kp
  have na : a ∉ ι := fun h => by
    obtain ⟨j, hj⟩ := List.mem_iff_getElem?.mp h
    have hj1 := (List.getElem?_eq_some_iff.mp hj).1
    have h3 : ι'[j]? = ι'[m]? := by rw [g.get hj, ha]
    have := (List.getElem?_inj (List.getElem?_eq_some_iff.mp (g.get hj)).1 w'.nd).mp h3
    omega
  have al := Alike.pre1 g.pre ha
  refine ⟨by simp [c.len], List.nodup_append.mpr ⟨w.nd, by simp, fun x hx y hy => by rw [List.mem_singleton.mp hy]; exact fun e => na (e ▸ hx)⟩, fun b hb => w'.mu b (al.sub b hb), fun k b o' h1 h2 => ?_, w'.tb⟩
  by_cases hk : k < ι.length
  · rw [List.getElem?_append_left hk] at h1
    rw [List.getElem?_append_left (by rw [← c.len]; exact hk), List.getElem?_take_of_lt (by rw [← w.len]; exact hk)] at h2
    obtain ⟨l, x⟩ := keep_low w w' g kp h1 h2
    exact x.alike al l
  · rw [List.getElem?_append_right (by omega)] at h1
    rw [List.getElem?_append_right (by rw [← c.len]; omega), ← c.len] at h2
    cases hj : k - ι.length with
    | zero =>
      rw [hj] at h1 h2
      cases h1; cases h2
      exact (w'.ob m _ _ ha ho).alike al (by rw [w.len]; exact l)
    | succ j =>
      rw [hj] at h1
      simp at h1
theorem mapF_rel {f : D → Option D} (h : ∀ {d : D} {v : V} {d' : D}, RelD G ι' H d v → f d = some d' → RelD G ι H d' v) : ∀ {ds : List D} {vs : List V} {ps : List D}, RelDs G ι' H ds vs → mapF f ds = some ps → RelDs G ι H ps vs
  | [], _, _, .nil, e => by cases e; exact .nil
  | d :: ds, _, _, .cons r rs, e => by
    unfold mapF at e
    split at e
    · rename_i y ys e1 e2
      cases e
      exact .cons (h r e1) (mapF_rel h rs e2)
    · cases e
theorem frz_rel (w' : Wd G ι' μ' H') (hp : ι <+: ι') : ∀ k {d d' : D} {v : V}, RelD G ι' H' d v → frz ι.length μ' k d = some d' → RelD G ι H' d' v
  | 0, _, _, _, _, h => by cases h
  | k + 1, d, d', v, r, h => by
    unfold frz at h
    split at h
    · rename_i l
      cases h
      exact r.alike (Alike.pre hp) l
    · rename_i l
      cases r with
      | @tup a vs ds h1 q =>
        dsimp only at h
        cases e : mapF (frz ι.length μ' k) ds with
        | none => rw [e] at h; cases h
        | some ys => rw [e] at h; cases h; exact .tup h1 (mapF_rel (frz_rel w' hp k) q e)
      | @fl a vs ds h1 q =>
        dsimp only at h
        cases e : mapF (frz ι.length μ' k) ds with
        | none => rw [e] at h; cases h
        | some ys => rw [e] at h; cases h; exact .fl (h1.alike (Alike.pre hp)) (mapF_rel (frz_rel w' hp k) q e)
      | @loc m a hm =>
        dsimp only at h
        split at h
        · rename_i xs e
          have e' : μ'[m]? = some (.lst xs) := by
            unfold lstA at e
            split at e
            · rename_i q; cases e; exact q
            · cases e
          obtain ⟨vs, h1, q⟩ := w'.ob m a _ hm e'
          cases e2 : mapF (frz ι.length μ' k) xs with
          | none => rw [e2] at h; cases h
          | some ys =>
            rw [e2] at h; cases h
            refine .fl (.inl ⟨Rd.of h1, fun ha => ?_⟩) (mapF_rel (frz_rel w' hp k) q e2)
            obtain ⟨j, hj⟩ := List.mem_iff_getElem?.mp ha
            have hj1 := (List.getElem?_eq_some_iff.mp hj).1
            have hj2 : ι'[j]? = some a := by
              obtain ⟨t, rfl⟩ := hp
              rw [List.getElem?_append_left hj1]; exact hj
            have := (List.getElem?_inj (List.getElem?_eq_some_iff.mp hj2).1 w'.nd).mp (hj2.trans hm.symm)
            subst this
            exact l (decide_eq_true hj1)
        · cases h
      | _ => exact absurd rfl l
theorem gc_ok {Q : VK} {fz : Bool} (w : Wd G ι μ H) : ∀ {r : R D}, Pst G ι H E Q (gc fz μ r) → Pst G ι H E Q r
  | .er, h => h
  | .ex x μ', h => by
    intro H' ι' cls od g' w' r
    unfold gc at h
    dsimp only at h
    split at h
    · rename_i kp
      exact h H' ι cls od g'.cut (w.cut w' g' kp) r
    · exact h H' ι' cls od g' w' r
  | .ok d μ', h => by
    intro v H' ι' g' w' r
    unfold gc at h
    dsimp only at h
    split at h
    · exact h v H' ι' g' w' r
    · split at h
      · rename_i kp
        split at h
        · rename_i l
          exact h v H' ι g'.cut (w.cut w' g' kp) (r.alike (Alike.pre g'.pre) (by rw [w.len]; exact l))
        · rename_i nl
          split at h
          · split at h
            · rename_i d' e
              exact h v H' ι g'.cut (w.cut w' g' kp) (frz_rel w' g'.pre 12 r (by rw [w.len]; exact e))
            · exact h v H' ι' g' w' r
          · split at h
            · rename_i m
              split at h
              · rename_i o ho
                split at h
                · rename_i l
                  cases r with
                  | @loc _ a hm =>
                    have hge : ι.length ≤ m := by
                      rw [w.len]
                      exact Nat.le_of_not_lt fun z => nl (decide_eq_true z)
                    refine h (.ref a) H' (ι ++ [a]) (g'.cut1 hm) (w.cut1 w' g' kp hm hge ho l) (.loc ?_)
                    rw [← w.len]
                    simp
                · exact h v H' ι' g' w' r
              · exact h v H' ι' g' w' r
            · exact h v H' ι' g' w' r
      · exact h v H' ι' g' w' r
theorem gcB_ok {Q : Bool → Hp → Prop} (w : Wd G ι μ H) : ∀ {r : R Bool}, PsB G ι H E Q (gcB μ r) → PsB G ι H E Q r
  | .er, h => h
  | .ex x μ', h => by
    intro H' ι' cls od g' w' r
    unfold gcB at h
    dsimp only at h
    split at h
    · rename_i kp
      exact h H' ι cls od g'.cut (w.cut w' g' kp) r
    · exact h H' ι' cls od g' w' r
  | .ok d μ', h => by
    intro H' ι' g' w'
    unfold gcB at h
    dsimp only at h
    split at h
    · rename_i kp
      exact h H' ι g'.cut (w.cut w' g' kp)
    · exact h H' ι' g' w'
end
/-! ### of an expression -/
noncomputable def gE (f : E) : E := fun ρ μ => gc false μ (f ρ μ)
noncomputable def gTT (f : T) : T := fun ρ μ => gcB μ (f ρ μ)
theorem tE_gc {G : Gc} {W : WX} {f : E} {σ : St} {H : Hp} {Q : VK} (h : tE G W (gE f) σ H Q) : tE G W f σ H Q := by
  obtain ⟨ρ, μ, ι, w, ev, q⟩ := h
  exact ⟨ρ, μ, ι, w, ev, gc_ok w q⟩
theorem tT_gc {G : Gc} {W : WX} {f : T} {σ : St} {H : Hp} {Q : Bool → Hp → Prop} (h : tT G W (gTT f) σ H Q) : tT G W f σ H Q := by
  obtain ⟨ρ, μ, ι, w, ev, q⟩ := h
  exact ⟨ρ, μ, ι, w, ev, gcB_ok w q⟩
/-! ### what it gives -/
section
variable {μ ν : Mem} {d : D} {fz : Bool}
theorem KeepP.app : KeepP μ.length μ (μ ++ ν) := ⟨by simp, fun i o h => .inl (by rw [List.getElem?_append_left (List.getElem?_eq_some_iff.mp h).1]; exact h)⟩
theorem KeepP.refl {n : Nat} : KeepP n μ μ := ⟨Nat.le_refl _, fun i o h => .inl h⟩
theorem gc_er : gc fz μ .er = .er := rfl
theorem gc_id : gc fz μ (.ok d μ) = .ok d μ := by
  unfold gc; simp
theorem gc_ex {x : Exc} : gc fz μ (.ex x μ) = .ex x μ := by
  unfold gc; simp [KeepP.refl]
theorem gc_exA {x : Exc} : gc fz μ (.ex x (μ ++ ν)) = .ex x μ := by
  unfold gc; simp [KeepP.app]
theorem gc_low (h : D.low μ.length d = true) : gc fz μ (.ok d (μ ++ ν)) = .ok d μ := by
  unfold gc
  dsimp only
  split
  · rename_i e
    have : ν = [] := List.length_eq_zero_iff.mp (by rw [List.length_append] at e; omega)
    rw [this, List.append_nil]
  · rw [if_pos KeepP.app]
    simp only [List.take_left, h, if_true]
theorem gcB_id {b : Bool} : gcB μ (.ok b μ) = .ok b μ := by
  unfold gcB; simp [KeepP.refl]
theorem gcB_app {b : Bool} : gcB μ (.ok b (μ ++ ν)) = .ok b μ := by
  unfold gcB; simp [KeepP.app]
theorem gcB_er : gcB μ .er = .er := rfl
theorem gcB_ex {x : Exc} : gcB μ (.ex x μ) = .ex x μ := by
  unfold gcB; simp [KeepP.refl]
/-- a new list, told by value -/
theorem frz_low {n k : Nat} (h : D.low n d = true) : frz n μ (k + 1) d = some d := by
  unfold frz; rw [if_pos h]
theorem mapF_low {n k : Nat} : ∀ {xs : List D}, D.lows n xs = true → mapF (frz n μ (k + 1)) xs = some xs
  | [], _ => rfl
  | x :: xs, h => by
    rw [D.lows, Bool.and_eq_true] at h
    rw [mapF, frz_low h.1, mapF_low h.2]
theorem gc_frz {m : Nat} {xs : List D} (hm : μ.length ≤ m) (h1 : lstA (μ ++ ν) m = some xs) (h : D.lows μ.length xs = true) : gc true μ (.ok (.loc m) (μ ++ ν)) = .ok (.fl xs) μ := by
  have hl : ¬ (μ ++ ν).length = μ.length := fun e => by
    have hz : ν = [] := List.length_eq_zero_iff.mp (by rw [List.length_append] at e; omega)
    rw [hz, List.append_nil] at h1
    unfold lstA at h1
    rw [List.getElem?_eq_none hm] at h1
    cases h1
  have nl : ¬ D.low μ.length (.loc m) = true := fun e => by
    have := of_decide_eq_true (show decide (m < μ.length) = true from e)
    omega
  have hf : frz μ.length (μ ++ ν) 12 (.loc m) = some (.fl xs) := by
    unfold frz
    rw [if_neg nl]
    simp only [h1, mapF_low h, Option.map_some]
  unfold gc
  simp only [if_neg hl, if_pos KeepP.app, if_neg nl, hf, List.take_left, if_true]
theorem gc_loc {m : Nat} {xs : List D} (hm : μ.length ≤ m) (h1 : (μ ++ ν)[m]? = some (.lst xs)) (h : D.lows μ.length xs = true) : gc false μ (.ok (.loc m) (μ ++ ν)) = .ok (.loc μ.length) (μ ++ [.lst xs]) := by
  have hl : ¬ (μ ++ ν).length = μ.length := fun e => by
    have hz : ν = [] := List.length_eq_zero_iff.mp (by rw [List.length_append] at e; omega)
    rw [hz, List.append_nil, List.getElem?_eq_none hm] at h1
    cases h1
  have nl : ¬ D.low μ.length (.loc m) = true := fun e => by
    have := of_decide_eq_true (show decide (m < μ.length) = true from e)
    omega
  have lo : MO.low μ.length (.lst xs) = true := h
  unfold gc
  simp only [if_neg hl, if_pos KeepP.app, if_neg nl, h1, List.take_left, Bool.false_eq_true, if_false, if_pos lo]
end
end Ev

set_option Elab.async false
set_option linter.all false
set_option maxRecDepth 100000
set_option maxHeartbeats 4000000
namespace Ev
open PySem PySem.Spec PyProof.Rows L2
open AutoSeq1 (wpAny_loadPart')
/-! ### tuple * int, any int -/
theorem tmul_same (l : Addr) (items : Array Value) (n : Nat) (x : Int) (u : Tok) (dd : Option Addr) (sl : Array (Option Value)) (c0 : (decide (x < -(2 ^ 63)) || decide (x ≥ 2 ^ 63)) = false) (c1 : (items.isEmpty || x == 1) = true) :
    Meets (Builtin.«tuple.__mul__» ⟨[.ref l, .int x u], []⟩) (fun _ R s => s.heap.get? l = some { cls := .type "tuple", dict := dd, data := .seq items n, slots := sl } ∧ R (.ok (.ret (Value.ref l))) s) :=
  .of_wp fun prog w A R s h => by
    obtain ⟨hp, g, d, tk, os⟩ := s
    obtain ⟨hl, h⟩ := h
    have f1 := AutoSeq1.idx_int
    wp_walk using wpAny_loadPart' hl
    repeat (first
      | (refine wpAny_ite_false (decide_eq_false (by rw [c0]; exact Bool.false_ne_true)) ?_; wp_walk using wpAny_loadPart' hl)
      | (refine wpAny_ite_true (decide_eq_true (by rw [c1])) ?_; wp_walk using wpAny_loadPart' hl))
    all_goals first | exact ⟨_, rfl, h⟩ | trace_state
theorem tmul_none (l : Addr) (items : Array Value) (n : Nat) (x : Int) (u : Tok) (dd : Option Addr) (sl : Array (Option Value)) (c0 : (decide (x < -(2 ^ 63)) || decide (x ≥ 2 ^ 63)) = false) (c1 : (items.isEmpty || x == 1) = false) (c2 : (decide (x ≤ 0) || items.isEmpty) = true) :
    Meets (Builtin.«tuple.__mul__» ⟨[.ref l, .int x u], []⟩) (fun _ R s => s.heap.get? l = some { cls := .type "tuple", dict := dd, data := .seq items n, slots := sl } ∧
      R (.ok (.ret (Value.ref s.heap.objs.size))) { s with heap := s.heap.push { cls := Value.type "tuple", data := Data.seq #[] }, toks := s.toks }) :=
  .of_wp fun prog w A R s h => by
    obtain ⟨hp, g, d, tk, os⟩ := s
    obtain ⟨hl, h⟩ := h
    have f1 := AutoSeq1.idx_int
    wp_walk using wpAny_loadPart' hl
    repeat (first
      | (refine wpAny_ite_false (decide_eq_false (by rw [c0]; exact Bool.false_ne_true)) ?_; wp_walk using wpAny_loadPart' hl)
      | (refine wpAny_ite_false (decide_eq_false (by rw [c1]; exact Bool.false_ne_true)) ?_; wp_walk using wpAny_loadPart' hl)
      | (refine wpAny_ite_true (decide_eq_true (by rw [c2])) ?_; wp_walk using wpAny_loadPart' hl))
    all_goals first | exact ⟨_, rfl, h⟩ | trace_state
def rRep1 (K : PySem.W.Frag) : R2 := fun x y H Q => ∃ l k xs, x = .ref l ∧ y = .int k ∧ SqT K H l xs ∧ -1000 ≤ k ∧ k ≤ 1000 ∧ (xs = [] ∨ k = 1) ∧ Q (.ref l) H
def rRep0 (K : PySem.W.Frag) : R2 := fun x y H Q => ∃ l k xs, x = .ref l ∧ y = .int k ∧ SqT K H l xs ∧ -1000 ≤ k ∧ k ≤ 0 ∧ xs ≠ [] ∧ ∀ p, H p = none → Q (.ref p) (upd H p (.tup []))
section
variable {X : Cx}
theorem op_rep1 : OpR X (binaryOp .Mult) (rRep1 X.K) := by
  intro pins s σ H x y v u Q I rx ry h
  obtain ⟨l, k, xs, rfl, rfl, hT, h1, h2, hne, q⟩ := h
  cases rx
  obtain ⟨t, rfl⟩ := ry
  obtain ⟨its, r, ⟨⟨cls, dd, data, sl⟩, ho, hc, n, hd⟩, hs⟩ := I.tuple hT
  simp only at hc hd
  subst hc hd
  have hle : its.length = xs.length := r.length.symm
  have c0 : (decide (k < -(2 ^ 63)) || decide (k ≥ 2 ^ 63)) = false := by
    rw [decide_eq_false (by omega), decide_eq_false (by omega)] <;> rfl
  have c1 : (its.toArray.isEmpty || k == 1) = true := by
    rcases hne with e | e
    · subst e
      have : its = [] := List.eq_nil_of_length_eq_zero hle
      subst this
      rfl
    · subst e
      simp
  refine wpAny_binaryOp_repeat_ref (T := "tuple") (U := "int") (by decide) ⟨_, ho, rfl⟩ (fun s' => typeIs_int s' k t) noFill_tuple_mul F.fills_int_mul F.slot_int_rmul repeat_tuple F.slot_int_index.lookup
    (call_meets F.slot_int_rmul (typeIs_int s k t) F.entry_int_rmul (F.args_int_rmul_2 _ _) (int_rmul_tuple k t l its.toArray n dd sl)
      ⟨ho, rfl, ⟨_, ho, rfl⟩, call_meets F.slot_tuple_mul ⟨_, ho, rfl⟩ F.entry_tuple_mul (F.args_tuple_mul_2 _ _) (tmul_same l its.toArray n k t dd sl c0 c1) ⟨ho, ?_⟩⟩)
  exact ⟨.ref l, H, I, rfl, q⟩
theorem op_rep0 : OpR X (binaryOp .Mult) (rRep0 X.K) := by
  intro pins s σ H x y v u Q I rx ry h
  obtain ⟨l, k, xs, rfl, rfl, hT, h1, h2, hne, q⟩ := h
  cases rx
  obtain ⟨t, rfl⟩ := ry
  obtain ⟨its, r, ⟨⟨cls, dd, data, sl⟩, ho, hc, n, hd⟩, hs⟩ := I.tuple hT
  simp only at hc hd
  subst hc hd
  have hle : its.length = xs.length := r.length.symm
  have hi : its.toArray.isEmpty = false := by
    cases its with
    | nil => exact absurd (List.eq_nil_of_length_eq_zero hle.symm) hne
    | cons a b => rfl
  have c0 : (decide (k < -(2 ^ 63)) || decide (k ≥ 2 ^ 63)) = false := by
    rw [decide_eq_false (by omega), decide_eq_false (by omega)] <;> rfl
  have c1 : (its.toArray.isEmpty || k == 1) = false := by
    rw [hi, Bool.false_or]
    exact beq_eq_false_iff_ne.mpr (by omega)
  have c2 : (decide (k ≤ 0) || its.toArray.isEmpty) = true := by
    rw [decide_eq_true h2]; rfl
  refine wpAny_binaryOp_repeat_ref (T := "tuple") (U := "int") (by decide) ⟨_, ho, rfl⟩ (fun s' => typeIs_int s' k t) noFill_tuple_mul F.fills_int_mul F.slot_int_rmul repeat_tuple F.slot_int_index.lookup
    (call_meets F.slot_int_rmul (typeIs_int s k t) F.entry_int_rmul (F.args_int_rmul_2 _ _) (int_rmul_tuple k t l its.toArray n dd sl)
      ⟨ho, rfl, ⟨_, ho, rfl⟩, call_meets F.slot_tuple_mul ⟨_, ho, rfl⟩ F.entry_tuple_mul (F.args_tuple_mul_2 _ _) (tmul_none l its.toArray n k t dd sl c0 c1 c2) ⟨ho, ?_⟩⟩)
  refine ⟨.ref s.heap.objs.size, _, I.laid (t' := s.toks) (o := .tup []) (fun b ob q => Heap.get?_push_of_some _ q) (Nat.le_refl _) ?_, rfl, q _ (I.hok.fresh (Nat.le_refl _))⟩
  exact ⟨by rw [sizeLine_eq]; decide, [], .nil, IsTup.new _ _⟩
end
end Ev

set_option Elab.async false
set_option linter.all false
set_option maxRecDepth 100000
set_option maxHeartbeats 4000000
namespace Ev
open PySem PySem.Spec PyProof.Rows L2

abbrev gx (X : Cx) (T : TX) : Gc := ⟨X.K, X.mg, T⟩
abbrev O := Option (D × Mem)
def O.r : O → R D
  | some (d, m) => .ok d m
  | none => .er
/-- what is left to show of a value -/
def Don (G : Gc) (ι : List Addr) (H : Hp) (Q : VK) : O → Prop
  | some (d, μ') => ∀ v H' ι', Grow G ι H ι' H' → Wd G ι' μ' H' → RelD G ι' H' d v → Q v H'
  | none => False
theorem Don.grow {G : Gc} {ι ι1 : List Addr} {H H1 : Hp} {Q : VK} {o : O} (g : Grow G ι H ι1 H1) (h : Don G ι H Q o) : Don G ι1 H1 Q o := by
  match o, h with
  | some (d, m), h => exact fun v H' ι' g' w r => h v H' ι' (g.trans g') w r
def r1 (G : Gc) (p : D → Mem → O) : V → Hp → VK → Prop := fun x H Q => ∃ d μ ι, Wd G ι μ H ∧ RelD G ι H d x ∧ Don G ι H Q (p d μ)
def r2 (G : Gc) (p : D → D → Mem → O) : R2 := fun x y H Q => ∃ d e μ ι, Wd G ι μ H ∧ RelD G ι H d x ∧ RelD G ι H e y ∧ Don G ι H Q (p d e μ)
def rn (G : Gc) (p : List D → Mem → O) : List V → Hp → VK → Prop := fun xs H Q => ∃ ds μ ι, Wd G ι μ H ∧ RelDs G ι H ds xs ∧ Don G ι H Q (p ds μ)

section
variable {X : Cx} {T : TX} {ι : List Addr} {H : Hp} {μ : Mem} {G : Gc}
theorem Don.val {Q : VK} {d : D} (w : Wd G ι μ H) {v : V} (r : RelD G ι H d v) (h : Don G ι H Q (some (d, μ))) : Q v H := h v H ι .refl w r
theorem Don.tup {Q : VK} {ds : List D} {vs : List V} (w : Wd G ι μ H) (r : RelDs G ι H ds vs) (h : Don G ι H Q (some (.tup ds, μ))) : ∀ p, H p = none → Q (.ref p) (upd H p (.tup vs)) :=
  fun p hp => h (.ref p) _ ι (.obj hp) (w.obj hp) (.tup (SqT.of upd_same) (r.grow w (.obj hp)))
theorem Don.lst {Q : VK} {ds : List D} {vs : List V} (w : Wd G ι μ H) (r : RelDs G ι H ds vs) (h : Don G ι H Q (some (.loc μ.length, μ ++ [.lst ds]))) : ∀ p, H p = none → Q (.ref p) (upd H p (.lst vs)) :=
  fun p hp => h (.ref p) _ (ι ++ [p]) (.more hp) (w.more hp rfl ⟨vs, upd_same, r.grow w (.more hp)⟩) (RelD.last w)
/-- a list of the store is written -/
theorem Don.wr {Q : VK} {n : Nat} {a : Addr} {ds : List D} {vs ws : List V} {d : D} (w : Wd G ι μ H) (hn : ι[n]? = some a) (hl : H a = some (.lst ws)) (r : RelDs G ι H ds vs) {v : V} (rv : RelD G ι H d v) (h : Don G ι H Q (some (d, μ.set n (.lst ds)))) : Q v (upd H a (.lst vs)) :=
  h v _ ι (.write hn) (w.write hn rfl (lst_ne_code hl) ⟨vs, upd_same, r.grow w (.write hn)⟩) (rv.grow w (.write hn))
/-- the list at a place of the store -/
theorem Wd.lst {n : Nat} {v : V} (w : Wd G ι μ H) (r : RelD G ι H (.loc n) v) {ds : List D} (h : μ[n]? = some (.lst ds)) : ∃ a vs, v = .ref a ∧ ι[n]? = some a ∧ H a = some (.lst vs) ∧ RelDs G ι H ds vs := by
  cases r with
  | loc e =>
    obtain ⟨vs, h1, h2⟩ := w.ob n _ _ e h
    exact ⟨_, vs, rfl, e, h1, h2⟩

/-! ### binary operators -/
def sumLen (n m : Nat) : Bool := decide (n + m ≤ sizeLine)
theorem sumLen_le {n m : Nat} (h : sumLen n m = true) : n + m ≤ sizeLine := of_decide_eq_true h
def lstAt (μ : Mem) (n : Nat) : Option (List D) := match μ[n]? with
  | some (.lst xs) => some xs
  | _ => none
theorem lstAt_some {n : Nat} {xs : List D} (h : lstAt μ n = some xs) : μ[n]? = some (.lst xs) := by
  unfold lstAt at h
  split at h
  · rename_i q; cases h; exact q
  · cases h
theorem op_add_bl : OpR X (binaryOp .Add) (fun x y H Q => ∃ (a : Bool) (i : Int), x = .bl a ∧ y = .int i ∧ Q (.int ((if a = true then (1 : Int) else 0) + i)) H) := by
  intro pins s σ H x y v u Q I rx ry h
  obtain ⟨a, i, rfl, rfl, q⟩ := h
  cases rx
  obtain ⟨t, rfl⟩ := ry
  exact IntBool.add_bool_int ⟨.int ((if a = true then (1 : Int) else 0) + i), H, I.tok _, ⟨s.toks, rfl⟩, q⟩
theorem op_sub_bl : OpR X (binaryOp .Sub) (fun x y H Q => ∃ (a : Bool) (i : Int), x = .bl a ∧ y = .int i ∧ Q (.int ((if a = true then (1 : Int) else 0) - i)) H) := by
  intro pins s σ H x y v u Q I rx ry h
  obtain ⟨a, i, rfl, rfl, q⟩ := h
  cases rx
  obtain ⟨t, rfl⟩ := ry
  exact IntBool.sub_bool_int ⟨.int ((if a = true then (1 : Int) else 0) - i), H, I.tok _, ⟨s.toks, rfl⟩, q⟩
def addD : D → D → Mem → O
  | .int i, .int j, μ => some (.int (i + j), μ)
  | .bl a, .int j, μ => some (.int ((if a = true then 1 else 0) + j), μ)
  | .str x, .str y, μ => if sumLen x.length y.length then some (.str (x ++ y), μ) else none
  | .tup xs, .tup ys, μ => if sumLen xs.length ys.length then some (.tup (xs ++ ys), μ) else none
  | .loc a, .loc b, μ => match lstAt μ a, lstAt μ b with
    | some xs, some ys => if sumLen xs.length ys.length then some (.loc μ.length, μ ++ [.lst (xs ++ ys)]) else none
    | _, _ => none
  | _, _, _ => none
theorem add_ok : OpR X (binaryOp .Add) (r2 (gx X T) addD) := by
  intro pins s σ H x y v u Q I rx ry h
  obtain ⟨d, e, μ, ι, w, rd, re, h⟩ := h
  cases d with
  | int i =>
    cases e with
    | int j =>
      cases rd; cases re
      exact op_add pins s σ H _ _ v u Q I rx ry ⟨i, j, rfl, rfl, Don.val w (.int _) h⟩
    | _ => exact h.elim
  | bl b =>
    cases e with
    | int j =>
      cases rd; cases re
      exact op_add_bl pins s σ H _ _ v u Q I rx ry ⟨b, j, rfl, rfl, Don.val w (.int _) h⟩
    | _ => exact h.elim
  | str a =>
    cases e with
    | str b =>
      cases rd; cases re
      unfold addD at h
      dsimp only at h
      split at h
      · rename_i hz
        exact op_add_str pins s σ H _ _ v u Q I rx ry ⟨a, b, rfl, rfl, sumLen_le hz, Don.val w (.str _) h⟩
      · exact h.elim
    | _ => exact h.elim
  | tup ds =>
    cases e with
    | tup es =>
      cases rd with
      | @tup a vs _ h1 q1 =>
      cases re with
      | @tup b ws _ h2 q2 =>
      unfold addD at h
      dsimp only at h
      split at h
      · rename_i hz
        refine op_catA pins s σ H _ _ v u Q I rx ry ⟨a, b, vs, ws, rfl, rfl, h1, h2, by rw [← q1.length, ← q2.length]; exact sumLen_le hz, fun e => ?_, fun _ e => ?_, fun _ _ => ?_⟩
        · subst e
          cases q1
          exact Don.val w (.tup h2 q2) h
        · subst e
          cases q2
          rw [List.append_nil] at h
          exact Don.val w (.tup h1 q1) h
        · exact Don.tup w (q1.append q2) h
      · exact h.elim
    | _ => exact h.elim
  | loc n =>
    cases e with
    | loc m =>
      unfold addD at h
      dsimp only at h
      split at h
      · rename_i xs ys e1 e2
        split at h
        · rename_i hz
          obtain ⟨a, vs, rfl, i1, l1, q1⟩ := w.lst rd (lstAt_some e1)
          obtain ⟨b, ws, rfl, i2, l2, q2⟩ := w.lst re (lstAt_some e2)
          exact op_cat pins s σ H _ _ v u Q I rx ry ⟨a, b, vs, ws, rfl, rfl, l1, l2, by rw [← q1.length, ← q2.length]; exact sumLen_le hz, Don.lst w (q1.append q2) h⟩
        · exact h.elim
      · exact h.elim
    | _ => exact h.elim
  | _ => exact h.elim
def subD : D → D → Mem → O
  | .int i, .int j, μ => some (.int (i - j), μ)
  | .bl a, .int j, μ => some (.int ((if a = true then 1 else 0) - j), μ)
  | _, _, _ => none
theorem sub_ok : OpR X (binaryOp .Sub) (r2 (gx X T) subD) := by
  intro pins s σ H x y v u Q I rx ry h
  obtain ⟨d, e, μ, ι, w, rd, re, h⟩ := h
  cases d with
  | int i =>
    cases e with
    | int j =>
      cases rd; cases re
      exact op_sub pins s σ H _ _ v u Q I rx ry ⟨i, j, rfl, rfl, Don.val w (.int _) h⟩
    | _ => exact h.elim
  | bl b =>
    cases e with
    | int j =>
      cases rd; cases re
      exact op_sub_bl pins s σ H _ _ v u Q I rx ry ⟨b, j, rfl, rfl, Don.val w (.int _) h⟩
    | _ => exact h.elim
  | _ => exact h.elim
def mulD : D → D → Mem → O
  | .int i, .int j, μ => if i.natAbs.log2 + j.natAbs.log2 < 1000000 then some (.int (i * j), μ) else none
  | .tup xs, .int k, μ => if -1000 ≤ k ∧ k ≤ 1000 ∧ xs.length ≤ 1000 then some (.tup (List.replicate k.toNat xs).flatten, μ) else none
  | .loc a, .int k, μ => match lstAt μ a with
    | some xs => if 0 ≤ k ∧ k ≤ 1000 ∧ xs.length ≤ 1000 then some (.loc μ.length, μ ++ [.lst (List.replicate k.toNat xs).flatten]) else none
    | none => none
  | _, _, _ => none
theorem mul_ok : OpR X (binaryOp .Mult) (r2 (gx X T) mulD) := by
  intro pins s σ H x y v u Q I rx ry h
  obtain ⟨d, e, μ, ι, w, rd, re, h⟩ := h
  have hs : sizeLine = 16777216 := sizeLine_eq
  cases d with
  | int i =>
    cases e with
    | int j =>
      cases rd; cases re
      unfold mulD at h
      dsimp only at h
      split at h
      · rename_i hz
        exact op_mulW pins s σ H _ _ v u Q I rx ry ⟨i, j, rfl, rfl, hz, Don.val w (.int _) h⟩
      · exact h.elim
    | _ => exact h.elim
  | tup ds =>
    cases e with
    | int k =>
      cases rd with
      | @tup a vs _ h1 q1 =>
      cases re
      unfold mulD at h
      dsimp only at h
      split at h
      · rename_i hz
        have hl := q1.length
        by_cases hk : 2 ≤ k ∧ vs ≠ []
        · exact op_repT pins s σ H _ _ v u Q I rx ry ⟨a, k, vs, rfl, rfl, h1, hk.2, hk.1, hz.2.1, by omega, Don.tup w (q1.rep _) h⟩
        · by_cases hv : vs = []
          · subst hv
            cases q1
            have e : (List.replicate k.toNat ([] : List D)).flatten = [] := by simp
            rw [e] at h
            exact op_rep1 pins s σ H _ _ v u Q I rx ry ⟨a, k, [], rfl, rfl, h1, hz.1, hz.2.1, .inl rfl, Don.val w (.tup h1 .nil) h⟩
          · have hk2 : k < 2 := by
              by_cases z : 2 ≤ k
              · exact absurd ⟨z, hv⟩ hk
              · omega
            by_cases h1k : k = 1
            · subst h1k
              have e : (List.replicate (1 : Int).toNat ds).flatten = ds := by simp
              rw [e] at h
              exact op_rep1 pins s σ H _ _ v u Q I rx ry ⟨a, 1, vs, rfl, rfl, h1, by omega, by omega, .inr rfl, Don.val w (.tup h1 q1) h⟩
            · have e : k.toNat = 0 := by omega
              rw [e] at h
              exact op_rep0 pins s σ H _ _ v u Q I rx ry ⟨a, k, vs, rfl, rfl, h1, hz.1, by omega, hv, Don.tup w .nil h⟩
      · exact h.elim
    | _ => exact h.elim
  | loc n =>
    cases e with
    | int k =>
      cases re
      unfold mulD at h
      dsimp only at h
      split at h
      · rename_i xs e1
        split at h
        · rename_i hz
          obtain ⟨a, vs, rfl, i1, l1, q1⟩ := w.lst rd (lstAt_some e1)
          have hl := q1.length
          refine op_rep pins s σ H _ _ v u Q I rx ry ⟨a, k, vs, rfl, rfl, l1, by omega, by omega, ?_, Don.lst w (q1.rep _) h⟩
          have h2 : k.toNat ≤ 1000 := by omega
          have := Nat.mul_le_mul (show vs.length ≤ 1000 by omega) h2
          omega
        · exact h.elim
      · exact h.elim
    | _ => exact h.elim
  | _ => exact h.elim
def modD : D → D → Mem → O
  | .int i, .int j, μ => if 0 < j then some (.int (i % j), μ) else none
  | _, _, _ => none
theorem mod_ok : OpR X (binaryOp .Mod) (r2 (gx X T) modD) := by
  intro pins s σ H x y v u Q I rx ry h
  obtain ⟨d, e, μ, ι, w, rd, re, h⟩ := h
  cases d with
  | int i =>
    cases e with
    | int j =>
      cases rd; cases re
      unfold modD at h
      dsimp only at h
      split at h
      · rename_i hz
        exact op_mod pins s σ H _ _ v u Q I rx ry ⟨i, j, rfl, rfl, hz, Don.val w (.int _) h⟩
      · exact h.elim
    | _ => exact h.elim
  | _ => exact h.elim
def divD : D → D → Mem → O
  | .int i, .int j, μ => if 0 < j ∧ j.natAbs < 1073741824 then some (.int (i / j), μ) else none
  | _, _, _ => none
theorem div_ok : OpR X (binaryOp .FloorDiv) (r2 (gx X T) divD) := by
  intro pins s σ H x y v u Q I rx ry h
  obtain ⟨d, e, μ, ι, w, rd, re, h⟩ := h
  cases d with
  | int i =>
    cases e with
    | int j =>
      cases rd; cases re
      unfold divD at h
      dsimp only at h
      split at h
      · rename_i hz
        exact op_fdiv pins s σ H _ _ v u Q I rx ry ⟨i, j, rfl, rfl, ⟨hz.1, by omega⟩, Don.val w (.int _) h⟩
      · exact h.elim
    | _ => exact h.elim
  | _ => exact h.elim
def powD : D → D → Mem → O
  | .int i, .int j, μ => if 0 ≤ j ∧ j ≤ 1000 ∧ 0 ≤ i ∧ i ≤ 1000 then some (.int (i ^ j.toNat), μ) else none
  | _, _, _ => none
theorem pow_ok : OpR X (binaryOp .Pow) (r2 (gx X T) powD) := by
  intro pins s σ H x y v u Q I rx ry h
  obtain ⟨d, e, μ, ι, w, rd, re, h⟩ := h
  cases d with
  | int i =>
    cases e with
    | int j =>
      cases rd; cases re
      unfold powD at h
      dsimp only at h
      split at h
      · rename_i hz
        exact op_pow pins s σ H _ _ v u Q I rx ry ⟨i, j, rfl, rfl, ⟨hz.1, by omega, by omega⟩, Don.val w (.int _) h⟩
      · exact h.elim
    | _ => exact h.elim
  | _ => exact h.elim
def binD : Operator → D → D → Mem → O
  | .Add => addD | .Sub => subD | .Mult => mulD | .Mod => modD | .FloorDiv => divD | .Pow => powD
  | _ => fun _ _ _ => none
theorem bin_ok (op : Operator) : OpR X (binaryOp op) (r2 (gx X T) (binD op)) := by
  cases op with
  | Add => exact add_ok
  | Sub => exact sub_ok
  | Mult => exact mul_ok
  | Mod => exact mod_ok
  | FloorDiv => exact div_ok
  | Pow => exact pow_ok
  | _ =>
    intro pins s σ H x y v u Q I rx ry h
    obtain ⟨d, e, μ, ι, w, rd, re, h⟩ := h
    exact h.elim

/-! ### comparisons -/
def mapO (f : D → Option PyData) : List D → Option (List PyData)
  | [] => some []
  | x :: xs => match f x, mapO f xs with
    | some y, some ys => some (y :: ys)
    | _, _ => none
/-- a value as data, the lists as they stand -/
def toPyN (μ : Mem) : Nat → D → Option PyData
  | 0, _ => none
  | k + 1, d => match d with
    | .non => some .none
    | .bl b => some (.bool b)
    | .int i => some (.int i)
    | .str x => some (.str x)
    | .tup xs => (mapO (toPyN μ k) xs).map .tuple
    | .fl xs => (mapO (toPyN μ k) xs).map .list
    | .loc n => match lstAt μ n with
      | some xs => (mapO (toPyN μ k) xs).map .list
      | none => none
    | _ => none
def toPyM (μ : Mem) (d : D) : Option PyData := toPyN μ 12 d
theorem mapO_dp {K : PySem.W.Frag} {mg T} {f : D → Option PyData} (h : ∀ {d : D} {v : V} {p : PyData}, RelD ⟨K, mg, T⟩ ι H d v → f d = some p → Dp K H v p) : ∀ {ds : List D} {vs : List V} {ps : List PyData}, RelDs ⟨K, mg, T⟩ ι H ds vs → mapO f ds = some ps → DpAll K H vs ps
  | [], _, _, .nil, e => by cases e; exact .nil
  | d :: ds, _, _, .cons r rs, e => by
    unfold mapO at e
    split at e
    · rename_i y ys e1 e2
      cases e
      exact .cons (h r e1) (mapO_dp h rs e2)
    · cases e
theorem toPyN_dp {K : PySem.W.Frag} {mg T} (w : Wd ⟨K, mg, T⟩ ι μ H) : ∀ k {d : D} {v : V} {p : PyData}, RelD ⟨K, mg, T⟩ ι H d v → toPyN μ k d = some p → Dp K H v p
  | 0, _, _, _, _, h => by cases h
  | k + 1, d, v, p, r, h => by
    unfold toPyN at h
    cases r with
    | non => cases h; exact .non
    | bl b => cases h; exact .bl b
    | int i => cases h; exact .int i
    | str x => cases h; exact .str x
    | tup h1 q =>
      dsimp only at h
      rename_i a vs ds
      cases e : mapO (toPyN μ k) ds with
      | none => rw [e] at h; cases h
      | some ys => rw [e] at h; cases h; exact .tup h1 (mapO_dp (toPyN_dp w k) q e)
    | fl h1 q =>
      dsimp only at h
      rename_i a vs ds
      cases e : mapO (toPyN μ k) ds with
      | none => rw [e] at h; cases h
      | some ys => rw [e] at h; cases h; exact .lst h1.sq (mapO_dp (toPyN_dp w k) q e)
    | loc hn =>
      dsimp only at h
      split at h
      · rename_i xs e
        obtain ⟨a, vs, e1, _, l, q⟩ := w.lst (.loc hn) (lstAt_some e)
        cases e1
        cases e2 : mapO (toPyN μ k) xs with
        | none => rw [e2] at h; cases h
        | some ys => rw [e2] at h; cases h; exact .lst (SqL.of l) (mapO_dp (toPyN_dp w k) q e2)
      · cases h
    | gl _ => cases h
    | rw _ => cases h
theorem toPyM_dp {K : PySem.W.Frag} {mg T} {d : D} {v : V} {p : PyData} (w : Wd ⟨K, mg, T⟩ ι μ H) (r : RelD ⟨K, mg, T⟩ ι H d v) (h : toPyM μ d = some p) : Dp K H v p := toPyN_dp w 12 r h
def eqM (μ : Mem) (d e : D) : Option Bool := match toPyM μ d, toPyM μ e with
  | some a, some b => if SeqAt.shaped a && SeqAt.shaped b then some (PyData.eqv a b) else none
  | _, _ => none
def eqD : D → D → Mem → O := fun d e μ => (eqM μ d e).map fun b => (.bl b, μ)
def neD : D → D → Mem → O := fun d e μ => (eqM μ d e).map fun b => (.bl (!b), μ)
theorem eqM_some {μ : Mem} {d e : D} {b : Bool} (h : eqM μ d e = some b) : ∃ p q, toPyM μ d = some p ∧ toPyM μ e = some q ∧ SeqAt.shaped p = true ∧ SeqAt.shaped q = true ∧ b = PyData.eqv p q := by
  unfold eqM at h
  split at h
  · rename_i p q e1 e2
    split at h
    · rename_i hs
      rw [Bool.and_eq_true] at hs
      cases h
      exact ⟨p, q, e1, e2, hs.1, hs.2, rfl⟩
    · cases h
  · cases h
theorem eq_ok (hu : X.A.units + 64 < cLine) : OpR X (compareOp .Eq) (r2 (gx X T) eqD) := by
  intro pins s σ H x y v u Q I rx ry h
  obtain ⟨d, e, μ, ι, w, rd, re, h⟩ := h
  unfold eqD at h
  cases hb : eqM μ d e with
  | none => rw [hb] at h; exact h.elim
  | some b =>
    rw [hb] at h
    obtain ⟨p, q, e1, e2, s1, s2, rfl⟩ := eqM_some hb
    exact op_eqD hu pins s σ H _ _ v u Q I rx ry ⟨p, q, toPyM_dp w rd e1, toPyM_dp w re e2, s1, s2, Don.val w (.bl _) h⟩
theorem ne_ok (hu : X.A.units + 64 < cLine) : OpR X (compareOp .NotEq) (r2 (gx X T) neD) := by
  intro pins s σ H x y v u Q I rx ry h
  obtain ⟨d, e, μ, ι, w, rd, re, h⟩ := h
  unfold neD at h
  cases hb : eqM μ d e with
  | none => rw [hb] at h; exact h.elim
  | some b =>
    rw [hb] at h
    obtain ⟨p, q, e1, e2, s1, s2, rfl⟩ := eqM_some hb
    exact op_neD hu pins s σ H _ _ v u Q I rx ry ⟨p, q, toPyM_dp w rd e1, toPyM_dp w re e2, s1, s2, Don.val w (.bl _) h⟩
def intCmp (f : Int → Int → Bool) : D → D → Mem → O
  | .int i, .int j, μ => some (.bl (f i j), μ)
  | _, _, _ => none
theorem int_ok {op : CmpOp} {f : Int → Int → Bool} (h0 : OpR X (compareOp op) (rI0 fun i j => .bl (f i j))) : OpR X (compareOp op) (r2 (gx X T) (intCmp f)) := by
  intro pins s σ H x y v u Q I rx ry h
  obtain ⟨d, e, μ, ι, w, rd, re, h⟩ := h
  cases d with
  | int i =>
    cases e with
    | int j =>
      cases rd; cases re
      exact h0 pins s σ H _ _ v u Q I rx ry ⟨i, j, rfl, rfl, Don.val w (.bl _) h⟩
    | _ => exact h.elim
  | _ => exact h.elim
/-- is None -/
def isNone : D → Bool
  | .non => true
  | _ => false
theorem isNone_rel {d : D} {v : V} (r : RelD G ι H d v) : decide (v = .non) = isNone d := by
  cases r <;> rfl
def isD : D → D → Mem → O
  | d, .non, μ => some (.bl (isNone d), μ)
  | _, _, _ => none
def isNotD : D → D → Mem → O
  | d, .non, μ => some (.bl (!isNone d), μ)
  | _, _, _ => none
theorem is_ok : OpR X (compareOp .Is) (r2 (gx X T) isD) := by
  intro pins s σ H x y v u Q I rx ry h
  obtain ⟨d, e, μ, ι, w, rd, re, h⟩ := h
  cases e with
  | non =>
    cases re
    exact op_isN pins s σ H _ _ v u Q I rx ry ⟨rfl, by rw [isNone_rel rd]; exact Don.val w (.bl _) h⟩
  | _ => exact (show False from by cases d <;> exact h).elim
theorem isnot_ok : OpR X (compareOp .IsNot) (r2 (gx X T) isNotD) := by
  intro pins s σ H x y v u Q I rx ry h
  obtain ⟨d, e, μ, ι, w, rd, re, h⟩ := h
  cases e with
  | non =>
    cases re
    exact op_notN pins s σ H _ _ v u Q I rx ry ⟨rfl, by rw [isNone_rel rd]; exact Don.val w (.bl _) h⟩
  | _ => exact (show False from by cases d <;> exact h).elim
end
end Ev

set_option Elab.async false
set_option linter.all false
set_option maxRecDepth 100000
set_option maxHeartbeats 4000000
namespace Ev
open PySem PySem.Spec PyProof.Rows L2
/-! ### the model's road, with the count of keys kept -/
section
variable {prog : Program} {w : World} {A : Around} {E : Value → Shared → Prop} {s : Shared}
/-- at d stands a dict with these entries -/
def DctH (prog : Program) (w : World) (kn : Bool) (h : Heap) (d : Addr) (xs : List (NestedKey × Addr × Value)) : Prop :=
  ∃ o es ep, h.get? d = some o ∧ o.ExactDict ∧ o.data = .dict es ep ∧ es.toList = xs.map (entV w) ∧ (∀ x ∈ xs, (nestedKind prog w).is h x.1 x.2.1) ∧ (xs.map (·.1)).Nodup ∧ (kn = true → ep = es.size)
theorem DctH.of {kn : Bool} {h : Heap} {d : Addr} {xs : List (NestedKey × Addr × Value)} (x : DctH prog w kn h d xs) : h.DictOfH (nestedKind prog w) d xs :=
  let ⟨o, es, ep, h1, h2, h3, h4, h5, h6, _⟩ := x; ⟨o, es, ep, h1, h2, h3, h4, h5, h6⟩
theorem dictSet_ep {kn : Bool} {d a : Addr} {xs : List (NestedKey × Addr × Value)} {k : NestedKey} {v : Value} {Q : Unit → Shared → Prop} (hu : (nestedKind prog w).room A) (hkey : (nestedKind prog w).is s.heap k a) (hm : DctH prog w kn s.heap d xs)
    (hQ : ∀ h' tk, DctH prog w kn h' d (storedH xs k a v) → Heap.SameBut d s.heap h' → Q () { s with heap := h', toks := tk })
    (hsz : xs.length ≤ sizeLine) : wpAny (model prog w) A (dictSet d (.ref a) v) Q E s := by
  obtain ⟨o, es, ep, ho, hc, hd, he, his, hn, hk⟩ := hm
  have he' : es.toList = xs.map (entryOfKey (nestedKind prog w)) := he
  unfold dictSet
  try with_reducible refine wpAny_holding ?_
  refine wpAny_bind ((nestedKind prog w).pyHash hu hkey ?_)
  unfold dictSetHashed
  try with_reducible refine wpAny_holding ?_
  refine wpAny_bind (wpAny_dictFind_heap (s := { s with toks := s.toks + (nestedKind prog w).draws k }) hu hkey ho hd he' his hn ?_ ?_)
  · intro hno
    have hnot : k ∉ xs.map (·.1) := not_mem_keys_of_get hno
    refine wpAny_bind (wpAny_rule (wpAny_updateDictKeys (hz := by have e := size_of_entries he'; omega) (s := { s with toks := s.toks + (nestedKind prog w).draws k }) ho hd (hQ _ _ ⟨_, _, ep + 1, Heap.get?_update_self _ ho (Obj.isFreed_of_dict (Obj.data_mapDictKeys hd _)),
      hc.mapDictKeys _, Obj.data_mapDictKeys hd _, ?_, ?_, ?_, ?_⟩ (Heap.SameBut.update ..))))
    · rw [storedH_new (atKey_none_of_get hno)]
      simp [he', entryOfKey, entV, nestedKind]
    · rw [storedH_new (atKey_none_of_get hno)]
      intro x hx
      rcases List.mem_append.mp hx with hx | hx
      · exact (nestedKind prog w).keeps (his x hx) ho hd (Heap.SameBut.update ..)
      · simp only [List.mem_singleton] at hx
        subst hx
        exact (nestedKind prog w).keeps hkey ho hd (Heap.SameBut.update ..)
    · rw [storedH_new (atKey_none_of_get hno)]
      rw [List.map_append, List.nodup_append]
      refine ⟨hn, by simp, ?_⟩
      intro x hx y hy
      simp only [List.map_cons, List.map_nil, List.mem_singleton] at hy
      subst hy
      exact fun e => hnot (e ▸ hx)
    · intro q
      rw [hk q]
      simp
  · intro j p hj
    refine wpAny_bind (wpAny_rule (wpAny_bind (wpAny_updateDict (s := { s with toks := s.toks + (nestedKind prog w).draws k }) ho hd (wpAny_point (hQ _ _ ⟨_, _, ep, Heap.get?_update_self _ ho (Obj.isFreed_of_dict (Obj.data_mapDict hd _)),
      hc.mapDict _, Obj.data_mapDict hd _, ?_, ?_, ?_, ?_⟩ (Heap.SameBut.update ..))))))
    · rw [storedH_old (atKey_of_get hn hj)]
      have := modify_map_putAt (entryOfKey (nestedKind prog w)) (fun e : DictEntry => { e with val := v }) k v (fun _ _ => rfl) hn hj
      rw [← he'] at this
      obtain ⟨l⟩ := es
      show _ = List.map (entryOfKey (nestedKind prog w)) _
      simpa using this
    · rw [storedH_old (atKey_of_get hn hj)]
      intro x hx
      obtain ⟨y, hy, rfl⟩ := List.mem_map.mp hx
      have h1 : (putAt k v y).1 = y.1 ∧ (putAt k v y).2.1 = y.2.1 := by unfold putAt; split <;> exact ⟨rfl, rfl⟩
      rw [h1.1, h1.2]
      exact (nestedKind prog w).keeps (his y hy) ho hd (Heap.SameBut.update ..)
    · rw [storedH_old (atKey_of_get hn hj), keys_map_putAt]
      exact hn
    · intro q
      rw [hk q]
      simp
theorem setItem_ep {kn : Bool} {d a : Addr} {xs : List (NestedKey × Addr × Value)} {k : NestedKey} {v : Value} {Q : Unit → Shared → Prop} (hu : (nestedKind prog w).room A.in1) (hkey : (nestedKind prog w).is s.heap k a) (hm : DctH prog w kn s.heap d xs)
    (hQ : ∀ h' tk, DctH prog w kn h' d (storedH xs k a v) → Heap.SameBut d s.heap h' → Q () { s with heap := h', toks := tk })
    (hsz : xs.length ≤ sizeLine) : wpAny (model prog w) A (setItem (.ref d) (.ref a) v) Q E s := by
  have ty := hm.of.typeIs
  unfold setItem
  try with_reducible refine wpAny_holding ?_
  refine wpAny_bind (wpAny_sequenceKey ty (by decide) ?_)
  refine wpAny_bind (wpAny_callSpecial?_slot (name := Str.ofString "__setitem__") ty slot_dict_setitem
    (wpAny_call_entry slot_dict_setitem ty entry_dict_setitem ?_ (args_dict_setitem _ _ _)))
  show wpAny _ _ (Builtin.Dict.notOrdered "__setitem__" ⟨[.ref d, .ref a, v], []⟩ >>= _) _ _ s
  refine wpAny_bind (wpAny_notOrdered_dict ty ?_)
  show wpAny _ _ (dictSet d (.ref a) v >>= _) _ _ s
  exact wpAny_bind (dictSet_ep hu hkey hm (fun h' tk hm' hs' => wpAny_pure ⟨.none, rfl, wpAny_pure (hQ h' tk hm' hs')⟩) hsz)
end
/-! ### the store's dicts -/
def dGet (kvs : List (NestedKey × D × D)) (k : NestedKey) : Option D := match kvs with
  | [] => none
  | p :: r => if p.1 = k then some p.2.2 else dGet r k
def dHas (kvs : List (NestedKey × D × D)) (k : NestedKey) : Bool := (dGet kvs k).isSome
def dRep (k : NestedKey) (v : D) (p : NestedKey × D × D) : NestedKey × D × D := if p.1 = k then (p.1, p.2.1, v) else p
def dPut (kvs : List (NestedKey × D × D)) (k : NestedKey) (kd v : D) : List (NestedKey × D × D) := if dHas kvs k then kvs.map (dRep k v) else kvs ++ [(k, kd, v)]
def xRep (k : NestedKey) (v : V) (p : NestedKey × Addr × V) : NestedKey × Addr × V := if p.1 = k then (p.1, p.2.1, v) else p
def xPut (b : Bool) (xs : List (NestedKey × Addr × V)) (k : NestedKey) (a : Addr) (v : V) : List (NestedKey × Addr × V) := if b then xs.map (xRep k v) else xs ++ [(k, a, v)]
section
variable {G : Gc} {ι : List Addr} {H : Hp}
theorem at_rel : ∀ {kvs : List (NestedKey × D × D)} {xs : List (NestedKey × Addr × V)} {vs : List (NestedKey × Addr × Value)}, kvs.map (·.1) = xs.map (·.1) → RelDs G ι H (kvs.map (·.2.2)) (xs.map (·.2.2)) → EntR xs vs → ∀ k,
    match dGet kvs k, atKey vs k with
    | some d, some p => ∃ v, RelD G ι H d v ∧ RelV v p.2
    | none, none => True
    | _, _ => False
  | [], [], _, _, _, .nil, k => by simp [dGet, atKey]
  | p :: kvs, x :: xs, y :: ys, e, r, .cons q t, k => by
    simp only [List.map_cons, List.cons.injEq] at e
    cases r with
    | cons r1 r2 =>
      have ih := at_rel (kvs := kvs) (xs := xs) e.2 r2 t k
      unfold dGet
      by_cases hk : p.1 = k
      · rw [if_pos hk]
        have hy : y.1 = k := by rw [← q.1, ← e.1]; exact hk
        simp only [atKey, List.find?_cons, hy, decide_true, Option.map_some]
        exact ⟨_, r1, q.2.2⟩
      · rw [if_neg hk]
        have hy : ¬ y.1 = k := by rw [← q.1, ← e.1]; exact hk
        have : atKey (y :: ys) k = atKey ys k := by simp only [atKey, List.find?_cons, hy, decide_false]
        rw [this]
        exact ih
  | [], _ :: _, _, e, _, _, _ => by simp at e
  | _ :: _, [], _, e, _, _, _ => by simp at e
theorem ent_put {k : NestedKey} {a : Addr} {v : V} {u : Value} (rv : RelV v u) {b : Bool} : ∀ {xs : List (NestedKey × Addr × V)} {vs : List (NestedKey × Addr × Value)}, EntR xs vs → (atKey vs k).isSome = b → EntR (xPut b xs k a v) (storedH vs k a u) := by
  intro xs vs r hb
  unfold xPut storedH
  rw [hb]
  cases b with
  | true =>
    simp only [if_true]
    clear hb
    induction r with
    | nil => exact .nil
    | cons q t ih =>
      rename_i x y xs ys
      refine .cons ?_ ih
      unfold xRep putAt
      by_cases hk : x.1 = k
      · rw [if_pos hk, if_pos (by rw [← q.1]; exact hk)]
        exact ⟨q.1, q.2.1, rv⟩
      · rw [if_neg hk, if_neg (by rw [← q.1]; exact hk)]
        exact q
  | false =>
    simp only [Bool.false_eq_true, if_false]
    clear hb
    induction r with
    | nil => exact .cons ⟨rfl, rfl, rv⟩ .nil
    | cons q t ih => exact .cons q ih
theorem RelDs.mapRep {k : NestedKey} {d : D} {v : V} (r : RelD G ι H d v) : ∀ {kvs : List (NestedKey × D × D)} {xs : List (NestedKey × Addr × V)}, kvs.map (·.1) = xs.map (·.1) → RelDs G ι H (kvs.map (·.2.2)) (xs.map (·.2.2)) → RelDs G ι H ((kvs.map (dRep k d)).map (·.2.2)) ((xs.map (xRep k v)).map (·.2.2))
  | [], [], _, _ => .nil
  | p :: kvs, x :: xs, e, q => by
    simp only [List.map_cons, List.cons.injEq] at e
    cases q with
    | cons r1 r2 =>
      refine .cons ?_ (RelDs.mapRep r e.2 r2)
      unfold dRep xRep
      by_cases hk : p.1 = k
      · rw [if_pos hk, if_pos (by rw [← e.1]; exact hk)]; exact r
      · rw [if_neg hk, if_neg (by rw [← e.1]; exact hk)]; exact r1
  | [], _ :: _, e, _ => by simp at e
  | _ :: _, [], e, _ => by simp at e
theorem dRep_1 {k : NestedKey} {d : D} (p : NestedKey × D × D) : (dRep k d p).1 = p.1 ∧ (dRep k d p).2.1 = p.2.1 := by unfold dRep; split <;> exact ⟨rfl, rfl⟩
theorem xRep_1 {k : NestedKey} {d : V} (p : NestedKey × Addr × V) : (xRep k d p).1 = p.1 ∧ (xRep k d p).2.1 = p.2.1 := by unfold xRep; split <;> exact ⟨rfl, rfl⟩
theorem dGet_none {kvs : List (NestedKey × D × D)} {k : NestedKey} (h : dHas kvs k = false) : k ∉ kvs.map (·.1) := by
  unfold dHas at h
  induction kvs with
  | nil => simp
  | cons p r ih =>
    unfold dGet at h
    split at h
    · cases h
    · rename_i hk
      simp only [List.map_cons, List.mem_cons, not_or]
      exact ⟨fun e => hk e.symm, ih h⟩
theorem RelK.put {kvs : List (NestedKey × D × D)} {xs : List (NestedKey × Addr × V)} {k : NestedKey} {kd vd : D} {a : Addr} {v : V} (r : RelK G ι H kvs xs) (rk : RelD G ι H kd (.ref a)) (hk : nkD kd = some k) (hd : k.depth ≤ 8) (rv : RelD G ι H vd v) (hl : kvs.length < sizeLine) :
    RelK G ι H (dPut kvs k kd vd) (xPut (dHas kvs k) xs k a v) := by
  unfold dPut xPut
  cases hb : dHas kvs k with
  | true =>
    simp only [if_true]
    have e1 : (kvs.map (dRep k vd)).map (·.1) = kvs.map (·.1) := by rw [List.map_map]; exact List.map_congr_left fun p _ => (dRep_1 p).1
    have e2 : (xs.map (xRep k v)).map (·.1) = xs.map (·.1) := by rw [List.map_map]; exact List.map_congr_left fun p _ => (xRep_1 p).1
    refine ⟨by rw [e1, e2]; exact r.keys, ?_, RelDs.mapRep rv r.keys r.vd, fun p hp => ?_, by rw [e1]; exact r.nd, by rw [List.length_map]; exact r.len⟩
    · have e3 : (kvs.map (dRep k vd)).map (·.2.1) = kvs.map (·.2.1) := by rw [List.map_map]; exact List.map_congr_left fun p _ => (dRep_1 p).2
      have e4 : ((xs.map (xRep k v)).map fun x => V.ref x.2.1) = xs.map fun x => V.ref x.2.1 := by rw [List.map_map]; exact List.map_congr_left fun p _ => by simp [(xRep_1 p).2]
      rw [e3, e4]
      exact r.kd
    · obtain ⟨q, hq, rfl⟩ := List.mem_map.mp hp
      rw [(dRep_1 q).1, (dRep_1 q).2]
      exact r.nk q hq
  | false =>
    simp only [Bool.false_eq_true, if_false]
    refine ⟨by simp [r.keys], ?_, ?_, fun p hp => ?_, ?_, by simp; omega⟩
    · rw [List.map_append, List.map_append]
      exact r.kd.append (.cons rk .nil)
    · rw [List.map_append, List.map_append]
      exact r.vd.append (.cons rv .nil)
    · rcases List.mem_append.mp hp with h | h
      · exact r.nk p h
      · rw [List.mem_singleton.mp h]
        exact ⟨hk, hd⟩
    · rw [List.map_append, List.nodup_append]
      refine ⟨r.nd, by simp, fun x hx y hy => ?_⟩
      simp only [List.map_cons, List.map_nil, List.mem_singleton] at hy
      subst hy
      exact fun e => dGet_none hb (e ▸ hx)
end
section
variable {X : Cx} {pins : List (Addr × Obj)} {σ : St} {H : Hp} {s : Shared} {T : TX} {ι : List Addr} {μ : Mem}
mutual
theorem nk_is (I : Inv X pins σ H s) : ∀ {d : D} {v : V} {u : Value} {k : NestedKey}, RelD (gx X T) ι H d v → nkD d = some k → RelV v u → NestedIs s.heap k u
  | _, _, u, k, .non, h, r => by cases h; cases (show u = Value.none from r); exact .none
  | _, _, u, k, .bl b, h, r => by cases h; cases (show u = Value.bool b from r); exact .bool rfl
  | _, _, u, k, .int i, h, r => by
    cases h
    obtain ⟨t, rfl⟩ := (show ∃ t, u = Value.int i t from r)
    exact .int _ _
  | _, _, u, k, .str x, h, r => by
    cases h
    obtain ⟨t, rfl⟩ := (show ∃ t, u = Value.str x t from r)
    exact .text _ _
  | .tup ds, _, u, k, .tup (a := a) hs q, h, r => by
    unfold nkD at h
    cases e : nkDs ds with
    | none => rw [e] at h; cases h
    | some ks =>
      rw [e] at h
      cases h
      obtain ⟨its, r1, ⟨o, ho, hc, n, hd⟩, _⟩ := I.tuple hs
      cases (show u = Value.ref a from r)
      exact .tup ho hc hd (by simpa using nks_is I q e r1)
  | _, _, _, _, .fl _ _, h, _ => by cases h
  | _, _, _, _, .loc _, h, _ => by cases h
  | _, _, _, _, .gl _, h, _ => by cases h
  | _, _, _, _, .rw _, h, _ => by cases h
theorem nks_is (I : Inv X pins σ H s) : ∀ {ds : List D} {vs : List V} {us : List Value} {ks : List NestedKey}, RelDs (gx X T) ι H ds vs → nkDs ds = some ks → Vals vs us → NestedAll s.heap ks us
  | _, _, _, _, .nil, h, .nil => by cases h; exact .nil
  | d :: ds, _, _, _, .cons q qs, h, .cons r rs => by
    unfold nkDs at h
    split at h
    · rename_i k ks e1 e2
      cases h
      exact .cons (nk_is I q e1 r) (nks_is I qs e2 rs)
    · cases h
end
def dctAt (μ : Mem) (n : Nat) : Option (Bool × List (NestedKey × D × D)) := match μ[n]? with
  | some (.dct kn kvs) => some (kn, kvs)
  | _ => none
theorem dctAt_some {n : Nat} {kn : Bool} {kvs : List (NestedKey × D × D)} (h : dctAt μ n = some (kn, kvs)) : μ[n]? = some (.dct kn kvs) := by
  unfold dctAt at h
  split at h
  · rename_i q; cases h; exact q
  · cases h
theorem Wd.dct (w : Wd (gx X T) ι μ H) {n : Nat} {v : V} {kn : Bool} {kvs : List (NestedKey × D × D)} (r : RelD (gx X T) ι H (.loc n) v) (h : dctAt μ n = some (kn, kvs)) :
    ∃ a xs, v = .ref a ∧ ι[n]? = some a ∧ H a = some (dctO T.w kn a xs) ∧ (a == sysModules) = false ∧ RelK (gx X T) ι H kvs xs := by
  cases r with
  | @loc _ a hn =>
    obtain ⟨xs, e, q, rk⟩ := w.ob n a _ hn (dctAt_some h)
    exact ⟨a, xs, rfl, hn, e, q, rk⟩
theorem ent_get : ∀ {xs : List (NestedKey × Addr × V)} {vs : List (NestedKey × Addr × Value)} {i : Nat} {x : NestedKey × Addr × Value}, EntR xs vs → vs[i]? = some x → ∃ y, xs[i]? = some y ∧ y.1 = x.1 ∧ y.2.1 = x.2.1 ∧ RelV y.2.2 x.2.2
  | _, _, i, _, .nil, h => by simp at h
  | _, _, 0, x, .cons q t, h => by simp at h; subst h; exact ⟨_, rfl, q.1, q.2.1, q.2.2⟩
  | _, _, i + 1, x, .cons q t, h => by simpa using ent_get t (by simpa using h)
theorem ent_keys : ∀ {xs : List (NestedKey × Addr × V)} {vs : List (NestedKey × Addr × Value)}, EntR xs vs → vs.map (·.1) = xs.map (·.1)
  | _, _, .nil => rfl
  | _, _, .cons q t => by rw [List.map_cons, List.map_cons, ent_keys t, q.1]
theorem dct_at (wt : T.w = X.w) (I : Inv X pins σ H s) {a : Addr} {kn : Bool} {kvs : List (NestedKey × D × D)} {xs : List (NestedKey × Addr × V)} (e : H a = some (dctO T.w kn a xs)) (rk : RelK (gx X T) ι H kvs xs) :
    ∃ vs, EntR xs vs ∧ DctH X.prog X.w kn s.heap a vs := by
  obtain ⟨⟨o, es, ep, vs, h1, h2, h3, h4, h5, h6⟩, _⟩ := (show ObjOk X.prog X.w H s.heap a (dctO T.w kn a xs) from I.hok a _ e)
  rw [wt] at h5
  refine ⟨vs, h4, o, es, ep, h1, h2, h3, h5, fun x hx => ?_, ?_, h6⟩
  · obtain ⟨i, hi⟩ := List.mem_iff_getElem?.mp hx
    obtain ⟨y, hy, e1, e2, _⟩ := ent_get h4 hi
    have hk : (kvs.map (·.1))[i]? = some y.1 := by rw [rk.keys, List.getElem?_map, hy]; rfl
    rw [List.getElem?_map] at hk
    obtain ⟨p, hp, hp1⟩ := Option.map_eq_some_iff.mp hk
    obtain ⟨v, hv1, hv2⟩ := rk.kd.get (i := i) (d := p.2.1) (by rw [List.getElem?_map, hp]; rfl)
    rw [List.getElem?_map, hy] at hv1
    cases hv1
    obtain ⟨n1, n2⟩ := rk.nk p (List.mem_of_getElem? hp)
    rw [← e1, ← hp1, ← e2]
    exact ⟨nk_is I hv2 n1 rfl, n2⟩
  · rw [ent_keys h4, ← rk.keys]
    exact rk.nd
/-- a key -/
theorem key_is (I : Inv X pins σ H s) {d : D} {b : Addr} {k : NestedKey} (r : RelD (gx X T) ι H d (.ref b)) (h : nkD d = some k) (hd : k.depth ≤ 8) : (nestedKind X.prog X.w).is s.heap k b := ⟨nk_is I r h rfl, hd⟩
/-- a tuple as a key -/
def keyT : D → Option NestedKey
  | .tup ds => match nkD (.tup ds) with
    | some k => if k.depth ≤ 8 then some k else none
    | none => none
  | _ => none
theorem keyT_some {d : D} {k : NestedKey} (h : keyT d = some k) : nkD d = some k ∧ k.depth ≤ 8 ∧ ∃ ds, d = .tup ds := by
  unfold keyT at h
  split at h
  · split at h
    · rename_i e
      split at h
      · cases h; exact ⟨e, by assumption, _, rfl⟩
      · cases h
    · cases h
  · cases h
theorem room8 (hu : X.A.units + 64 < cLine) : (nestedKind X.prog X.w).room X.A.in1 := by
  show X.A.in1.units + 8 < cLine
  rw [Around.in1_units]
  omega
theorem op_in_dct (wt : T.w = X.w) (hu : X.A.units + 64 < cLine) (w : Wd (gx X T) ι μ H) (I : Inv X pins σ H s) {d : D} {n : Nat} {x y : V} {u v : Value} {k : NestedKey} {kn : Bool} {kvs : List (NestedKey × D × D)} {Q : Value → Shared → Prop} (rd : RelD (gx X T) ι H d x) (re : RelD (gx X T) ι H (.loc n) y) (rx : RelV x u) (ry : RelV y v) (hk : keyT d = some k) (hm : dctAt μ n = some (kn, kvs))
    (h : ∀ s', Inv X pins σ H s' → Q (.bool (dHas kvs k)) s') : wpAny (model X.prog X.w) X.A (compareOp .In u v) Q X.xe s := by
  obtain ⟨h1, h2, ds, rfl⟩ := keyT_some hk
  obtain ⟨a, xs, rfl, hn, e, hs, rk⟩ := w.dct re hm
  cases rd with
  | @tup b _ _ ht q =>
    obtain ⟨vs, ev, hd⟩ := dct_at wt I e rk
    cases (show v = Value.ref a from ry)
    cases (show u = Value.ref b from rx)
    refine wpAny_in_heap (room8 hu) (key_is I (.tup ht q) h1 h2) hs hd.of ?_
    have : (atKey vs k).isSome = dHas kvs k := by
      have := at_rel rk.keys rk.vd ev k
      unfold dHas
      cases h3 : dGet kvs k <;> cases h4 : atKey vs k <;> rw [h3, h4] at this <;> first | rfl | exact this.elim
    rw [this]
    exact h _ (I.tok _)
theorem op_nin_dct (wt : T.w = X.w) (hu : X.A.units + 64 < cLine) (w : Wd (gx X T) ι μ H) (I : Inv X pins σ H s) {d : D} {n : Nat} {x y : V} {u v : Value} {k : NestedKey} {kn : Bool} {kvs : List (NestedKey × D × D)} {Q : Value → Shared → Prop} (rd : RelD (gx X T) ι H d x) (re : RelD (gx X T) ι H (.loc n) y) (rx : RelV x u) (ry : RelV y v) (hk : keyT d = some k) (hm : dctAt μ n = some (kn, kvs))
    (h : ∀ s', Inv X pins σ H s' → Q (.bool (!dHas kvs k)) s') : wpAny (model X.prog X.w) X.A (compareOp .NotIn u v) Q X.xe s := by
  obtain ⟨h1, h2, ds, rfl⟩ := keyT_some hk
  obtain ⟨a, xs, rfl, hn, e, hs, rk⟩ := w.dct re hm
  cases rd with
  | @tup b _ _ ht q =>
    obtain ⟨vs, ev, hd⟩ := dct_at wt I e rk
    cases (show v = Value.ref a from ry)
    cases (show u = Value.ref b from rx)
    show wpAny _ _ (do return .bool (!(← contains (.ref a) (.ref b)))) Q _ s
    refine wpAny_bind (wpAny_contains_heap (room8 hu) (key_is I (.tup ht q) h1 h2) hs hd.of (wpAny_pure ?_))
    have : (atKey vs k).isSome = dHas kvs k := by
      have := at_rel rk.keys rk.vd ev k
      unfold dHas
      cases h3 : dGet kvs k <;> cases h4 : atKey vs k <;> rw [h3, h4] at this <;> first | rfl | exact this.elim
    rw [this]
    exact h _ (I.tok _)
theorem ix_dct (wt : T.w = X.w) (hu : X.A.units + 64 < cLine) (w : Wd (gx X T) ι μ H) (I : Inv X pins σ H s) {value slice : Expr} {d : D} {n : Nat} {x y : V} {u v : Value} {k : NestedKey} {kn : Bool} {kvs : List (NestedKey × D × D)} {z : D} {Q : VK} (rd : RelD (gx X T) ι H (.loc n) x) (re : RelD (gx X T) ι H d y) (rx : RelV x v) (ry : RelV y u) (hk : keyT d = some k) (hm : dctAt μ n = some (kn, kvs)) (hz : dGet kvs k = some z)
    (h : ∀ v1, RelD (gx X T) ι H z v1 → Q v1 H) (hs : subscripted slice false v u = operate [v, u] (getItem v u)) : wpAny (model X.prog X.w) X.A (subscriptTail value slice v u) (EP X pins σ Q) X.xe s := by
  obtain ⟨h1, h2, ds, rfl⟩ := keyT_some hk
  obtain ⟨a, xs, rfl, hn, e, hsm, rk⟩ := w.dct rd hm
  cases re with
  | @tup b _ _ ht q =>
    obtain ⟨vs, ev, hd⟩ := dct_at wt I e rk
    cases (show v = Value.ref a from rx)
    cases (show u = Value.ref b from ry)
    have hat := at_rel rk.keys rk.vd ev k
    rw [hz] at hat
    cases h4 : atKey vs k with
    | none => rw [h4] at hat; exact hat.elim
    | some p =>
      rw [h4] at hat
      obtain ⟨v1, r1, r2⟩ := hat
      refine subscriptTail_builtinR (x := p.2) hd.of.typeIs PySem.F.slot_dict_getitem.lookup (wpAny_getItem_heap (Q := fun r s' => r = p.2 ∧ EP X pins σ Q r s') (room8 hu) (key_is I (.tup ht q) h1 h2) hd.of h4 ⟨rfl, v1, H, I.tok _, r2, h v1 r1⟩) hs
theorem dctO_ok {P : Program} {w : World} {H' : Hp} {h : Heap} {a : Addr} {kn : Bool} {xs : List (NestedKey × Addr × V)} {vs : List (NestedKey × Addr × Value)} (e : EntR xs vs) (d : DctH P w kn h a vs) : ObjOk P w H' h a (dctO w kn a xs) := by
  obtain ⟨o, es, ep, h1, h2, h3, h4, _, _, h5⟩ := d
  exact ⟨⟨o, es, ep, vs, h1, h2, h3, e, h4, h5⟩, ⟨o, h1⟩, fun g1 g2 ⟨o, es, ep, vs, q1, q⟩ k => ⟨o, es, ep, vs, k _ q1, q⟩⟩
theorem dct_ne_code (I : Inv X pins σ H s) {a : Addr} {w : World} {kn : Bool} {xs : List (NestedKey × Addr × V)} (h : H a = some (dctO w kn a xs)) : ∀ q, H a ≠ some (LamX.CodeO a q) := fun q e => by
  obtain ⟨⟨o, es, ep, vs, h1, h2, h3, _⟩, _⟩ := (show ObjOk X.prog X.w H s.heap a (dctO w kn a xs) from I.hok a _ h)
  obtain ⟨⟨oc, ws, t, k1, k2, _⟩, _⟩ := (show ObjOk X.prog X.w H s.heap a (LamX.CodeO a q) from I.hok a _ e)
  rw [h1] at k1
  cases k1
  rw [h3] at k2
  cases k2
theorem put_dct (wt : T.w = X.w) (hu : X.A.units + 64 < cLine) (w : Wd (gx X T) ι μ H) (I : Inv X pins σ H s) {d f : D} {n : Nat} {x y z : V} {u v r : Value} {k : NestedKey} {kn : Bool} {kvs : List (NestedKey × D × D)} {Q : Unit → Shared → Prop} (rd : RelD (gx X T) ι H (.loc n) x) (re : RelD (gx X T) ι H d y) (rf : RelD (gx X T) ι H f z) (rx : RelV x v) (ry : RelV y u) (rz : RelV z r)
    (hk : keyT d = some k) (hm : dctAt μ n = some (kn, kvs)) (hl : kvs.length < sizeLine) (h : ∀ H' s', Grow (gx X T) ι H ι H' → Wd (gx X T) ι (μ.set n (.dct kn (dPut kvs k d f))) H' → Inv X pins σ H' s' → Q () s') : wpAny (model X.prog X.w) X.A (setItem v u r) Q X.xe s := by
  obtain ⟨h1, h2, ds, rfl⟩ := keyT_some hk
  obtain ⟨a, xs, rfl, hn, e, hsm, rk⟩ := w.dct rd hm
  cases re with
  | @tup b _ _ ht q =>
    obtain ⟨vs, ev, hd⟩ := dct_at wt I e rk
    cases (show v = Value.ref a from rx)
    cases (show u = Value.ref b from ry)
    have hh : (atKey vs k).isSome = dHas kvs k := by
      have := at_rel rk.keys rk.vd ev k
      unfold dHas
      cases h3 : dGet kvs k <;> cases h4 : atKey vs k <;> rw [h3, h4] at this <;> first | rfl | exact this.elim
    have hlen : vs.length ≤ sizeLine := by
      have e1 : vs.length = kvs.length := by
        have := congrArg List.length (ent_keys ev)
        rw [← rk.keys, List.length_map, List.length_map] at this
        exact this
      omega
    refine setItem_ep (room8 hu) (key_is I (.tup ht q) h1 h2) hd (fun h' tk hd' sb => ?_) hlen
    have ev' := ent_put (a := b) rz ev hh
    have rk' : RelK (gx X T) ι H (dPut kvs k (.tup ds) f) (xPut (dHas kvs k) xs k b z) := rk.put (.tup ht q) h1 h2 rf hl
    have g : Grow (gx X T) ι H ι (upd H a (dctO T.w kn a (xPut (dHas kvs k) xs k b z))) := .write hn
    have w' := w.write (m := .dct kn (dPut kvs k (.tup ds) f)) (o := dctO T.w kn a (xPut (dHas kvs k) xs k b z)) hn rfl (dct_ne_code I e) ⟨_, upd_same, hsm, rk'.grow w g⟩
    refine h _ _ g w' (I.write (x := a) (e := a) (by rw [e]; exact True.intro) (.inl rfl) (fun b' u' hb hu' => (sb.2 b' hb).trans hu') ?_ ?_)
    · obtain ⟨o, _, _, ho, _⟩ := hd'
      exact ⟨o, ho⟩
    · rw [wt]
      exact dctO_ok ev' hd'
end
end Ev

set_option Elab.async false
set_option linter.all false
set_option maxRecDepth 100000
set_option maxHeartbeats 4000000
namespace Ev
open PySem PySem.Spec PyProof.Rows L2
section
variable {X : Cx} {T : TX} {ι : List Addr} {H : Hp} {μ : Mem} {G : Gc}
/-! ### in -/
def flatD : D → Bool
  | .non => true | .bl _ => true | .int _ => true | .str _ => true
  | _ => false
def eqF : D → D → Bool
  | .non, .non => true
  | .bl a, .bl b => a == b
  | .bl a, .int b => (if a then 1 else 0) == b
  | .int a, .bl b => a == (if b then 1 else 0)
  | .int a, .int b => a == b
  | .str a, .str b => a == b
  | _, _ => false
def inF (x : D) (xs : List D) : Bool := xs.any fun y => eqF y x
theorem flat_rel {d : D} {v : V} (r : RelD G ι H d v) (h : flatD d = true) : flatV v = true := by
  cases r <;> first | rfl | cases h
theorem eqF_rel {d e : D} {v u : V} (r : RelD G ι H d v) (q : RelD G ι H e u) (h : flatD d = true) (h2 : flatD e = true) : eqV v u = eqF d e := by
  cases r <;> first | (cases h; done) | (cases q <;> first | (cases h2; done) | rfl)
theorem flats_rel : ∀ {ds : List D} {vs : List V}, RelDs G ι H ds vs → ds.all flatD = true → vs.all flatV = true
  | _, _, .nil, _ => rfl
  | _, _, .cons r rs, h => by
    rw [List.all_cons, Bool.and_eq_true] at h ⊢
    exact ⟨flat_rel r h.1, flats_rel rs h.2⟩
theorem inF_rel {d : D} {v : V} (r : RelD G ι H d v) (f : flatD d = true) : ∀ {ds : List D} {vs : List V}, RelDs G ι H ds vs → ds.all flatD = true → inV v vs = inF d ds
  | _, _, .nil, _ => rfl
  | _, _, .cons q rs, h => by
    rw [List.all_cons, Bool.and_eq_true] at h
    show (eqV _ v || inV v _) = (eqF _ d || inF d _)
    rw [eqF_rel q r h.1 f, inF_rel r f rs h.2]
/-- the items of a list or tuple -/
def seqD (μ : Mem) : D → Option (List D)
  | .tup xs => some xs
  | .fl xs => some xs
  | .loc n => lstAt μ n
  | _ => none
theorem seq_rel {K : PySem.W.Frag} {mg T} {d : D} {v : V} {ds : List D} (w : Wd ⟨K, mg, T⟩ ι μ H) (r : RelD ⟨K, mg, T⟩ ι H d v) (h : seqD μ d = some ds) : ∃ a vs, v = .ref a ∧ (SqL K H a vs ∨ SqT K H a vs) ∧ RelDs ⟨K, mg, T⟩ ι H ds vs := by
  cases r with
  | tup h1 q => cases h; exact ⟨_, _, rfl, .inr h1, q⟩
  | fl h1 q => cases h; exact ⟨_, _, rfl, .inl h1.sq, q⟩
  | loc e =>
    obtain ⟨a, vs, e1, _, l, q⟩ := w.lst (.loc e) (lstAt_some h)
    exact ⟨a, vs, e1, .inl (SqL.of l), q⟩
  | _ => cases h
def subStr (x y : Str) : Bool := !(Builtin.Str.occurrences y x 0 y.length 1).isEmpty
def inM (μ : Mem) (d e : D) : Option Bool := match d, e with
  | .str x, .str y => some (subStr x y)
  | d, e => match seqD μ e with
    | some xs => if flatD d && xs.all flatD then some (inF d xs) else none
    | none => none
/-- in a dict -/
def inK (μ : Mem) (d e : D) : Option Bool := match e with
  | .loc n => match dctAt μ n, keyT d with
    | some (_, kvs), some k => some (dHas kvs k)
    | _, _ => none
  | _ => none
theorem inK_some {d e : D} {b : Bool} (h : inK μ d e = some b) : ∃ n kn kvs k, e = .loc n ∧ dctAt μ n = some (kn, kvs) ∧ keyT d = some k ∧ b = dHas kvs k := by
  unfold inK at h
  split at h
  · split at h
    · rename_i h1 h2
      cases h
      exact ⟨_, _, _, _, rfl, h1, h2, rfl⟩
    · cases h
  · cases h
def inO (μ : Mem) (d e : D) : Option Bool := match inK μ d e with
  | some b => some b
  | none => inM μ d e
def inD : D → D → Mem → O := fun d e μ => (inO μ d e).map fun b => (.bl b, μ)
def ninD : D → D → Mem → O := fun d e μ => (inO μ d e).map fun b => (.bl (!b), μ)
theorem inM_seq {d e : D} {b : Bool} (h : inM μ d e = some b) : (∃ x y, d = .str x ∧ e = .str y ∧ b = subStr x y) ∨ ∃ xs, seqD μ e = some xs ∧ flatD d = true ∧ xs.all flatD = true ∧ b = inF d xs := by
  unfold inM at h
  split at h
  · cases h; exact .inl ⟨_, _, rfl, rfl, rfl⟩
  · split at h
    · rename_i xs e1
      split at h
      · rename_i hf
        rw [Bool.and_eq_true] at hf
        cases h
        exact .inr ⟨xs, e1, hf.1, hf.2, rfl⟩
      · cases h
    · cases h
theorem in_ok (wt : T.w = X.w) (hu : X.A.units + 64 < cLine) : OpR X (compareOp .In) (r2 (gx X T) inD) := by
  intro pins s σ H x y v u Q I rx ry h
  obtain ⟨d, e, μ, ι, w, rd, re, h⟩ := h
  unfold inD inO at h
  cases hk : inK μ d e with
  | some b =>
    rw [hk] at h
    obtain ⟨n, kn, kvs, k, rfl, h1, h2, rfl⟩ := inK_some hk
    exact op_in_dct wt hu w I rd re rx ry h2 h1 fun s' I' => ⟨.bl (dHas kvs k), H, I', rfl, Don.val w (.bl _) h⟩
  | none =>
  rw [hk] at h
  cases hb : inM μ d e with
  | none => rw [hb] at h; exact h.elim
  | some b =>
    rw [hb] at h
    rcases inM_seq hb with ⟨a, c, rfl, rfl, rfl⟩ | ⟨xs, e1, f1, f2, rfl⟩
    · cases rd; cases re
      exact op_in_str pins s σ H _ _ v u Q I rx ry ⟨a, c, rfl, rfl, Don.val w (.bl _) h⟩
    · obtain ⟨a, vs, rfl, hs, q⟩ := seq_rel w re e1
      refine op_in_seq pins s σ H _ _ v u Q I rx ry ⟨a, vs, rfl, hs, flat_rel rd f1, flats_rel q f2, ?_⟩
      rw [if_neg Bool.false_ne_true, inF_rel rd f1 q f2]
      exact Don.val w (.bl _) h
theorem nin_ok (wt : T.w = X.w) (hu : X.A.units + 64 < cLine) : OpR X (compareOp .NotIn) (r2 (gx X T) ninD) := by
  intro pins s σ H x y v u Q I rx ry h
  obtain ⟨d, e, μ, ι, w, rd, re, h⟩ := h
  unfold ninD inO at h
  cases hk : inK μ d e with
  | some b =>
    rw [hk] at h
    obtain ⟨n, kn, kvs, k, rfl, h1, h2, rfl⟩ := inK_some hk
    exact op_nin_dct wt hu w I rd re rx ry h2 h1 fun s' I' => ⟨.bl (!dHas kvs k), H, I', rfl, Don.val w (.bl _) h⟩
  | none =>
  rw [hk] at h
  cases hb : inM μ d e with
  | none => rw [hb] at h; exact h.elim
  | some b =>
    rw [hb] at h
    rcases inM_seq hb with ⟨a, c, rfl, rfl, rfl⟩ | ⟨xs, e1, f1, f2, rfl⟩
    · cases rd; cases re
      exact op_notin_str pins s σ H _ _ v u Q I rx ry ⟨a, c, rfl, rfl, Don.val w (.bl _) h⟩
    · obtain ⟨a, vs, rfl, hs, q⟩ := seq_rel w re e1
      refine op_notIn_seq pins s σ H _ _ v u Q I rx ry ⟨a, vs, rfl, hs, flat_rel rd f1, flats_rel q f2, ?_⟩
      rw [if_pos rfl, inF_rel rd f1 q f2]
      exact Don.val w (.bl _) h
def cmpD : CmpOp → D → D → Mem → O
  | .Eq => eqD | .NotEq => neD
  | .Lt => intCmp fun i j => decide (i < j)
  | .LtE => intCmp fun i j => decide (i ≤ j)
  | .Gt => intCmp fun i j => decide (j < i)
  | .GtE => intCmp fun i j => decide (j ≤ i)
  | .Is => isD | .IsNot => isNotD | .In => inD | .NotIn => ninD
theorem cmp_ok (wt : T.w = X.w) (hu : X.A.units + 64 < cLine) (op : CmpOp) : OpR X (compareOp op) (r2 (gx X T) (cmpD op)) := by
  cases op with
  | Eq => exact eq_ok hu
  | NotEq => exact ne_ok hu
  | Lt => exact int_ok op_lt
  | LtE => exact int_ok op_le
  | Gt => exact int_ok op_gt
  | GtE => exact int_ok op_ge
  | Is => exact is_ok
  | IsNot => exact isnot_ok
  | In => exact in_ok wt hu
  | NotIn => exact nin_ok wt hu

/-! ### truth -/
def truD (μ : Mem) : D → Option Bool
  | .non => some false
  | .bl b => some b
  | .int i => some (i != 0)
  | .str y => if y.length ≤ sizeLine then some ((y.length : Int) != 0) else none
  | .tup xs => some (!xs.isEmpty)
  | .fl xs => some (!xs.isEmpty)
  | .loc n => match lstAt μ n with
    | some xs => some (!xs.isEmpty)
    | none => none
  | .gl _ => none
  | .rw _ => none
theorem RelDs.isEmpty : ∀ {ds : List D} {vs : List V}, RelDs G ι H ds vs → vs.isEmpty = ds.isEmpty
  | _, _, .nil => rfl
  | _, _, .cons _ _ => rfl
theorem tru_rel {K : PySem.W.Frag} {mg T} {d : D} {v : V} {b : Bool} (w : Wd ⟨K, mg, T⟩ ι μ H) (r : RelD ⟨K, mg, T⟩ ι H d v) (h : truD μ d = some b) : TruV K v H b := by
  cases r with
  | non => cases h; rfl
  | bl b => cases h; rfl
  | int i => cases h; rfl
  | str x =>
    unfold truD at h
    dsimp only at h
    split at h
    · rename_i hz; cases h; exact ⟨hz, rfl⟩
    · cases h
  | tup h1 q => cases h; exact .inr (.inl ⟨_, h1, by rw [q.isEmpty]⟩)
  | fl h1 q => cases h; exact .inl ⟨_, h1.sq, by rw [q.isEmpty]⟩
  | loc e =>
    unfold truD at h
    dsimp only at h
    split at h
    · rename_i xs e1
      cases h
      obtain ⟨a, vs, e2, _, l, q⟩ := w.lst (.loc e) (lstAt_some e1)
      cases e2
      exact .inl ⟨_, SqL.of l, by rw [q.isEmpty]⟩
    · cases h
  | gl _ => cases h
  | rw _ => cases h

/-! ### built-ins -/
theorem RelDs.one {ds : List D} {d : D} {xs : List V} (r : RelDs G ι H [d] xs) : ∃ v, xs = [v] ∧ RelD G ι H d v := by
  cases r with
  | cons r rs => cases rs; exact ⟨_, rfl, r⟩
theorem RelDs.two {d e : D} {xs : List V} (r : RelDs G ι H [d, e] xs) : ∃ v u, xs = [v, u] ∧ RelD G ι H d v ∧ RelD G ι H e u := by
  cases r with
  | cons r rs =>
    cases rs with
    | cons q rs => cases rs; exact ⟨_, _, rfl, r, q⟩
def lenM (μ : Mem) : D → Option Nat
  | .str y => if y.length ≤ sizeLine then some y.length else none
  | d => match seqD μ d with
    | some xs => some xs.length
    | none => none
def lenD : List D → Mem → O
  | [d], μ => (lenM μ d).map fun (n : Nat) => (D.int (n : Int), μ)
  | _, _ => none
theorem len_ok : CallR X (.builtin "len") (rn (gx X T) lenD) := by
  intro pins s σ H xs us Q I r h
  obtain ⟨ds, μ, ι, w, rd, h⟩ := h
  match ds, rd, h with
  | [d], rd, h =>
    obtain ⟨x, rfl, rx⟩ := RelDs.one (ds := []) rd
    unfold lenD at h
    dsimp only at h
    cases hb : lenM μ d with
    | none => rw [hb] at h; exact h.elim
    | some n =>
      rw [hb] at h
      refine call_len pins s σ H _ us Q I r ⟨x, n, rfl, ?_, Don.val w (.int _) h⟩
      unfold lenM at hb
      split at hb
      · cases rx
        split at hb
        · rename_i hz; cases hb; exact ⟨hz, rfl⟩
        · cases hb
      · split at hb
        · rename_i xs e
          cases hb
          obtain ⟨a, vs, rfl, hs, q⟩ := seq_rel w rx e
          rcases hs with hs | hs
          · exact .inl ⟨vs, hs, q.length⟩
          · exact .inr ⟨vs, hs, q.length⟩
        · cases hb
  | [], _, h => exact h.elim
  | _ :: _ :: _, _, h => exact h.elim
def absD : List D → Mem → O
  | [.int i], μ => some (.int (if i < 0 then -i else i), μ)
  | _, _ => none
theorem abs_ok : CallR X (.builtin "abs") (rn (gx X T) absD) := by
  intro pins s σ H xs us Q I r h
  obtain ⟨ds, μ, ι, w, rd, h⟩ := h
  unfold absD at h
  split at h
  · obtain ⟨x, rfl, rx⟩ := RelDs.one (ds := []) rd
    cases rx
    exact call_abs pins s σ H _ us Q I r ⟨_, rfl, Don.val w (.int _) h⟩
  · exact h.elim
def intsD : List D → Option (List Int)
  | [] => some []
  | .int b :: r => (intsD r).map (b :: ·)
  | _ => none
theorem ints_rel : ∀ {ds : List D} {vs : List V} {bs : List Int}, RelDs G ι H ds vs → intsD ds = some bs → vs = bs.map V.int
  | [], _, _, .nil, h => by cases h; rfl
  | .int b :: r, _, bs, .cons (.int _) rs, h => by
    unfold intsD at h
    cases e : intsD r with
    | none => rw [e] at h; cases h
    | some cs => rw [e] at h; cases h; rw [ints_rel rs e]; rfl
  | .non :: _, _, _, _, h => by cases h
  | .bl _ :: _, _, _, _, h => by cases h
  | .str _ :: _, _, _, _, h => by cases h
  | .tup _ :: _, _, _, _, h => by cases h
  | .fl _ :: _, _, _, _, h => by cases h
  | .loc _ :: _, _, _, _, h => by cases h
  | .gl _ :: _, _, _, _, h => by cases h
  | .rw _ :: _, _, _, _, h => by cases h
/-- a list, told by value or of the store -/
def lsD (μ : Mem) : D → Option (List D)
  | .fl xs => some xs
  | .loc n => lstAt μ n
  | _ => none
theorem lsD_rel {K : PySem.W.Frag} {mg T} {d : D} {v : V} {ds : List D} (w : Wd ⟨K, mg, T⟩ ι μ H) (r : RelD ⟨K, mg, T⟩ ι H d v) (h : lsD μ d = some ds) : ∃ a vs, v = .ref a ∧ SqL K H a vs ∧ RelDs ⟨K, mg, T⟩ ι H ds vs := by
  cases r with
  | fl h1 q => cases h; exact ⟨_, _, rfl, h1.sq, q⟩
  | loc e =>
    obtain ⟨a, vs, e1, _, l, q⟩ := w.lst (.loc e) (lstAt_some h)
    exact ⟨a, vs, e1, SqL.of l, q⟩
  | _ => cases h
def maxL : List Int → Option Int
  | [] => none
  | x :: xs => some (xs.foldl max x)
def minL : List Int → Option Int
  | [] => none
  | x :: xs => some (xs.foldl min x)
theorem foldl_max : ∀ (xs : List Int) (x : Int), x ≤ xs.foldl max x ∧ (∀ y ∈ xs, y ≤ xs.foldl max x) ∧ (xs.foldl max x = x ∨ xs.foldl max x ∈ xs)
  | [], x => ⟨Int.le_refl _, fun _ h => absurd h (by simp), .inl rfl⟩
  | z :: xs, x => by
    obtain ⟨h1, h2, h3⟩ := foldl_max xs (max x z)
    refine ⟨by show x ≤ xs.foldl max (max x z); omega, fun y hy => ?_, ?_⟩
    · show y ≤ xs.foldl max (max x z)
      rcases List.mem_cons.mp hy with e | e
      · omega
      · exact h2 y e
    · show xs.foldl max (max x z) = x ∨ xs.foldl max (max x z) ∈ z :: xs
      rcases h3 with e | e
      · rw [e]
        by_cases hx : z ≤ x
        · exact .inl (by omega)
        · exact .inr (by rw [show max x z = z by omega]; simp)
      · exact .inr (List.mem_cons_of_mem _ e)
theorem foldl_min : ∀ (xs : List Int) (x : Int), xs.foldl min x ≤ x ∧ (∀ y ∈ xs, xs.foldl min x ≤ y) ∧ (xs.foldl min x = x ∨ xs.foldl min x ∈ xs)
  | [], x => ⟨Int.le_refl _, fun _ h => absurd h (by simp), .inl rfl⟩
  | z :: xs, x => by
    obtain ⟨h1, h2, h3⟩ := foldl_min xs (min x z)
    refine ⟨by show xs.foldl min (min x z) ≤ x; omega, fun y hy => ?_, ?_⟩
    · show xs.foldl min (min x z) ≤ y
      rcases List.mem_cons.mp hy with e | e
      · omega
      · exact h2 y e
    · show xs.foldl min (min x z) = x ∨ xs.foldl min (min x z) ∈ z :: xs
      rcases h3 with e | e
      · rw [e]
        by_cases hx : x ≤ z
        · exact .inl (by omega)
        · exact .inr (by rw [show min x z = z by omega]; simp)
      · exact .inr (List.mem_cons_of_mem _ e)
theorem maxL_eq {ns : List Int} {m z : Int} (h : maxL ns = some z) (h1 : m ∈ ns) (h2 : ∀ y ∈ ns, y ≤ m) : m = z := by
  cases ns with
  | nil => cases h
  | cons x xs =>
    cases h
    obtain ⟨q1, q2, q3⟩ := foldl_max xs x
    have a : m ≤ xs.foldl max x := (List.mem_cons.mp h1).elim (fun e => by omega) (q2 m)
    have b : xs.foldl max x ≤ m := h2 _ (q3.elim (fun e => by rw [e]; simp) (fun e => List.mem_cons_of_mem _ e))
    omega
theorem minL_eq {ns : List Int} {m z : Int} (h : minL ns = some z) (h1 : m ∈ ns) (h2 : ∀ y ∈ ns, m ≤ y) : m = z := by
  cases ns with
  | nil => cases h
  | cons x xs =>
    cases h
    obtain ⟨q1, q2, q3⟩ := foldl_min xs x
    have a : xs.foldl min x ≤ m := (List.mem_cons.mp h1).elim (fun e => by omega) (q2 m)
    have b : m ≤ xs.foldl min x := h2 _ (q3.elim (fun e => by rw [e]; simp) (fun e => List.mem_cons_of_mem _ e))
    omega
def foldI (f : List Int → Option Int) (μ : Mem) (d : D) : O := match lsD μ d with
  | some xs => match intsD xs with
    | some ns => (f ns).map fun i => (.int i, μ)
    | none => none
  | none => none
def maxD : List D → Mem → O
  | [.int i, .int j], μ => some (.int (if j > i then j else i), μ)
  | [d], μ => foldI maxL μ d
  | _, _ => none
theorem max_ok (hc : X.calm = true) : CallR X (.builtin "max") (rn (gx X T) maxD) := by
  intro pins s σ H xs us Q I r h
  obtain ⟨ds, μ, ι, w, rd, h⟩ := h
  unfold maxD at h
  split at h
  · obtain ⟨x, y, rfl, rx, ry⟩ := RelDs.two rd
    cases rx; cases ry
    exact call_max2 hc pins s σ H _ us Q I r ⟨_, _, rfl, Don.val w (.int _) h⟩
  · obtain ⟨x, rfl, rx⟩ := RelDs.one (ds := []) rd
    unfold foldI at h
    split at h
    · rename_i xs e1
      split at h
      · rename_i ns e2
        obtain ⟨a, vs, rfl, hs, q⟩ := lsD_rel w rx e1
        rw [ints_rel q e2] at hs
        cases e3 : maxL ns with
        | none => rw [e3] at h; exact h.elim
        | some z =>
          rw [e3] at h
          refine cr_max hc pins s σ H _ us Q I r ⟨a, ns, rfl, hs, ?_, fun m h1 h2 => ?_⟩
          · cases ns with
            | nil => cases e3
            | cons _ _ => simp
          · rw [maxL_eq e3 h1 h2]
            exact Don.val w (.int _) h
      · exact h.elim
    · exact h.elim
  · exact h.elim
def minD : List D → Mem → O
  | [.int i, .int j], μ => some (.int (if j < i then j else i), μ)
  | [d], μ => foldI minL μ d
  | _, _ => none
theorem min_ok (hc : X.calm = true) : CallR X (.builtin "min") (rn (gx X T) minD) := by
  intro pins s σ H xs us Q I r h
  obtain ⟨ds, μ, ι, w, rd, h⟩ := h
  unfold minD at h
  split at h
  · obtain ⟨x, y, rfl, rx, ry⟩ := RelDs.two rd
    cases rx; cases ry
    exact call_min2 hc pins s σ H _ us Q I r ⟨_, _, rfl, Don.val w (.int _) h⟩
  · obtain ⟨x, rfl, rx⟩ := RelDs.one (ds := []) rd
    unfold foldI at h
    split at h
    · rename_i xs e1
      split at h
      · rename_i ns e2
        obtain ⟨a, vs, rfl, hs, q⟩ := lsD_rel w rx e1
        rw [ints_rel q e2] at hs
        cases e3 : minL ns with
        | none => rw [e3] at h; exact h.elim
        | some z =>
          rw [e3] at h
          refine cr_min hc pins s σ H _ us Q I r ⟨a, ns, rfl, hs, ?_, fun m h1 h2 => ?_⟩
          · cases ns with
            | nil => cases e3
            | cons _ _ => simp
          · rw [minL_eq e3 h1 h2]
            exact Don.val w (.int _) h
      · exact h.elim
    · exact h.elim
  · exact h.elim
def boolsD : List D → Option (List Bool)
  | [] => some []
  | .bl b :: r => (boolsD r).map (b :: ·)
  | _ => none
theorem bools_rel : ∀ {ds : List D} {vs : List V} {bs : List Bool}, RelDs G ι H ds vs → boolsD ds = some bs → vs = bs.map V.bl
  | [], _, _, .nil, h => by cases h; rfl
  | .bl b :: r, _, bs, .cons (.bl _) rs, h => by
    unfold boolsD at h
    cases e : boolsD r with
    | none => rw [e] at h; cases h
    | some cs => rw [e] at h; cases h; rw [bools_rel rs e]; rfl
  | .non :: _, _, _, _, h => by cases h
  | .int _ :: _, _, _, _, h => by cases h
  | .str _ :: _, _, _, _, h => by cases h
  | .tup _ :: _, _, _, _, h => by cases h
  | .fl _ :: _, _, _, _, h => by cases h
  | .loc _ :: _, _, _, _, h => by cases h
  | .gl _ :: _, _, _, _, h => by cases h
  | .rw _ :: _, _, _, _, h => by cases h
theorem RelDs.ofInts : ∀ (ns : List Int), RelDs G ι H (ns.map D.int) (ns.map V.int)
  | [] => .nil
  | n :: ns => .cons (.int n) (RelDs.ofInts ns)
theorem RelDs.ofStrs : ∀ (ns : List Str), RelDs G ι H (ns.map D.str) (ns.map V.str)
  | [] => .nil
  | n :: ns => .cons (.str n) (RelDs.ofStrs ns)
def locL (μ : Mem) : D → Option (List D)
  | .loc n => lstAt μ n
  | _ => none
theorem locL_rel {K : PySem.W.Frag} {mg T} {d : D} {v : V} {ds : List D} (w : Wd ⟨K, mg, T⟩ ι μ H) (r : RelD ⟨K, mg, T⟩ ι H d v) (h : locL μ d = some ds) : ∃ n a vs, d = .loc n ∧ v = .ref a ∧ ι[n]? = some a ∧ H a = some (.lst vs) ∧ RelDs ⟨K, mg, T⟩ ι H ds vs := by
  cases r with
  | @loc n a e =>
    obtain ⟨a, vs, e1, e2, l, q⟩ := w.lst (.loc e) (lstAt_some h)
    exact ⟨n, a, vs, rfl, e1, e2, l, q⟩
  | _ => cases h
def foldB (f : List Bool → D) : List D → Mem → O
  | [d], μ => match lsD μ d with
    | some xs => match boolsD xs with
      | some bs => some (f bs, μ)
      | none => none
    | none => none
  | _, _ => none
theorem foldB_inv {f : List Bool → D} {ds : List D} {xs : List V} {Q : VK} {K : PySem.W.Frag} {mg T} (w : Wd ⟨K, mg, T⟩ ι μ H) (rd : RelDs ⟨K, mg, T⟩ ι H ds xs) (h : Don ⟨K, mg, T⟩ ι H Q (foldB f ds μ)) : ∃ a bs, xs = [.ref a] ∧ SqL K H a (bs.map V.bl) ∧ Don ⟨K, mg, T⟩ ι H Q (some (f bs, μ)) := by
  unfold foldB at h
  split at h
  · obtain ⟨x, rfl, rx⟩ := RelDs.one (ds := []) rd
    split at h
    · rename_i xs e
      split at h
      · rename_i bs e2
        obtain ⟨a, vs, rfl, l, q⟩ := lsD_rel w rx e
        exact ⟨a, bs, rfl, by rw [← bools_rel q e2]; exact l, h⟩
      · exact h.elim
    · exact h.elim
  · exact h.elim
def allD := foldB fun bs => .bl (bs.all id)
def anyD := foldB fun bs => .bl (bs.any id)
theorem all_ok (hc : X.calm = true) : CallR X (.builtin "all") (rn (gx X T) allD) := by
  intro pins s σ H xs us Q I r h
  obtain ⟨ds, μ, ι, w, rd, h⟩ := h
  obtain ⟨a, bs, rfl, l, h⟩ := foldB_inv w rd h
  exact cr_all hc pins s σ H _ us Q I r ⟨a, bs, rfl, l, Don.val w (.bl _) h⟩
theorem any_ok (hc : X.calm = true) : CallR X (.builtin "any") (rn (gx X T) anyD) := by
  intro pins s σ H xs us Q I r h
  obtain ⟨ds, μ, ι, w, rd, h⟩ := h
  obtain ⟨a, bs, rfl, l, h⟩ := foldB_inv w rd h
  exact cr_any hc pins s σ H _ us Q I r ⟨a, bs, rfl, l, Don.val w (.bl _) h⟩
theorem sumT_raw {its : List Value} {ns : List Int} {prog : Program} {w : World} {A : Around} {E : Value → Shared → Prop} {s : Shared} {l : Addr} {Q : Value → Shared → Prop} (hh : A.handled = none) (hl : s.heap.IsTuple l its.toArray) (hi : IntsAre its ns)
    (h : ∀ h' tk t', (∀ b o, s.heap.get? b = some o → h'.get? b = some o) → Q (.int ns.sum t') { s with heap := h', toks := tk }) : wpAny (model prog w) A (call (.builtin "sum") [.ref l]) Q E s := by
  obtain ⟨xs, e⟩ := hi.allInts.items
  have hn : numsOf (intItems xs).toList = ns := by rw [← e]; exact hi.numsOf
  rw [nums_intItems] at hn
  rw [e] at hl
  refine PySem.W.ktm_sumG hh hl fun h' tk t' hk => ?_
  have := h h' tk t' hk
  rw [preSum_eq, List.take_of_length_le (by simp), hn]; exact this
def sumD : List D → Mem → O
  | [.tup xs], μ => match intsD xs with
    | some bs => some (.int bs.sum, μ)
    | none => none
  | [d], μ => match lsD μ d with
    | some xs => match intsD xs with
      | some bs => some (.int bs.sum, μ)
      | none => none
    | none => none
  | _, _ => none
theorem sum_ok (hc : X.calm = true) : CallR X (.builtin "sum") (rn (gx X T) sumD) := by
  intro pins s σ H xs us Q I r h
  obtain ⟨ds, μ, ι, w, rd, h⟩ := h
  unfold sumD at h
  split at h
  · obtain ⟨x, rfl, rx⟩ := RelDs.one (ds := []) rd
    split at h
    · rename_i bs e2
      cases rx with
      | tup ht q =>
        obtain ⟨its, rv, pl, hz⟩ := I.tuple ht
        rw [Vals.ref1 r]
        rw [ints_rel q e2] at rv
        exact sumT_raw (I.ok.hd hc) pl rv.ints fun h' tk t' hk => ⟨.int _, _, I.kept hk, ⟨_, rfl⟩, Don.val w (.int _) h⟩
    · exact h.elim
  · obtain ⟨x, rfl, rx⟩ := RelDs.one (ds := []) rd
    split at h
    · rename_i xs e
      split at h
      · rename_i bs e2
        obtain ⟨a, vs, rfl, l, q⟩ := lsD_rel w rx e
        exact cr_sum hc pins s σ H _ us Q I r ⟨a, bs, rfl, by rw [← ints_rel q e2]; exact l, Don.val w (.int _) h⟩
      · exact h.elim
    · exact h.elim
  · exact h.elim
/-! built-in types, called -/
def intD : List D → Mem → O
  | [.int i], μ => some (.int i, μ)
  | [.bl b], μ => some (.int (if b then 1 else 0), μ)
  | _, _ => none
theorem intc_ok : CallR X (.type "int") (rn (gx X T) intD) := by
  intro pins s σ H xs us Q I r h
  obtain ⟨ds, μ, ι, w, rd, h⟩ := h
  unfold intD at h
  split at h
  · obtain ⟨x, rfl, rx⟩ := RelDs.one (ds := []) rd
    cases rx
    exact call_int1 pins s σ H _ us Q I r (.inl ⟨_, rfl, Don.val w (.int _) h⟩)
  · obtain ⟨x, rfl, rx⟩ := RelDs.one (ds := []) rd
    cases rx
    exact call_int1 pins s σ H _ us Q I r (.inr ⟨_, rfl, Don.val w (.int _) h⟩)
  · exact h.elim
def boolD : List D → Mem → O
  | [.int i], μ => some (.bl (i != 0), μ)
  | [.bl b], μ => some (.bl b, μ)
  | _, _ => none
theorem boolc_ok : CallR X (.type "bool") (rn (gx X T) boolD) := by
  intro pins s σ H xs us Q I r h
  obtain ⟨ds, μ, ι, w, rd, h⟩ := h
  unfold boolD at h
  split at h
  · obtain ⟨x, rfl, rx⟩ := RelDs.one (ds := []) rd
    cases rx
    exact call_bool1 pins s σ H _ us Q I r (.inl ⟨_, rfl, Don.val w (.bl _) h⟩)
  · obtain ⟨x, rfl, rx⟩ := RelDs.one (ds := []) rd
    cases rx
    exact call_bool1 pins s σ H _ us Q I r (.inr ⟨_, rfl, Don.val w (.bl _) h⟩)
  · exact h.elim
def strD : List D → Mem → O
  | [.int i], μ => if i.natAbs.log2 < 1920 then some (.str (toString i), μ) else none
  | [.str x], μ => some (.str x, μ)
  | [.bl b], μ => some (.str (if b = true then "True" else "False"), μ)
  | _, _ => none
theorem call_str_bl : CallR X (.type "str") (fun xs H Q => ∃ b, xs = [.bl b] ∧ Q (.str (if b = true then "True" else "False")) H) := by
  intro pins s σ H xs us Q I r h
  obtain ⟨b, rfl, q⟩ := h
  obtain ⟨u, rfl, r1⟩ := vals1 r
  cases r1
  exact PySem.P.str_of_bool ⟨.str _, H, I.tok _, ⟨_, rfl⟩, q⟩
theorem strc_ok : CallR X (.type "str") (rn (gx X T) strD) := by
  intro pins s σ H xs us Q I r h
  obtain ⟨ds, μ, ι, w, rd, h⟩ := h
  unfold strD at h
  split at h
  · obtain ⟨x, rfl, rx⟩ := RelDs.one (ds := []) rd
    cases rx
    split at h
    · rename_i hz
      exact call_str_int pins s σ H _ us Q I r ⟨_, rfl, hz, Don.val w (.str _) h⟩
    · exact h.elim
  · obtain ⟨x, rfl, rx⟩ := RelDs.one (ds := []) rd
    cases rx
    exact SkE.call_str_str pins s σ H _ us Q I r ⟨_, rfl, Don.val w (.str _) h⟩
  · obtain ⟨x, rfl, rx⟩ := RelDs.one (ds := []) rd
    cases rx
    exact call_str_bl pins s σ H _ us Q I r ⟨_, rfl, Don.val w (.str _) h⟩
  · exact h.elim
def listD : List D → Mem → O
  | [d], μ => match seqD μ d with
    | some xs => some (.loc μ.length, μ ++ [.lst xs])
    | none => none
  | _, _ => none
theorem listc_ok : CallR X (.type "list") (rn (gx X T) listD) := by
  intro pins s σ H xs us Q I r h
  obtain ⟨ds, μ, ι, w, rd, h⟩ := h
  unfold listD at h
  split at h
  · obtain ⟨x, rfl, rx⟩ := RelDs.one (ds := []) rd
    split at h
    · rename_i ys e
      obtain ⟨a, vs, rfl, hs, q⟩ := seq_rel w rx e
      exact call_list_of pins s σ H _ us Q I r ⟨a, vs, rfl, hs, Don.lst w q h⟩
    · exact h.elim
  · exact h.elim
def tupleD : List D → Mem → O
  | [d], μ => match seqD μ d with
    | some xs => some (.tup xs, μ)
    | none => none
  | _, _ => none
theorem tuplec_ok : CallR X (.type "tuple") (rn (gx X T) tupleD) := by
  intro pins s σ H xs us Q I r h
  obtain ⟨ds, μ, ι, w, rd, h⟩ := h
  unfold tupleD at h
  split at h
  · obtain ⟨x, rfl, rx⟩ := RelDs.one (ds := []) rd
    split at h
    · rename_i ys e
      obtain ⟨a, vs, rfl, hs, q⟩ := seq_rel w rx e
      refine call_tuple_of pins s σ H _ us Q I r ⟨a, vs, rfl, ?_⟩
      rcases hs with hs | hs
      · exact .inl ⟨hs, Don.tup w q h⟩
      · exact .inr ⟨hs, Don.val w (.tup hs q) h⟩
    · exact h.elim
  · exact h.elim
/-- built-in functions by name -/
def biD : String → Option (List D → Mem → O)
  | "len" => some lenD | "abs" => some absD | "max" => some maxD | "min" => some minD | "all" => some allD | "any" => some anyD | "sum" => some sumD
  | _ => none
def tyD : String → Option (List D → Mem → O)
  | "int" => some intD | "bool" => some boolD | "str" => some strD | "list" => some listD | "tuple" => some tupleD
  | _ => none
theorem bi_ok (hc : X.calm = true) {n : String} {p : List D → Mem → O} (h : biD n = some p) : CallR X (.builtin n) (rn (gx X T) p) := by
  unfold biD at h
  split at h
  · cases h; exact len_ok
  · cases h; exact abs_ok
  · cases h; exact max_ok hc
  · cases h; exact min_ok hc
  · cases h; exact all_ok hc
  · cases h; exact any_ok hc
  · cases h; exact sum_ok hc
  · cases h
theorem ty_ok {n : String} {p : List D → Mem → O} (h : tyD n = some p) : CallR X (.type n) (rn (gx X T) p) := by
  unfold tyD at h
  split at h
  · cases h; exact intc_ok
  · cases h; exact boolc_ok
  · cases h; exact strc_ok
  · cases h; exact listc_ok
  · cases h; exact tuplec_ok
  · cases h
end
end Ev

set_option Elab.async false
set_option linter.all false
set_option maxRecDepth 100000
set_option maxHeartbeats 4000000
namespace Ev
open PySem PySem.Spec PyProof.Rows L2
theorem _root_.L2.PE.weak {X : Cx} {e : Expr} {t t' : TE} (h : PE X e t) (i : ∀ σ H Q, t' σ H Q → t σ H Q) : PE X e t' := ⟨fun pins s σ H Q I q => h.run pins s σ H Q I (i σ H Q q)⟩
theorem _root_.L2.PT.weak {X : Cx} {e : Expr} {t t' : TT} (h : PT X e t) (i : ∀ σ H Q, t' σ H Q → t σ H Q) : PT X e t' := ⟨fun pins s σ H Q I q => h.run pins s σ H Q I (i σ H Q q)⟩
theorem _root_.L2.PW.weak {X : Cx} {e : Expr} {t t' : TT} (h : PW X e t) (i : ∀ σ H Q, t' σ H Q → t σ H Q) : PW X e t' := ⟨fun wh pins s σ H Q I q => h.run wh pins s σ H Q I (i σ H Q q)⟩
theorem _root_.L2.PA.weak {X : Cx} {e : List Expr} {t t' : TA} (h : PA X e t) (i : ∀ σ H Q, t' σ H Q → t σ H Q) : PA X e t' := ⟨fun p pins s σ H Q I q => h.run p pins s σ H Q I (i σ H Q q)⟩
theorem _root_.L2.PS.weak {X : Cx} {e : Stmt} {t t' : TS} (h : PS X e t) (i : ∀ D σ H, t' D σ H → t D σ H) : PS X e t' := ⟨fun pins s σ H Q I q => h.run pins s σ H Q I (i Q σ H q)⟩
theorem _root_.L2.PSs.weak {X : Cx} {e : List Stmt} {t t' : TS} (h : PSs X e t) (i : ∀ D σ H, t' D σ H → t D σ H) : PSs X e t' := ⟨fun pins s σ H Q I q => h.run pins s σ H Q I (i Q σ H q)⟩

/-! ### the combinators -/
def eK (d : D) : E := fun _ μ => .ok d μ
def eVar (i : Nat) : E := fun ρ μ => match ρ[i]? with
  | some (some d) => .ok d μ
  | _ => .er
def eUn (p : D → Mem → O) (a : E) : E := fun ρ μ => (a ρ μ).bind fun x μ1 => (p x μ1).r
def eBin (p : D → D → Mem → O) (a b : E) : E := fun ρ μ => (a ρ μ).bind fun x μ1 => (b ρ μ1).bind fun y μ2 => (p x y μ2).r
def esNil : Es := fun _ μ => .ok [] μ
def esCons (a : E) (as : Es) : Es := fun ρ μ => (a ρ μ).bind fun x μ1 => (as ρ μ1).bind fun xs μ2 => .ok (x :: xs) μ2
def eApp (p : List D → Mem → O) (as : Es) : E := fun ρ μ => (as ρ μ).bind fun xs μ1 => (p xs μ1).r
def eIf (t : T) (a b : E) : E := fun ρ μ => (t ρ μ).bind fun c μ1 => if c = true then a ρ μ1 else b ρ μ1
def tTru (a : E) : T := fun ρ μ => (a ρ μ).bind fun x μ1 => match truD μ1 x with
  | some b => .ok b μ1
  | none => .er
def tBl (a : E) : T := fun ρ μ => (a ρ μ).bind fun x μ1 => match x with
  | .bl b => .ok b μ1
  | _ => .er
def tNo (a : T) : T := fun ρ μ => (a ρ μ).bind fun c μ1 => .ok (!c) μ1
def tAn (a b : T) : T := fun ρ μ => (a ρ μ).bind fun c μ1 => if c = true then b ρ μ1 else .ok false μ1
def tOr' (a b : T) : T := fun ρ μ => (a ρ μ).bind fun c μ1 => if c = true then .ok true μ1 else b ρ μ1
def eNo (a : E) : E := fun ρ μ => (a ρ μ).bind fun x μ1 => match truD μ1 x with
  | some b => .ok (.bl (!b)) μ1
  | none => .er
def eAn (a b : E) : E := fun ρ μ => (a ρ μ).bind fun x μ1 => match x with
  | .bl c => if c = true then b ρ μ1 else .ok (.bl false) μ1
  | _ => .er
def eOr (a b : E) : E := fun ρ μ => (a ρ μ).bind fun x μ1 => match x with
  | .bl c => if c = true then .ok (.bl true) μ1 else b ρ μ1
  | _ => .er
def eChain (p q : D → D → Mem → O) (a b c : E) : E := fun ρ μ => (a ρ μ).bind fun x μ1 => (b ρ μ1).bind fun y μ2 => (p x y μ2).r.bind fun z μ3 => match z with
  | .bl k => if k = true then (c ρ μ3).bind fun w μ4 => (q y w μ4).r else .ok (.bl false) μ3
  | _ => .er
def tupP : List D → Mem → O := fun xs μ => if xs.length ≤ 1000 then some (.tup xs, μ) else none
def lstP : List D → Mem → O := fun xs μ => if xs.length ≤ 1000 then some (.loc μ.length, μ ++ [.lst xs]) else none

section
variable {X : Cx} {T₀ : TX} {W : WX} {G : Gc} {ι : List Addr} {H : Hp} {μ : Mem} {σ : St} {ρ : Env} {E₀ : XK}
/-- first f, then g -/
theorem Pst.bind {f : R D} {g : D → Mem → R D} {Q : VK} (w : Wd G ι μ H) (e : EnvR G ι H ρ σ) (h : Pst G ι H E₀ Q (f.bind g)) :
    Pst G ι H E₀ (fun x H1 => ∃ d μ1 ι1, Grow G ι H ι1 H1 ∧ Wd G ι1 μ1 H1 ∧ EnvR G ι1 H1 ρ σ ∧ RelD G ι1 H1 d x ∧ f = .ok d μ1 ∧ Pst G ι1 H1 E₀ Q (g d μ1)) f := by
  cases f with
  | ok d m => exact fun v H' ι' g' w' r => ⟨d, m, ι', g', w', e.grow w g', r, rfl, Pst.grow g' h⟩
  | ex x m => exact h
  | er => exact h
theorem PsL.bind {f : R (List D)} {g : List D → Mem → R D} {Q : VK} (w : Wd G ι μ H) (e : EnvR G ι H ρ σ) (h : Pst G ι H E₀ Q (f.bind g)) :
    PsL G ι H E₀ (fun x H1 => ∃ d μ1 ι1, Grow G ι H ι1 H1 ∧ Wd G ι1 μ1 H1 ∧ EnvR G ι1 H1 ρ σ ∧ RelDs G ι1 H1 d x ∧ f = .ok d μ1 ∧ Pst G ι1 H1 E₀ Q (g d μ1)) f := by
  cases f with
  | ok d m => exact fun v H' ι' g' w' r => ⟨d, m, ι', g', w', e.grow w g', r, rfl, Pst.grow g' h⟩
  | ex x m => exact h
  | er => exact h
theorem PsB.bind {f : R Bool} {g : Bool → Mem → R D} {Q : VK} (w : Wd G ι μ H) (e : EnvR G ι H ρ σ) (h : Pst G ι H E₀ Q (f.bind g)) :
    PsB G ι H E₀ (fun c H1 => ∃ μ1 ι1, Grow G ι H ι1 H1 ∧ Wd G ι1 μ1 H1 ∧ EnvR G ι1 H1 ρ σ ∧ f = .ok c μ1 ∧ Pst G ι1 H1 E₀ Q (g c μ1)) f := by
  cases f with
  | ok d m => exact fun H' ι' g' w' => ⟨m, ι', g', w', e.grow w g', rfl, Pst.grow g' h⟩
  | ex x m => exact h
  | er => exact h
theorem Pst.bindB {f : R D} {g : D → Mem → R Bool} {Q : Bool → Hp → Prop} (w : Wd G ι μ H) (e : EnvR G ι H ρ σ) (h : PsB G ι H E₀ Q (f.bind g)) :
    Pst G ι H E₀ (fun x H1 => ∃ d μ1 ι1, Grow G ι H ι1 H1 ∧ Wd G ι1 μ1 H1 ∧ EnvR G ι1 H1 ρ σ ∧ RelD G ι1 H1 d x ∧ f = .ok d μ1 ∧ PsB G ι1 H1 E₀ Q (g d μ1)) f := by
  cases f with
  | ok d m => exact fun v H' ι' g' w' r => ⟨d, m, ι', g', w', e.grow w g', r, rfl, PsB.grow g' h⟩
  | ex x m => exact h
  | er => exact h
theorem PsB.bindB {f : R Bool} {g : Bool → Mem → R Bool} {Q : Bool → Hp → Prop} (w : Wd G ι μ H) (e : EnvR G ι H ρ σ) (h : PsB G ι H E₀ Q (f.bind g)) :
    PsB G ι H E₀ (fun c H1 => ∃ μ1 ι1, Grow G ι H ι1 H1 ∧ Wd G ι1 μ1 H1 ∧ EnvR G ι1 H1 ρ σ ∧ f = .ok c μ1 ∧ PsB G ι1 H1 E₀ Q (g c μ1)) f := by
  cases f with
  | ok d m => exact fun H' ι' g' w' => ⟨m, ι', g', w', e.grow w g', rfl, PsB.grow g' h⟩
  | ex x m => exact h
  | er => exact h
theorem Pst.bindL {f : R D} {g : D → Mem → R (List D)} {Q : List V → Hp → Prop} (w : Wd G ι μ H) (e : EnvR G ι H ρ σ) (h : PsL G ι H E₀ Q (f.bind g)) :
    Pst G ι H E₀ (fun x H1 => ∃ d μ1 ι1, Grow G ι H ι1 H1 ∧ Wd G ι1 μ1 H1 ∧ EnvR G ι1 H1 ρ σ ∧ RelD G ι1 H1 d x ∧ f = .ok d μ1 ∧ PsL G ι1 H1 E₀ Q (g d μ1)) f := by
  cases f with
  | ok d m => exact fun v H' ι' g' w' r => ⟨d, m, ι', g', w', e.grow w g', r, rfl, PsL.grow g' h⟩
  | ex x m => exact h
  | er => exact h
theorem PsL.bindL {f : R (List D)} {g : List D → Mem → R (List D)} {Q : List V → Hp → Prop} (w : Wd G ι μ H) (e : EnvR G ι H ρ σ) (h : PsL G ι H E₀ Q (f.bind g)) :
    PsL G ι H E₀ (fun x H1 => ∃ d μ1 ι1, Grow G ι H ι1 H1 ∧ Wd G ι1 μ1 H1 ∧ EnvR G ι1 H1 ρ σ ∧ RelDs G ι1 H1 d x ∧ f = .ok d μ1 ∧ PsL G ι1 H1 E₀ Q (g d μ1)) f := by
  cases f with
  | ok d m => exact fun v H' ι' g' w' r => ⟨d, m, ι', g', w', e.grow w g', r, rfl, PsL.grow g' h⟩
  | ex x m => exact h
  | er => exact h
/-- a primitive's end -/
theorem Pst.don {o : O} {Q : VK} (h : Pst G ι H E₀ Q o.r) : Don G ι H Q o := by
  match o, h with
  | some (d, m), h => exact h
theorem Pst.here {Q : VK} {d : D} {v : V} (w : Wd G ι μ H) (r : RelD G ι H d v) (h : Pst G ι H E₀ Q (.ok d μ)) : Q v H := h v H ι .refl w r
theorem PsB.here {Q : Bool → Hp → Prop} {b : Bool} (w : Wd G ι μ H) (h : PsB G ι H E₀ Q (.ok b μ)) : Q b H := h H ι .refl w
theorem PsL.here {Q : List V → Hp → Prop} {d : List D} {v : List V} (w : Wd G ι μ H) (r : RelDs G ι H d v) (h : PsL G ι H E₀ Q (.ok d μ)) : Q v H := h v H ι .refl w r
/-! ### names, constants -/
theorem pe_k {e : Expr} {d : D} {v : V} (h : PE X e (tC v)) (r : ∀ ι H, RelD (gx X T₀) ι H d v) : PE X e (tE (gx X T₀) W (eK d)) := h.weak fun σ H Q ⟨ρ, μ, ι, w, _, q⟩ => Pst.here w (r ι H) q
theorem pe_v {i : Nat} {e : Expr} (h : PE X e (tVar i)) : PE X e (tE (gx X T₀) W (eVar i)) := h.weak fun σ H Q ⟨ρ, μ, ι, w, ev, q⟩ => by
  unfold eVar at q
  split at q
  · rename_i d hd
    obtain ⟨v, h1, h2⟩ := ev.2 i d hd
    exact ⟨v, h1, Pst.here w h2 q⟩
  · exact q.elim
/-! ### operators -/
variable {a b c : Expr} {fa fb fc : E} {pos : Pos}
theorem tE_bin {p : D → D → Mem → O} {σ : St} {H : Hp} {Q : VK} (h : tE G W (eBin p fa fb) σ H Q) : tOp (r2 G p) (tE G W fa) (tE G W fb) σ H Q := by
  obtain ⟨ρ, μ, ι, w, ev, q⟩ := h
  refine ⟨ρ, μ, ι, w, ev, ?_⟩
  have q1 := Pst.bind w ev q
  cases hf : fa ρ μ with
  | ok d m =>
    rw [hf] at q1
    intro v H' ι' g' w' r
    obtain ⟨d1, μ1, ι1, g1, w1, e1, r1, z, q2⟩ := q1 v H' ι' g' w' r
    refine ⟨ρ, μ1, ι1, w1, e1, ?_⟩
    have q3 := Pst.bind w1 e1 q2
    cases hg : fb ρ μ1 with
    | ok d' m' =>
      rw [hg] at q3
      intro v' H'' ι'' g'' w'' r'
      obtain ⟨d2, μ2, ι2, g2, w2, e2, r2, z2, q4⟩ := q3 v' H'' ι'' g'' w'' r'
      exact ⟨d1, d2, μ2, ι2, w2, r1.grow w1 g2, r2, q4.don⟩
    | ex x m' => rw [hg] at q3; exact q3
    | er => rw [hg] at q3; exact q3
  | ex x m => rw [hf] at q1; exact q1
  | er => rw [hf] at q1; exact q1
theorem pe_bin (op : Operator) (ha : PE X a (tE (gx X T₀) W fa)) (hb : PE X b (tE (gx X T₀) W fb)) : PE X (.BinOp a op b pos) (tE (gx X T₀) W (eBin (binD op) fa fb)) := (pe_op (bin_ok (T := T₀) op) ha hb).weak fun σ H Q h => tE_bin h
theorem pe_cmpE (wt : T₀.w = X.w) (hu : X.A.units + 64 < cLine) (op : CmpOp) (ha : PE X a (tE (gx X T₀) W fa)) (hb : PE X b (tE (gx X T₀) W fb)) (hm : behindInMarks op b = false) : PE X (.Compare a [op] [b] pos) (tE (gx X T₀) W (eBin (cmpD op) fa fb)) :=
  (pe_cmpR (cmp_ok (T := T₀) wt hu op) ha hb hm).weak fun σ H Q h => tE_bin h
theorem tE_bl {fa : E} {σ : St} {H : Hp} {Q : Bool → Hp → Prop} (h : tT G W (tBl fa) σ H Q) : tE G W fa σ H fun x H' => ∃ k, x = .bl k ∧ Q k H' := by
  obtain ⟨ρ, μ, ι, w, ev, q⟩ := h
  refine ⟨ρ, μ, ι, w, ev, ?_⟩
  have q1 := Pst.bindB w ev q
  cases hf : fa ρ μ with
  | ok d m =>
    rw [hf] at q1
    intro v H' ι' g' w' r
    obtain ⟨d1, μ1, ι1, g1, w1, e1, r1, z, q2⟩ := q1 v H' ι' g' w' r
    cases r1 <;> first | exact q2.elim | exact ⟨_, rfl, PsB.here w1 q2⟩
  | ex x m => rw [hf] at q1; exact q1
  | er => rw [hf] at q1; exact q1
theorem tE_tru {fa : E} {σ : St} {H : Hp} {Q : Bool → Hp → Prop} (h : tT (gx X T₀) W (tTru fa) σ H Q) : tE (gx X T₀) W fa σ H fun x H' => ∃ k, TruV X.K x H' k ∧ Q k H' := by
  obtain ⟨ρ, μ, ι, w, ev, q⟩ := h
  refine ⟨ρ, μ, ι, w, ev, ?_⟩
  have q1 := Pst.bindB w ev q
  cases hf : fa ρ μ with
  | ok d m =>
    rw [hf] at q1
    intro v H' ι' g' w' r
    obtain ⟨d1, μ1, ι1, g1, w1, e1, r1, z, q2⟩ := q1 v H' ι' g' w' r
    split at q2
    · rename_i b hb
      exact ⟨b, tru_rel w1 r1 hb, PsB.here w1 q2⟩
    · exact q2.elim
  | ex x m => rw [hf] at q1; exact q1
  | er => rw [hf] at q1; exact q1
theorem pt_cmpE (wt : T₀.w = X.w) (hu : X.A.units + 64 < cLine) (op : CmpOp) (ha : PE X a (tE (gx X T₀) W fa)) (hb : PE X b (tE (gx X T₀) W fb)) (hm : behindInMarks op b = false) : PT X (.Compare a [op] [b] pos) (tT (gx X T₀) W (tBl (eBin (cmpD op) fa fb))) := by
  refine (pt_cmpR (cmp_ok (T := T₀) wt hu op) ha hb hm).weak fun σ H Q h => ?_
  exact tE_bin (tE_bl h)
theorem pt_tru (ha : PE X a (tE (gx X T₀) W fa)) (he : ∀ whole, isTrue a X.env whole = (do let v ← whole; standAt a.pos; holding [v] (truthy v))) : PT X a (tT (gx X T₀) W (tTru fa)) :=
  (pt_truth ha he).weak fun σ H Q h => tE_tru h
theorem tE_chain {p q : D → D → Mem → O} {σ : St} {H : Hp} {Q : VK} (h : tE G W (eChain p q fa fb fc) σ H Q) : tChain (r2 G p) (r2 G q) (tE G W fa) (tE G W fb) (tE G W fc) σ H Q := by
  obtain ⟨ρ, μ, ι, w, ev, hq⟩ := h
  refine ⟨ρ, μ, ι, w, ev, ?_⟩
  have q1 := Pst.bind w ev hq
  cases hf : fa ρ μ with
  | ok d m =>
    rw [hf] at q1
    intro v H' ι' g' w' r
    obtain ⟨d1, μ1, ι1, g1, w1, e1, r1, z, q2⟩ := q1 v H' ι' g' w' r
    refine ⟨ρ, μ1, ι1, w1, e1, ?_⟩
    have q3 := Pst.bind w1 e1 q2
    cases hg : fb ρ μ1 with
    | ok d' m' =>
      rw [hg] at q3
      intro v' H'' ι'' g'' w'' r'
      obtain ⟨d2, μ2, ι2, g2, w2, e2, r2, z2, q4⟩ := q3 v' H'' ι'' g'' w'' r'
      refine ⟨d1, d2, μ2, ι2, w2, r1.grow w1 g2, r2, ?_⟩
      have q5 := Pst.bind w2 e2 q4
      match hp : p d1 d2 μ2, q5 with
      | some (d3, μ3), q5 =>
        intro v3 H3 ι3 g3 w3 r3
        obtain ⟨d4, μ4, ι4, g4, w4, e4, r4, z4, q6⟩ := q5 v3 H3 ι3 g3 w3 r3
        cases r4 with
        | bl k =>
          refine ⟨k, rfl, ?_⟩
          cases k with
          | false => exact Pst.here w4 (.bl _) q6
          | true =>
            dsimp only at q6
            rw [if_pos rfl] at q6 ⊢
            refine ⟨ρ, μ4, ι4, w4, e4, ?_⟩
            have q7 := Pst.bind w4 e4 q6
            cases hc : fc ρ μ4 with
            | ok d5 m5 =>
              rw [hc] at q7
              intro v5 H5 ι5 g5 w5 r5
              obtain ⟨d6, μ6, ι6, g6, w6, e6, r6, z6, q8⟩ := q7 v5 H5 ι5 g5 w5 r5
              exact ⟨d2, d6, μ6, ι6, w6, r2.grow w2 (g4.trans g6), r6, q8.don⟩
            | ex x m => rw [hc] at q7; exact q7
            | er => rw [hc] at q7; exact q7
        | _ => exact q6.elim
      | none, q5 => exact q5.elim
    | ex x m' => rw [hg] at q3; exact q3
    | er => rw [hg] at q3; exact q3
  | ex x m => rw [hf] at q1; exact q1
  | er => rw [hf] at q1; exact q1
theorem pe_chainE (wt : T₀.w = X.w) (hu : X.A.units + 64 < cLine) (op op' : CmpOp) (ha : PE X a (tE (gx X T₀) W fa)) (hb : PE X b (tE (gx X T₀) W fb)) (hc : PE X c (tE (gx X T₀) W fc)) (hm : lastMarks [op, op'] [b, c] = false) : PE X (.Compare a [op, op'] [b, c] pos) (tE (gx X T₀) W (eChain (cmpD op) (cmpD op') fa fb fc)) :=
  (pe_chain (cmp_ok (T := T₀) wt hu op) (cmp_ok (T := T₀) wt hu op') ha hb hc hm).weak fun σ H Q h => tE_chain h
theorem pt_chainE (wt : T₀.w = X.w) (hu : X.A.units + 64 < cLine) (op op' : CmpOp) (ha : PE X a (tE (gx X T₀) W fa)) (hb : PE X b (tE (gx X T₀) W fb)) (hc : PE X c (tE (gx X T₀) W fc)) (hm : lastMarks [op, op'] [b, c] = false) : PT X (.Compare a [op, op'] [b, c] pos) (tT (gx X T₀) W (tBl (eChain (cmpD op) (cmpD op') fa fb fc))) :=
  (pt_chain (cmp_ok (T := T₀) wt hu op) (cmp_ok (T := T₀) wt hu op') ha hb hc hm).weak fun σ H Q h => tE_chain (tE_bl h)
theorem _root_.L2.PE.gc {X : Cx} {T₀ : TX} {W : WX} {e : Expr} {f : E} (h : PE X e (tE (gx X T₀) W f)) : PE X e (tE (gx X T₀) W (gE f)) := h.weak fun σ H Q q => tE_gc q
theorem pt_cmpG (wt : T₀.w = X.w) (hu : X.A.units + 64 < cLine) (op : CmpOp) (ha : PE X a (tE (gx X T₀) W fa)) (hb : PE X b (tE (gx X T₀) W fb)) (hm : behindInMarks op b = false) : PT X (.Compare a [op] [b] pos) (tT (gx X T₀) W (tBl (gE (eBin (cmpD op) fa fb)))) := by
  refine (pt_cmpR (cmp_ok (T := T₀) wt hu op) ha hb hm).weak fun σ H Q h => ?_
  exact tE_bin (tE_gc (tE_bl h))
theorem pt_chainG (wt : T₀.w = X.w) (hu : X.A.units + 64 < cLine) (op op' : CmpOp) (ha : PE X a (tE (gx X T₀) W fa)) (hb : PE X b (tE (gx X T₀) W fb)) (hc : PE X c (tE (gx X T₀) W fc)) (hm : lastMarks [op, op'] [b, c] = false) : PT X (.Compare a [op, op'] [b, c] pos) (tT (gx X T₀) W (tBl (gE (eChain (cmpD op) (cmpD op') fa fb fc)))) :=
  (pt_chain (cmp_ok (T := T₀) wt hu op) (cmp_ok (T := T₀) wt hu op') ha hb hc hm).weak fun σ H Q h => tE_chain (tE_gc (tE_bl h))
/-! ### and, or, not, if -/
variable {ta tb : T} {rest : List Expr}
theorem pt_no (ha : PT X a (tT (gx X T₀) W ta)) : PT X (.UnaryOp .Not a pos) (tT (gx X T₀) W (tNo ta)) := (pt_not ha).weak fun σ H Q ⟨ρ, μ, ι, w, ev, q⟩ => by
  refine ⟨ρ, μ, ι, w, ev, ?_⟩
  have q1 := PsB.bindB w ev q
  cases hf : ta ρ μ with
  | ok d m => rw [hf] at q1; exact fun H' ι' g' w' => let ⟨μ1, ι1, g1, w1, e1, z, q2⟩ := q1 H' ι' g' w'; PsB.here w1 q2
  | ex x m => rw [hf] at q1; exact q1
  | er => rw [hf] at q1; exact q1
theorem tT_an {σ : St} {H : Hp} {Q : Bool → Hp → Prop} (h : tT G W (tAn ta tb) σ H Q) : tAnd (tT G W ta) (tT G W tb) σ H Q := by
  obtain ⟨ρ, μ, ι, w, ev, q⟩ := h
  refine ⟨ρ, μ, ι, w, ev, ?_⟩
  have q1 := PsB.bindB w ev q
  cases hf : ta ρ μ with
  | ok d m =>
    rw [hf] at q1
    intro H' ι' g' w'
    obtain ⟨μ1, ι1, g1, w1, e1, z, q2⟩ := q1 H' ι' g' w'
    cases d with
    | true => rw [if_pos rfl] at q2 ⊢; exact ⟨ρ, μ1, ι1, w1, e1, q2⟩
    | false => exact PsB.here w1 q2
  | ex x m => rw [hf] at q1; exact q1
  | er => rw [hf] at q1; exact q1
theorem tT_or {σ : St} {H : Hp} {Q : Bool → Hp → Prop} (h : tT G W (tOr' ta tb) σ H Q) : tOr (tT G W ta) (tT G W tb) σ H Q := by
  obtain ⟨ρ, μ, ι, w, ev, q⟩ := h
  refine ⟨ρ, μ, ι, w, ev, ?_⟩
  have q1 := PsB.bindB w ev q
  cases hf : ta ρ μ with
  | ok d m =>
    rw [hf] at q1
    intro H' ι' g' w'
    obtain ⟨μ1, ι1, g1, w1, e1, z, q2⟩ := q1 H' ι' g' w'
    cases d with
    | false => rw [if_neg Bool.false_ne_true] at q2 ⊢; exact ⟨ρ, μ1, ι1, w1, e1, q2⟩
    | true => exact PsB.here w1 q2
  | ex x m => rw [hf] at q1; exact q1
  | er => rw [hf] at q1; exact q1
theorem pw_anE (ha : PT X a (tT (gx X T₀) W ta)) (hb : PW X (.BoolOp .And (b :: rest) pos) (tT (gx X T₀) W tb)) : PW X (.BoolOp .And (a :: b :: rest) pos) (tT (gx X T₀) W (tAn ta tb)) := (pw_and ha hb).weak fun σ H Q h => tT_an h
theorem pw_orE (ha : PT X a (tT (gx X T₀) W ta)) (hb : PW X (.BoolOp .Or (b :: rest) pos) (tT (gx X T₀) W tb)) : PW X (.BoolOp .Or (a :: b :: rest) pos) (tT (gx X T₀) W (tOr' ta tb)) := (pw_or ha hb).weak fun σ H Q h => tT_or h
theorem pe_noE (ha : PE X a (tE (gx X T₀) W fa)) : PE X (.UnaryOp .Not a pos) (tE (gx X T₀) W (eNo fa)) := (pe_notT ha).weak fun σ H Q ⟨ρ, μ, ι, w, ev, q⟩ => by
  refine ⟨ρ, μ, ι, w, ev, ?_⟩
  have q1 := Pst.bind w ev q
  cases hf : fa ρ μ with
  | ok d m =>
    rw [hf] at q1
    intro v H' ι' g' w' r
    obtain ⟨d1, μ1, ι1, g1, w1, e1, r1, z, q2⟩ := q1 v H' ι' g' w' r
    split at q2
    · rename_i b hb
      exact ⟨b, tru_rel w1 r1 hb, Pst.here w1 (.bl _) q2⟩
    · exact q2.elim
  | ex x m => rw [hf] at q1; exact q1
  | er => rw [hf] at q1; exact q1
theorem pe_anE (ha : PE X a (tE (gx X T₀) W fa)) (hb : PE X (.BoolOp .And (b :: rest) pos) (tE (gx X T₀) W fb)) : PE X (.BoolOp .And (a :: b :: rest) pos) (tE (gx X T₀) W (eAn fa fb)) := (pe_and ha hb).weak fun σ H Q ⟨ρ, μ, ι, w, ev, q⟩ => by
  refine ⟨ρ, μ, ι, w, ev, ?_⟩
  have q1 := Pst.bind w ev q
  cases hf : fa ρ μ with
  | ok d m =>
    rw [hf] at q1
    intro v H' ι' g' w' r
    obtain ⟨d1, μ1, ι1, g1, w1, e1, r1, z, q2⟩ := q1 v H' ι' g' w' r
    cases r1 with
    | bl k =>
      refine ⟨k, rfl, ?_⟩
      cases k with
      | true => dsimp only at q2; rw [if_pos rfl] at q2 ⊢; exact ⟨ρ, μ1, ι1, w1, e1, q2⟩
      | false => exact Pst.here w1 (.bl _) q2
    | _ => exact q2.elim
  | ex x m => rw [hf] at q1; exact q1
  | er => rw [hf] at q1; exact q1
theorem pe_orE (ha : PE X a (tE (gx X T₀) W fa)) (hb : PE X (.BoolOp .Or (b :: rest) pos) (tE (gx X T₀) W fb)) : PE X (.BoolOp .Or (a :: b :: rest) pos) (tE (gx X T₀) W (eOr fa fb)) := (pe_or ha hb).weak fun σ H Q ⟨ρ, μ, ι, w, ev, q⟩ => by
  refine ⟨ρ, μ, ι, w, ev, ?_⟩
  have q1 := Pst.bind w ev q
  cases hf : fa ρ μ with
  | ok d m =>
    rw [hf] at q1
    intro v H' ι' g' w' r
    obtain ⟨d1, μ1, ι1, g1, w1, e1, r1, z, q2⟩ := q1 v H' ι' g' w' r
    cases r1 with
    | bl k =>
      refine ⟨k, rfl, ?_⟩
      cases k with
      | false => dsimp only at q2; rw [if_neg Bool.false_ne_true] at q2 ⊢; exact ⟨ρ, μ1, ι1, w1, e1, q2⟩
      | true => exact Pst.here w1 (.bl _) q2
    | _ => exact q2.elim
  | ex x m => rw [hf] at q1; exact q1
  | er => rw [hf] at q1; exact q1
theorem pe_ifE (hc : PT X c (tT (gx X T₀) W ta)) (ha : PE X a (tE (gx X T₀) W fa)) (hb : PE X b (tE (gx X T₀) W fb)) : PE X (.IfExp c a b pos) (tE (gx X T₀) W (eIf ta fa fb)) := (pe_ifExp hc ha hb).weak fun σ H Q ⟨ρ, μ, ι, w, ev, q⟩ => by
  refine ⟨ρ, μ, ι, w, ev, ?_⟩
  have q1 := PsB.bind w ev q
  cases hf : ta ρ μ with
  | ok d m =>
    rw [hf] at q1
    intro H' ι' g' w'
    obtain ⟨μ1, ι1, g1, w1, e1, z, q2⟩ := q1 H' ι' g' w'
    cases d with
    | true => rw [if_pos rfl] at q2 ⊢; exact ⟨ρ, μ1, ι1, w1, e1, q2⟩
    | false => rw [if_neg Bool.false_ne_true] at q2 ⊢; exact ⟨ρ, μ1, ι1, w1, e1, q2⟩
  | ex x m => rw [hf] at q1; exact q1
  | er => rw [hf] at q1; exact q1
/-! ### argument lists, displays, calls -/
variable {es : List Expr} {fs : Es}
theorem pa_nilE : PA X [] (tEs (gx X T₀) W esNil) := pa_nil.weak fun σ H Q ⟨ρ, μ, ι, w, ev, q⟩ => PsL.here w .nil q
theorem pa_consE (ha : PE X a (tE (gx X T₀) W fa)) (hr : PA X es (tEs (gx X T₀) W fs)) (hs : starEach (a :: es) X.env = (false, eval a X.env) :: starEach es X.env) : PA X (a :: es) (tEs (gx X T₀) W (esCons fa fs)) := (pa_cons ha hr hs).weak fun σ H Q ⟨ρ, μ, ι, w, ev, q⟩ => by
  refine ⟨ρ, μ, ι, w, ev, ?_⟩
  have q1 := Pst.bindL w ev q
  cases hf : fa ρ μ with
  | ok d m =>
    rw [hf] at q1
    intro v H' ι' g' w' r
    obtain ⟨d1, μ1, ι1, g1, w1, e1, r1, z, q2⟩ := q1 v H' ι' g' w' r
    refine ⟨ρ, μ1, ι1, w1, e1, ?_⟩
    have q3 := PsL.bindL w1 e1 q2
    cases hg : fs ρ μ1 with
    | ok d' m' =>
      rw [hg] at q3
      intro v' H'' ι'' g'' w'' r'
      obtain ⟨d2, μ2, ι2, g2, w2, e2, r2, z2, q4⟩ := q3 v' H'' ι'' g'' w'' r'
      exact PsL.here w2 (.cons (r1.grow w1 g2) r2) q4
    | ex x m' => rw [hg] at q3; exact q3
    | er => rw [hg] at q3; exact q3
  | ex x m => rw [hf] at q1; exact q1
  | er => rw [hf] at q1; exact q1
/-- arguments, then a primitive by values -/
theorem tE_app {p : List D → Mem → O} {σ : St} {H : Hp} {Q : VK} (h : tE G W (eApp p fs) σ H Q) : tEs G W fs σ H fun vs H1 => rn G p vs H1 Q := by
  obtain ⟨ρ, μ, ι, w, ev, q⟩ := h
  refine ⟨ρ, μ, ι, w, ev, ?_⟩
  have q1 := PsL.bind w ev q
  cases hf : fs ρ μ with
  | ok d m =>
    rw [hf] at q1
    intro v H' ι' g' w' r
    obtain ⟨d1, μ1, ι1, g1, w1, e1, r1, z, q2⟩ := q1 v H' ι' g' w' r
    exact ⟨d1, μ1, ι1, w1, r1, q2.don⟩
  | ex x m => rw [hf] at q1; exact q1
  | er => rw [hf] at q1; exact q1
theorem tEs_mono {σ : St} {H : Hp} {Q Q' : List V → Hp → Prop} (h : tEs G W fs σ H Q) (i : ∀ vs H1, Q vs H1 → Q' vs H1) : tEs G W fs σ H Q' := by
  obtain ⟨ρ, μ, ι, w, ev, q⟩ := h
  refine ⟨ρ, μ, ι, w, ev, ?_⟩
  cases hf : fs ρ μ with
  | ok d m => rw [hf] at q; exact fun v H' ι' g' w' r => i _ _ (q v H' ι' g' w' r)
  | ex x m => rw [hf] at q; exact q
  | er => rw [hf] at q; exact q
theorem tE_mono {σ : St} {H : Hp} {Q Q' : VK} (h : tE G W fa σ H Q) (i : ∀ vs H1, Q vs H1 → Q' vs H1) : tE G W fa σ H Q' := by
  obtain ⟨ρ, μ, ι, w, ev, q⟩ := h
  refine ⟨ρ, μ, ι, w, ev, ?_⟩
  cases hf : fa ρ μ with
  | ok d m => rw [hf] at q; exact fun v H' ι' g' w' r => i _ _ (q v H' ι' g' w' r)
  | ex x m => rw [hf] at q; exact q
  | er => rw [hf] at q; exact q
theorem pe_tupE {k : Nat} (h : PA X es (tEs (gx X T₀) W fs)) : PE X (.Tuple es k pos) (tE (gx X T₀) W (eApp tupP fs)) := (pe_tup h).weak fun σ H Q q => by
  have hs : sizeLine = 16777216 := sizeLine_eq
  refine tEs_mono (tE_app q) fun vs H1 ⟨ds, μ, ι, w, r, d⟩ => ?_
  unfold tupP at d
  split at d
  · rename_i hz
    exact ⟨by rw [← r.length]; omega, Don.tup w r d⟩
  · exact d.elim
theorem pe_lstE (h : PA X es (tEs (gx X T₀) W fs)) : PE X (.List es pos) (tE (gx X T₀) W (eApp lstP fs)) := (pe_lst h).weak fun σ H Q q => by
  have hs : sizeLine = 16777216 := sizeLine_eq
  refine tEs_mono (tE_app q) fun vs H1 ⟨ds, μ, ι, w, r, d⟩ => ?_
  unfold lstP at d
  split at d
  · rename_i hz
    exact ⟨by rw [← r.length]; omega, Don.lst w r d⟩
  · exact d.elim
/-- f(e, ..), f a built-in function; a built-in type -/
theorem pe_bi {x : Str} {n : String} {p : List D → Mem → O} {q : Pos} (hp : CallR X (.builtin n) (rn (gx X T₀) p)) (hg : Gl X x) (hm : X.mg x = none) (hv : bootBuiltins x = some (.builtin n)) (ha : PA X (a :: es) (tEs (gx X T₀) W fs)) (hn : x ≠ "__name__") (hdb : (x == ("__debug__" : Str)) = false)
    (he : starEach (a :: es) X.env = (false, eval a X.env) :: starEach es X.env) (hpl : (backTo pos (starEach es X.env)).any (·.1) = false) : PE X (.Call (.Name x q) (a :: es) [] pos) (tE (gx X T₀) W (eApp p fs)) :=
  (pe_callB hp hg hm hv ha hn hdb he hpl).weak fun σ H Q h => tE_app h
theorem pe_ty {x : Str} {n : String} {p : List D → Mem → O} {q : Pos} (hp : CallR X (.type n) (rn (gx X T₀) p)) (hg : Gl X x) (hm : X.mg x = none) (hv : bootBuiltins x = some (.type n)) (ha : PA X (a :: es) (tEs (gx X T₀) W fs)) (hn : x ≠ "__name__") (hdb : (x == ("__debug__" : Str)) = false)
    (he : starEach (a :: es) X.env = (false, eval a X.env) :: starEach es X.env) (hpl : (backTo pos (starEach es X.env)).any (·.1) = false) : PE X (.Call (.Name x q) (a :: es) [] pos) (tE (gx X T₀) W (eApp p fs)) :=
  (pe_callTy hp hg hm hv ha hn hdb he hpl).weak fun σ H Q h => tE_app h
end
end Ev

set_option Elab.async false
set_option linter.all false
set_option maxRecDepth 100000
set_option maxHeartbeats 4000000
namespace Ev
open PySem PySem.Spec PyProof.Rows L2
theorem _root_.L2.PE.or {X : Cx} {e : Expr} {t t' : TE} (h : PE X e t) (h' : PE X e t') : PE X e (fun σ H Q => t σ H Q ∨ t' σ H Q) := ⟨fun pins s σ H Q I q => q.elim (h.run pins s σ H Q I) (h'.run pins s σ H Q I)⟩
theorem l2takes0 {X : Cx} : L2.Takes X (fun _ _ _ _ => False) := fun _ _ ⟨_, _, _, _, _, _, _, _, _, _, _, _, _, _, _, _, z⟩ => z.elim
section
variable {X : Cx} {T₀ : TX} {W : WX} {G : Gc} {ι : List Addr} {H : Hp} {μ : Mem} {σ : St} {ρ : Env} {E₀ : XK} {a b c o : Expr} {fa fb fc fo : E} {pos apos cpos : Pos} {es : List Expr} {fs : Es}
/-! ### items -/
theorem RelDs.at {ds : List D} {vs : List V} (r : RelDs G ι H ds vs) {i : Int} {d : D} (h : atI ds i = some d) : ∃ v, atI vs i = some v ∧ RelD G ι H d v := by
  unfold atI at h ⊢
  rw [← r.length]
  cases e : ixN ds.length i with
  | none => rw [e] at h; cases h
  | some j => rw [e] at h; exact r.get h
def ixD : D → D → Mem → O
  | .str z, .int i, μ => if z.length ≤ sizeLine then (match atI z.cps.toList i with
    | some c => some (.str ⟨#[c]⟩, μ)
    | none => none) else none
  | d, .int i, μ => match seqD μ d with
    | some xs => match atI xs i with
      | some x => some (x, μ)
      | none => none
    | none => none
  | .loc n, d, μ => match dctAt μ n, keyT d with
    | some (_, kvs), some k => (match dGet kvs k with
      | some z => some (z, μ)
      | none => none)
    | _, _ => none
  | _, _, _ => none
theorem ix_okD (wt : T₀.w = X.w) (hu : X.A.units + 64 < cLine) : IxR X (r2 (gx X T₀) ixD) := by
  intro value slice pins s σ H x y v u Q I rx ry h hs
  obtain ⟨d, e, μ, ι, w, rd, re, h⟩ := h
  unfold ixD at h
  split at h
  · cases rd; cases re
    split at h
    · rename_i hz
      split at h
      · rename_i c e1
        exact ix_str value slice pins s σ H _ _ v u Q I rx ry ⟨_, _, c, rfl, rfl, hz, e1, Don.val w (.str _) h⟩ hs
      · exact h.elim
    · exact h.elim
  · cases re
    split at h
    · rename_i xs e1
      split at h
      · rename_i z e2
        obtain ⟨p, vs, rfl, hq, q⟩ := seq_rel w rd e1
        obtain ⟨v1, h1, h2⟩ := q.at e2
        rcases hq with hq | hq
        · exact ix_list value slice pins s σ H _ _ v u Q I rx ry ⟨p, vs, _, v1, rfl, rfl, hq, h1, Don.val w h2 h⟩ hs
        · exact ix_tup value slice pins s σ H _ _ v u Q I rx ry ⟨p, vs, _, v1, rfl, rfl, hq, h1, Don.val w h2 h⟩ hs
      · exact h.elim
    · exact h.elim
  · split at h
    · rename_i e1 e2
      split at h
      · rename_i z e3
        exact ix_dct wt hu w I rd re rx ry e2 e1 e3 (fun v1 r1 => Don.val w r1 h) hs
      · exact h.elim
    · exact h.elim
  · exact h.elim
theorem pe_ixE (wt : T₀.w = X.w) (hu : X.A.units + 64 < cLine) (ha : PE X a (tE (gx X T₀) W fa)) (hb : PE X b (tE (gx X T₀) W fb)) (hs : PlainIx b) : PE X (.Subscript a b pos) (tE (gx X T₀) W (eBin ixD fa fb)) := (pe_ix (ix_okD (T₀ := T₀) wt hu) ha hb hs).weak fun σ H Q h => tE_bin h
/-! ### slices -/
def cutD (xs : List D) (lo hi : Option Int) : List D := (xs.drop (HT.sIx xs.length 0 lo)).take (HT.sIx xs.length xs.length hi - HT.sIx xs.length 0 lo)
theorem RelDs.cut {ds : List D} {vs : List V} (r : RelDs G ι H ds vs) (lo hi : Option Int) : RelDs G ι H (cutD ds lo hi) (cutV vs lo hi) := by
  unfold cutD cutV
  rw [r.length]
  exact (r.drop _).take _
def slD : D → Option Int → Option Int → Mem → O
  | .str z, lo, hi, μ => if z.length ≤ sizeLine then some (.str (cutS z lo hi), μ) else none
  | .tup xs, lo, hi, μ => some (.tup (cutD xs lo hi), μ)
  | d, lo, hi, μ => match seqD μ d with
    | some xs => some (.loc μ.length, μ ++ [.lst (cutD xs lo hi)])
    | none => none
theorem sl_okD : SlR X (fun x lo hi H Q => ∃ d μ ι, Wd (gx X T₀) ι μ H ∧ RelD (gx X T₀) ι H d x ∧ Don (gx X T₀) ι H Q (slD d lo hi μ)) := by
  intro pins s σ H x v vl vu lo hi sl Q I rx hs pl pu h
  obtain ⟨d, μ, ι, w, rd, h⟩ := h
  unfold slD at h
  split at h
  · cases rd
    split at h
    · rename_i hz
      exact sl_str pins s σ H _ v vl vu lo hi sl Q I rx hs pl pu ⟨_, rfl, hz, Don.val w (.str _) h⟩
    · exact h.elim
  · cases rd with
    | tup h1 q =>
      refine sl_tupA pins s σ H _ v vl vu lo hi sl Q I rx hs pl pu ⟨_, _, rfl, h1, fun hw => ?_, fun _ => Don.tup w (q.cut lo hi) h⟩
      refine Don.val w (.tup h1 ?_) h
      rename_i xs a vs
      have e : cutD xs lo hi = xs := by
        unfold cutD
        rw [q.length, hw.1, hw.2]
        rw [List.drop_zero]
        exact List.take_of_length_le (by rw [q.length]; omega)
      rw [e]
      exact q
  · split at h
    · rename_i xs e1
      cases rd with
      | fl h1 q =>
        cases e1
        exact sl_list pins s σ H _ v vl vu lo hi sl Q I rx hs pl pu ⟨_, _, rfl, h1.sq, Don.lst w (q.cut lo hi) h⟩
      | loc e2 =>
        obtain ⟨p, vs, e3, _, l, q⟩ := w.lst (.loc e2) (lstAt_some e1)
        cases e3
        exact sl_list pins s σ H _ v vl vu lo hi sl Q I rx hs pl pu ⟨_, _, rfl, SqL.of l, Don.lst w (q.cut lo hi) h⟩
      | tup h1 q => first | exact absurd rfl (hn1 _) | (exfalso; rename_i a1 a2 a3 a4; first | exact a1 _ rfl | exact a2 _ rfl | exact a3 _ rfl | exact a4 _ rfl) | trace_state
      | _ => cases e1
    · exact h.elim
/-- a slice's part -/
abbrev OE := Env → Mem → R (Option Int)
def oNo : OE := fun _ μ => .ok none μ
def oSo (a : E) : OE := fun ρ μ => (a ρ μ).bind fun x μ1 => match x with
  | .int i => .ok (some i) μ1
  | _ => .er
def PsO (G : Gc) (ι : List Addr) (H : Hp) (E : XK) (Q : Option Int → Hp → Prop) : R (Option Int) → Prop
  | .ok d μ' => ∀ H' ι', Grow G ι H ι' H' → Wd G ι' μ' H' → Q d H'
  | .ex x μ' => ∀ H' ι' cls od, Grow G ι H ι' H' → Wd G ι' μ' H' → ExR G x cls od H' → E cls od H'
  | .er => False
def tO (G : Gc) (W : WX) (f : OE) : TO := fun σ H Q => ∃ ρ μ ι, Wd G ι μ H ∧ EnvR G ι H ρ σ ∧ PsO G ι H (fun c d H' => W c d σ H') Q (f ρ μ)
theorem _root_.L2.PO.weak {X : Cx} {e : Option Expr} {t t' : TO} (h : PO X e t) (i : ∀ σ H Q, t' σ H Q → t σ H Q) : PO X e t' := ⟨fun pins s σ H Q I q => h.run pins s σ H Q I (i σ H Q q)⟩
theorem po_noE : PO X none (tO (gx X T₀) W oNo) := po_none.weak fun σ H Q ⟨ρ, μ, ι, w, ev, q⟩ => q H ι .refl w
theorem po_soE (ha : PE X a (tE (gx X T₀) W fa)) : PO X (some a) (tO (gx X T₀) W (oSo fa)) := (po_some ha).weak fun σ H Q ⟨ρ, μ, ι, w, ev, q⟩ => by
  refine ⟨ρ, μ, ι, w, ev, ?_⟩
  unfold oSo at q
  cases hf : fa ρ μ with
  | ok d m =>
    rw [hf] at q
    intro v H' ι' g' w' r
    cases r <;> first | exact q.elim | exact ⟨_, rfl, q H' ι' g' w'⟩
  | ex x m => rw [hf] at q; exact q
  | er => rw [hf] at q; exact q
def eSl (a : E) (lo hi : OE) : E := fun ρ μ => (a ρ μ).bind fun x μ1 => (lo ρ μ1).bind fun l μ2 => (hi ρ μ2).bind fun h μ3 => (slD x l h μ3).r
theorem PsO.grow {ι1 : List Addr} {H1 : Hp} {Q : Option Int → Hp → Prop} {r : R (Option Int)} (g : Grow G ι H ι1 H1) (h : PsO G ι H E₀ Q r) : PsO G ι1 H1 E₀ Q r := by
  cases r with
  | ok d m => exact fun H' ι' g' w => h H' ι' (g.trans g') w
  | ex x m => exact fun H' ι' cls od g' w r => h H' ι' cls od (g.trans g') w r
  | er => exact h
theorem PsO.bind {f : R (Option Int)} {g : Option Int → Mem → R D} {Q : VK} (w : Wd G ι μ H) (e : EnvR G ι H ρ σ) (h : Pst G ι H E₀ Q (f.bind g)) :
    PsO G ι H E₀ (fun c H1 => ∃ μ1 ι1, Grow G ι H ι1 H1 ∧ Wd G ι1 μ1 H1 ∧ EnvR G ι1 H1 ρ σ ∧ f = .ok c μ1 ∧ Pst G ι1 H1 E₀ Q (g c μ1)) f := by
  cases f with
  | ok d m => exact fun H' ι' g' w' => ⟨m, ι', g', w', e.grow w g', rfl, Pst.grow g' h⟩
  | ex x m => exact h
  | er => exact h
theorem pe_slE {lo hi : Option Expr} {fl fh : OE} {p2 : Pos} (ha : PE X a (tE (gx X T₀) W fa)) (hl : PO X lo (tO (gx X T₀) W fl)) (hh : PO X hi (tO (gx X T₀) W fh)) : PE X (.Subscript a (.Slice lo hi none p2) pos) (tE (gx X T₀) W (eSl fa fl fh)) :=
  (pe_slice (sl_okD (T₀ := T₀)) ha hl hh).weak fun σ H Q ⟨ρ, μ, ι, w, ev, q⟩ => by
    refine ⟨ρ, μ, ι, w, ev, ?_⟩
    have q1 := Pst.bind w ev q
    cases hf : fa ρ μ with
    | ok d m =>
      rw [hf] at q1
      intro v H' ι' g' w' r
      obtain ⟨d1, μ1, ι1, g1, w1, e1, r1, z, q2⟩ := q1 v H' ι' g' w' r
      refine ⟨ρ, μ1, ι1, w1, e1, ?_⟩
      have q3 := PsO.bind w1 e1 q2
      cases hg : fl ρ μ1 with
      | ok d' m' =>
        rw [hg] at q3
        intro H2 ι2 g2 w2
        obtain ⟨μ2, ι2, g2, w2, e2, z2, q4⟩ := q3 H2 ι2 g2 w2
        refine ⟨ρ, μ2, ι2, w2, e2, ?_⟩
        have q5 := PsO.bind w2 e2 q4
        cases hh : fh ρ μ2 with
        | ok d3 m3 =>
          rw [hh] at q5
          intro H3 ι3 g3 w3
          obtain ⟨μ3, ι3, g3, w3, e3, z3, q6⟩ := q5 H3 ι3 g3 w3
          exact ⟨d1, μ3, ι3, w3, r1.grow w1 (g2.trans g3), q6.don⟩
        | ex x m' => rw [hh] at q5; exact q5
        | er => rw [hh] at q5; exact q5
      | ex x m' => rw [hg] at q3; exact q3
      | er => rw [hg] at q3; exact q3
    | ex x m => rw [hf] at q1; exact q1
    | er => rw [hf] at q1; exact q1
/-- xs[::-1] of a list -/
def revD : D → Mem → O := fun d μ => match d with
  | .tup _ => none
  | d => match seqD μ d with
    | some xs => some (.loc μ.length, μ ++ [.lst xs.reverse])
    | none => none
theorem RelDs.rev : ∀ {ds : List D} {vs : List V}, RelDs G ι H ds vs → RelDs G ι H ds.reverse vs.reverse
  | _, _, .nil => .nil
  | _, _, .cons r rs => by
    rw [List.reverse_cons, List.reverse_cons]
    exact rs.rev.append (.cons r .nil)
theorem tE_un {p : D → Mem → O} {σ : St} {H : Hp} {Q : VK} (h : tE G W (eUn p fa) σ H Q) : tE G W fa σ H fun x H1 => r1 G p x H1 Q := by
  obtain ⟨ρ, μ, ι, w, ev, q⟩ := h
  refine ⟨ρ, μ, ι, w, ev, ?_⟩
  have q1 := Pst.bind w ev q
  cases hf : fa ρ μ with
  | ok d m =>
    rw [hf] at q1
    intro v H' ι' g' w' r
    obtain ⟨d1, μ1, ι1, g1, w1, e1, r1, z, q2⟩ := q1 v H' ι' g' w' r
    exact ⟨d1, μ1, ι1, w1, r1, q2.don⟩
  | ex x m => rw [hf] at q1; exact q1
  | er => rw [hf] at q1; exact q1
theorem pe_revE {k : Nat} {p1 p2 p3 : Pos} (ha : PE X a (tE (gx X T₀) W fa)) : PE X (.Subscript a (.Slice none none (some (.UnaryOp .USub (.Constant (.int 1) k p1) p2)) p3) pos) (tE (gx X T₀) W (eUn revD fa)) :=
  (pe_revL ha).weak fun σ H Q h => tE_mono (tE_un h) fun x H1 ⟨d, μ, ι, w, r, q⟩ => by
    unfold revD at q
    split at q
    · exact q.elim
    · rename_i d hn
      split at q
      · rename_i xs e
        cases r with
        | tup h1 q1 => exact absurd rfl (hn _)
        | fl h1 q1 => cases e; exact ⟨_, _, rfl, h1.sq, Don.lst w q1.rev q⟩
        | loc e1 =>
          obtain ⟨p, vs, e2, _, l, q1⟩ := w.lst (.loc e1) (lstAt_some e)
          exact ⟨p, vs, e2, SqL.of l, Don.lst w q1.rev q⟩
        | _ => cases e
      · exact q.elim
def negD : D → Mem → O
  | .int i, μ => some (.int (-i), μ)
  | _, _ => none
theorem pe_negE (ha : PE X a (tE (gx X T₀) W fa)) : PE X (.UnaryOp .USub a pos) (tE (gx X T₀) W (eUn negD fa)) :=
  (pe_un un_neg ha).weak fun σ H Q h => tE_mono (tE_un h) fun x H1 ⟨d, μ, ι, w, r, q⟩ => by
    cases r <;> first | exact q.elim | exact ⟨_, rfl, Don.val w (.int _) q⟩
/-! ### methods of built-in types -/
def kindD (μ : Mem) : D → String
  | .str _ => "str"
  | .tup _ => "tuple"
  | .loc n => match lstAt μ n with
    | some _ => "list"
    | none => ""
  | _ => ""
def eMt (T : String) (p : D → List D → Mem → O) (o : E) (as : Es) : E := fun ρ μ => (o ρ μ).bind fun x μ1 => if kindD μ1 x = T then (as ρ μ1).bind fun xs μ2 => (p x xs μ2).r else .er
/-- by a method's rule -/
def rMt (G : Gc) (p : D → List D → Mem → O) : V → List V → Hp → VK → Prop := fun x xs H Q => ∃ d ds μ ι, Wd G ι μ H ∧ RelD G ι H d x ∧ RelDs G ι H ds xs ∧ Don G ι H Q (p d ds μ)
theorem tE_mt {T : String} {p : D → List D → Mem → O} {σ : St} {H : Hp} {Q : VK} (hT : T = "list" ∨ T = "str") (h : tE (gx X T₀) W (eMt T p fo fs) σ H Q) : tBM X.K T (rMt (gx X T₀) p) (tE (gx X T₀) W fo) (tEs (gx X T₀) W fs) σ H Q := by
  obtain ⟨ρ, μ, ι, w, ev, q⟩ := h
  refine ⟨ρ, μ, ι, w, ev, ?_⟩
  have q1 := Pst.bind w ev q
  cases hf : fo ρ μ with
  | ok d m =>
    rw [hf] at q1
    intro v H' ι' g' w' r
    obtain ⟨d1, μ1, ι1, g1, w1, e1, r1, z, q2⟩ := q1 v H' ι' g' w' r
    split at q2
    · rename_i hk
      refine ⟨?_, ρ, μ1, ι1, w1, e1, ?_⟩
      · rcases hT with rfl | rfl
        · cases r1 with
          | loc e2 =>
            unfold kindD at hk
            dsimp only at hk
            split at hk
            · rename_i xs e3
              obtain ⟨p, vs, e4, _, l, q3⟩ := w1.lst (.loc e2) (lstAt_some e3)
              cases e4
              exact .inl ⟨rfl, _, SqL.of l⟩
            · exact absurd hk (by decide)
          | str x => exact absurd (show "str" = "list" from hk) (by decide)
          | tup _ _ => exact absurd (show "tuple" = "list" from hk) (by decide)
          | _ => exact absurd (show "" = "list" from hk) (by decide)
        · cases r1 with
          | str x => rfl
          | loc e2 =>
            unfold kindD at hk
            dsimp only at hk
            split at hk <;> exact absurd hk (by decide)
          | tup _ _ => exact absurd (show "tuple" = "str" from hk) (by decide)
          | _ => exact absurd (show "" = "str" from hk) (by decide)
      · have q3 := PsL.bind w1 e1 q2
        cases hg : fs ρ μ1 with
        | ok d' m' =>
          rw [hg] at q3
          intro v' H'' ι'' g'' w'' r'
          obtain ⟨d2, μ2, ι2, g2, w2, e2, r2, z2, q4⟩ := q3 v' H'' ι'' g'' w'' r'
          exact ⟨d1, d2, μ2, ι2, w2, r1.grow w1 g2, r2, q4.don⟩
        | ex x m' => rw [hg] at q3; exact q3
        | er => rw [hg] at q3; exact q3
    · exact q2.elim
  | ex x m => rw [hf] at q1; exact q1
  | er => rw [hf] at q1; exact q1
/-- list.append, extend, pop -/
def appendD : D → List D → Mem → O
  | .loc n, [y], μ => match lstAt μ n with
    | some xs => if xs.length < 16777216 then some (.non, μ.set n (.lst (xs ++ [y]))) else none
    | none => none
  | _, _, _ => none
theorem append_ok : MtR X "list.append" (rMt (gx X T₀) appendD) := by
  intro pins s σ H x xs v us Q I rx rxs h
  obtain ⟨d, ds, μ, ι, w, rd, rds, h⟩ := h
  have hs : sizeLine = 16777216 := sizeLine_eq
  unfold appendD at h
  split at h
  · obtain ⟨y, rfl, ry⟩ := RelDs.one (ds := []) rds
    split at h
    · rename_i xs e
      split at h
      · rename_i hz
        obtain ⟨p, vs, rfl, i1, l, q⟩ := w.lst rd (lstAt_some e)
        refine mt_append pins s σ H _ _ v us Q I rx rxs ⟨p, vs, y, rfl, rfl, l, by rw [← q.length]; omega, ?_⟩
        exact Don.wr w i1 l (q.append (.cons ry .nil)) .non h
      · exact h.elim
    · exact h.elim
  · exact h.elim
def extendD : D → List D → Mem → O
  | .loc n, [.loc m], μ => match lstAt μ n, lstAt μ m with
    | some xs, some ys => if sumLen xs.length ys.length then some (.non, μ.set n (.lst (xs ++ ys))) else none
    | _, _ => none
  | _, _, _ => none
theorem extend_ok : MtR X "list.extend" (rMt (gx X T₀) extendD) := by
  intro pins s σ H x xs v us Q I rx rxs h
  obtain ⟨d, ds, μ, ι, w, rd, rds, h⟩ := h
  unfold extendD at h
  split at h
  · obtain ⟨y, rfl, ry⟩ := RelDs.one (ds := []) rds
    split at h
    · rename_i xs ys e e2
      split at h
      · rename_i hz
        obtain ⟨p, vs, rfl, i1, l, q⟩ := w.lst rd (lstAt_some e)
        obtain ⟨p2, vs2, rfl, i2, l2, q2⟩ := w.lst ry (lstAt_some e2)
        refine mt_extend pins s σ H _ _ v us Q I rx rxs ⟨p, p2, vs, vs2, rfl, rfl, l, l2, by rw [← q.length, ← q2.length]; exact sumLen_le hz, ?_⟩
        exact Don.wr w i1 l (q.append q2) .non h
      · exact h.elim
    · exact h.elim
  · exact h.elim
/-- list.index of texts -/
def strsD : List D → Option (List Str)
  | [] => some []
  | .str b :: r => (strsD r).map (b :: ·)
  | _ => none
theorem strsD_rel : ∀ {ds : List D} {vs : List V} {bs : List Str}, RelDs G ι H ds vs → strsD ds = some bs → vs = bs.map V.str
  | [], _, _, .nil, h => by cases h; rfl
  | .str b :: r, _, bs, .cons (.str _) rs, h => by
    unfold strsD at h
    cases e : strsD r with
    | none => rw [e] at h; cases h
    | some cs => rw [e] at h; cases h; rw [strsD_rel rs e]; rfl
  | .non :: _, _, _, _, h => by cases h
  | .bl _ :: _, _, _, _, h => by cases h
  | .int _ :: _, _, _, _, h => by cases h
  | .tup _ :: _, _, _, _, h => by cases h
  | .fl _ :: _, _, _, _, h => by cases h
  | .loc _ :: _, _, _, _, h => by cases h
  | .gl _ :: _, _, _, _, h => by cases h
  | .rw _ :: _, _, _, _, h => by cases h
def indexLD : D → List D → Mem → O
  | .loc n, [.str y], μ => match lstAt μ n with
    | some xs => match strsD xs with
      | some ys => match ys.findIdx? (· == y) with
        | some j => some (.int (j : Nat), μ)
        | none => none
      | none => none
    | none => none
  | _, _, _ => none
theorem flatV_strs : ∀ (ys : List Str), (ys.map V.str).all flatV = true
  | [] => rfl
  | _ :: r => by rw [List.map_cons, List.all_cons, flatV_strs r]; rfl
theorem indexL_ok : MtR X "list.index" (rMt (gx X T₀) indexLD) := by
  intro pins s σ H x xs v us Q I rx rxs h
  obtain ⟨d, ds, μ, ι, w, rd, rds, h⟩ := h
  unfold indexLD at h
  split at h
  · rename_i _ _ n y
    obtain ⟨u, rfl, ry⟩ := RelDs.one (ds := []) rds
    cases ry
    split at h
    · rename_i xs e
      split at h
      · rename_i ys e2
        split at h
        · rename_i j e3
          obtain ⟨p, vs, rfl, i1, l, q⟩ := w.lst rd (lstAt_some e)
          have ev := strsD_rel q e2
          subst ev
          obtain ⟨hj, h1, h2⟩ := List.findIdx?_eq_some_iff_getElem.mp e3
          have hz : ys[j]? = some y := by
            rw [List.getElem?_eq_getElem hj]
            exact congrArg some (eq_of_beq h1)
          refine mt_index pins s σ H _ _ v us Q I rx rxs ⟨p, _, .str y, j, .str y, rfl, rfl, SqL.of l, rfl, flatV_strs ys, by rw [List.getElem?_map, hz]; rfl, by show (y == y) = true; exact beq_self_eq_true y, fun m z' hm hz' => ?_, Don.val w (.int _) h⟩
          rw [List.getElem?_map] at hz'
          have hm' : m < ys.length := Nat.lt_trans hm hj
          rw [List.getElem?_eq_getElem hm'] at hz'
          cases hz'
          show (ys[m] == y) = false
          have := h2 m hm
          simpa using this
        · exact h.elim
      · exact h.elim
    · exact h.elim
  · exact h.elim
/-- methods of texts -/
def countD : D → List D → Mem → O
  | .str x, [.str y], μ => some (.int (Txt.count x y), μ)
  | _, _, _ => none
theorem count_ok : MtR X "str.count" (rMt (gx X T₀) countD) := by
  intro pins s σ H x xs v us Q I rx rxs h
  obtain ⟨d, ds, μ, ι, w, rd, rds, h⟩ := h
  unfold countD at h
  split at h
  · obtain ⟨u, rfl, ry⟩ := RelDs.one (ds := []) rds
    cases ry; cases rd
    exact mt_count pins s σ H _ _ v us Q I rx rxs ⟨_, _, rfl, rfl, Don.val w (.int _) h⟩
  · exact h.elim
def splitD : D → List D → Mem → O
  | .str x, [.str y], μ => if y.length ≠ 0 ∧ x.length + 2 ≤ sizeLine then some (.loc μ.length, μ ++ [.lst ((Txt.split x y).map D.str)]) else none
  | _, _, _ => none
theorem split_ok : MtR X "str.split" (rMt (gx X T₀) splitD) := by
  intro pins s σ H x xs v us Q I rx rxs h
  obtain ⟨d, ds, μ, ι, w, rd, rds, h⟩ := h
  unfold splitD at h
  split at h
  · obtain ⟨u, rfl, ry⟩ := RelDs.one (ds := []) rds
    cases ry; cases rd
    split at h
    · rename_i hz
      refine mt_split pins s σ H _ _ v us Q I rx rxs ⟨_, _, rfl, rfl, by simpa using hz.1, hz.2, ?_⟩
      exact Don.lst w (RelDs.ofStrs _) h
    · exact h.elim
  · exact h.elim
def indexSD : D → List D → Mem → O
  | .str x, [.str y], μ => match Txt.index0 x y with
    | some k => some (.int (k : Nat), μ)
    | none => none
  | _, _, _ => none
theorem indexS_ok (hc : X.calm = true) : MtR X "str.index" (rMt (gx X T₀) indexSD) := by
  intro pins s σ H x xs v us Q I rx rxs h
  obtain ⟨d, ds, μ, ι, w, rd, rds, h⟩ := h
  unfold indexSD at h
  split at h
  · obtain ⟨u, rfl, ry⟩ := RelDs.one (ds := []) rds
    cases ry; cases rd
    split at h
    · rename_i k e
      refine mt_indexX hc l2takes0 pins s σ H _ _ v us Q I rx rxs ⟨_, _, rfl, rfl, fun k' e' => ?_, fun e' => ?_⟩
      · rw [e] at e'; cases e'
        exact Don.val w (.int _) h
      · rw [e] at e'; cases e'
    · exact h.elim
  · exact h.elim
theorem pe_mtE {T id : String} {name : Str} {p : D → List D → Mem → O} (hT : T = "list" ∨ T = "str") (pa : PlainAttrs T) (slot : Slot T name id) (hty : typeOf (.builtin id) = pure (.type "method_descriptor")) (hm : MtR X id (rMt (gx X T₀) p)) (ho : PE X o (tE (gx X T₀) W fo)) (ha : PA X (a :: es) (tEs (gx X T₀) W fs))
    (hbase : attributeBase o name X.env (eval o X.env) = eval o X.env) (hfew : ((backTo cpos (starEach (a :: es) X.env)).all (fun x => !x.1) && (backToKw cpos (keywordEach [] X.env)).all (fun x => x.1.isSome)
      && decide ((a :: es).length + ([] : List Keyword).length + (if ([] : List Keyword).isEmpty then 0 else 1) < 30)) = true)
    (hline : (apos.endLine == cpos.line) = true) (hs : starEach (a :: es) X.env = (false, eval a X.env) :: starEach es X.env) (hplain : (backTo cpos (starEach es X.env)).any (·.1) = false) :
    PE X (.Call (.Attribute o name apos) (a :: es) [] cpos) (tE (gx X T₀) W (eMt T p fo fs)) := (pe_bm pa slot hty hm ho ha hbase hfew hline hs hplain).weak fun σ H Q h => tE_mt hT h
end
end Ev

set_option Elab.async false
set_option linter.all false
set_option maxRecDepth 100000
set_option maxHeartbeats 4000000
namespace Ev
open PySem PySem.Spec PyProof.Rows L2
/-! ### a dict's keys, its pairs walked -/
def DAt (w : World) (d : Addr) (n : Nat) (H : Hp) : Prop := ∃ xs, H d = some (dctO w true d xs) ∧ xs.length = n
/-- the keys -/
def ItDk (w : World) (d : Addr) (n : Nat) : It :=
  ⟨fun i H => DAt w d n H ∧ i < n, fun i H x H' => H' = H ∧ ∀ xs, H d = some (dctO w true d xs) → ∃ k a v, xs[i]? = some (k, a, v) ∧ x = .ref a, fun i H => DAt w d n H ∧ n ≤ i⟩
section
variable {X : Cx} {pins : List (Addr × Obj)} {σ : St} {H : Hp} {s : Shared} {d : Addr}
theorem Inv.dctE {xs : List (NestedKey × Addr × V)} {w : World} (I : Inv X pins σ H s) (h : H d = some (dctO w true d xs)) :
    ∃ o es vs, s.heap.get? d = some o ∧ o.ExactDict ∧ o.data = .dict es es.size ∧ EntR xs vs ∧ es.toList = vs.map (entV w) ∧ es.size = xs.length := by
  obtain ⟨⟨o, es, ep, vs, h1, h2, h3, h4, h5, h6⟩, _⟩ := (show ObjOk X.prog X.w H s.heap d (dctO w true d xs) from I.hok d _ h)
  have e := h6 rfl
  subst e
  refine ⟨o, es, vs, h1, h2, h3, h4, h5, ?_⟩
  rw [← Array.length_toList, h5, List.length_map]
  exact (Paired.length h4).symm
end
theorem ent_at {w : World} {es : Array DictEntry} {vs : List (NestedKey × Addr × Value)} (h : es.toList = vs.map (entV w)) {i : Nat} {en : DictEntry} (e : es[i]? = some en) : ∃ v, vs[i]? = some v ∧ en = entV w v := by
  rw [← Array.getElem?_toList, h, List.getElem?_map] at e
  obtain ⟨v, h1, h2⟩ := Option.map_eq_some_iff.mp e
  exact ⟨v, h1, h2.symm⟩
theorem turn_dk {P : Program} {w' w : World} {K : PySem.W.Frag} {tg : Expr} {d : Addr} {n : Nat} (it : Addr) : Turn P w' K tg (ItDk w d n) [it] it (fun i h => h.IsKeyIter it d i n n) where
  mem := by simp
  obj := fun i h st b hb => by
    have e : b = it := by simpa using hb
    subst e
    obtain ⟨oi, e, c, dd⟩ := st
    exact ⟨oi, e, fun v z => by rw [dd] at z; cases z⟩
  keep := fun i h h' st k => st.at fun oi e => k it (by simp) oi e
  item := by
    intro X hP hw hK hc i pins s σ H E I hf st hg
    subst hP hw hK
    obtain ⟨⟨xs, hd, hl⟩, hi⟩ := hg
    obtain ⟨f0, f1, f2, f3, f4, f5⟩ := hf it (by simp)
    obtain ⟨o, es, vs, h1, h2, h3, h4, h5, h6⟩ := Inv.dctE I hd
    have hn : es.size = n := h6.trans hl
    have h3' : o.data = .dict es n := by rw [← hn]; exact h3
    have hen : es[i]? = some es[i] := Array.getElem?_eq_getElem (by omega)
    refine next_key_item st h1 h3' hn hen fun h' st' sb => ?_
    have I1 : Inv X pins σ H { s with heap := h' } := I.turned (t' := s.toks) (fun b ob hb e => (sb.2 b hb).trans e) f0 f1 f3 f4 f5
    obtain ⟨oi, e, c, dd⟩ := id st'
    obtain ⟨v, hv1, hv2⟩ := ent_at h5 hen
    refine ⟨_, rfl, go_of (s := { s with heap := h' }) e c dd (by decide) ⟨.ref v.2.1, H, I1, by rw [hv2]; rfl, ⟨rfl, fun ys hy => ?_⟩, st', fun b hb => (hf b hb).1⟩⟩
    obtain ⟨o', es', vs', k1, k2, k3, k4, k5, k6⟩ := Inv.dctE I hy
    rw [h1] at k1
    cases k1
    rw [h3] at k3
    have ee : es' = es := by cases k3; rfl
    subst ee
    obtain ⟨v', hv1', hv2'⟩ := ent_at k5 hen
    obtain ⟨y, hy1, hy2, hy3, _⟩ := ent_get k4 hv1'
    have : v'.2.1 = v.2.1 := by
      have := hv2'.symm.trans hv2
      unfold entV at this
      injection this with q1 q2 q3
      injection q2
    exact ⟨y.1, y.2.1, y.2.2, hy1, by rw [hy3, this]⟩
  done := by
    intro X hP hw hK hc i pins s σ H E I hf st hg
    subst hP hw hK
    obtain ⟨⟨xs, hd, hl⟩, hi⟩ := hg
    obtain ⟨f0, f1, f2, f3, f4, f5⟩ := hf it (by simp)
    obtain ⟨o, es, vs, h1, h2, h3, h4, h5, h6⟩ := Inv.dctE I hd
    have hn : es.size = n := h6.trans hl
    have h3' : o.data = .dict es n := by rw [← hn]; exact h3
    exact next_key_end (I.ok.hd hc) st h1 h3' hn hi fun h' eb => ⟨rfl, I.turned (t' := s.toks) (fun b ob hb e => eb b ob hb e) f0 f1 f3 f4 f5⟩
  self := fun A i s Q E st h => wpAny_pyIter_keyiter st h
/-- the pairs, each a new tuple -/
def ItDi (w : World) (d : Addr) (n : Nat) : It :=
  ⟨fun i H => DAt w d n H ∧ i < n, fun i H x H' => ∃ T a v, x = .ref T ∧ H T = none ∧ H' = upd H T (.tup [.ref a, v]) ∧ ∀ xs, H d = some (dctO w true d xs) → ∃ k, xs[i]? = some (k, a, v), fun i H => DAt w d n H ∧ n ≤ i⟩
theorem turn_di {P : Program} {w' w : World} {K : PySem.W.Frag} {elts : List Expr} {kk : Nat} {tpos : Pos} {d : Addr} {n : Nat} (it : Addr) : Turn P w' K (.Tuple elts kk tpos) (ItDi w d n) [it] it (fun i h => ∃ ok ov, IsItemIter h it d i n n ok ov) where
  mem := by simp
  obj := fun i h st b hb => by
    have e : b = it := by simpa using hb
    subst e
    obtain ⟨ok, ov, e⟩ := st
    exact ⟨_, e, fun v z => nomatch z⟩
  keep := fun i h h' st k => let ⟨ok, ov, e⟩ := st; ⟨ok, ov, k it (by simp) _ e⟩
  item := by
    intro X hP hw hK hc i pins s σ H E I hf st hg
    subst hP hw hK
    obtain ⟨⟨xs, hd, hl⟩, hi⟩ := hg
    obtain ⟨o, es, vs, h1, h2, h3, h4, h5, h6⟩ := Inv.dctE I hd
    have hn : es.size = n := h6.trans hl
    subst hn
    obtain ⟨ok, ov, he⟩ := st
    have hlt : it < s.heap.objs.size := Heap.lt_size he
    have hen : es[i]? = some es[i] := Array.getElem?_eq_getElem hi
    obtain ⟨v, hv1, hv2⟩ := ent_at h5 hen
    obtain ⟨y, hy1, hy2, hy3, hy4⟩ := ent_get h4 hv1
    refine wpAny_pyNext_items_item_raw he ⟨o, h1, h2, h3⟩ hi fun h' ho hT hz hk => ?_
    refine ⟨_, rfl, wpAny_letOwnedTupleGo_items (s := { s with heap := h' }) ho fun h'' he' sb => ?_⟩
    have hT2 : h''.get? s.heap.objs.size = some { cls := .type "tuple", data := .seq #[es[i].key, es[i].val] } := (sb.2 _ (Nat.ne_of_gt hlt)).trans hT
    have ek : es[i].key = .ref y.2.1 := by rw [hv2, hy3]; rfl
    have ev : es[i].val = v.2.2 := by rw [hv2]; rfl
    have new : ObjOk X.prog X.w (upd H s.heap.objs.size (.tup [.ref y.2.1, y.2.2])) h'' s.heap.objs.size (.tup [.ref y.2.1, y.2.2]) :=
      ⟨by show 2 ≤ sizeLine; decide, [es[i].key, es[i].val], .cons (by rw [ek]; rfl) (.cons (by rw [ev]; exact hy4) .nil), ⟨_, hT2, rfl, _, rfl⟩⟩
    have I1 : Inv X pins σ (upd H s.heap.objs.size (.tup [.ref y.2.1, y.2.2])) { s with heap := h'' } :=
      I.turnedNew (t' := s.toks) (ch := [it]) (fun b ob hb e => (sb.2 b (by simpa using hb)).trans (hk b ob (by simpa using hb) e)) hf (Nat.le_refl _) new
    refine ⟨.ref s.heap.objs.size, _, I1, rfl, ⟨s.heap.objs.size, y.2.1, y.2.2, rfl, I.hok.fresh (Nat.le_refl _), rfl, fun zs hz' => ?_⟩, ⟨_, _, he'⟩, fun b hb => ?_⟩
    · obtain ⟨o', es', vs', k1, k2, k3, k4, k5, k6⟩ := Inv.dctE I hz'
      rw [h1] at k1
      cases k1
      rw [h3] at k3
      have ee : es' = es := by cases k3; rfl
      subst ee
      obtain ⟨v', hv1', hv2'⟩ := ent_at k5 hen
      obtain ⟨z, hz1, hz2, hz3, hz4⟩ := ent_get k4 hv1'
      have q := hv2'.symm.trans hv2
      unfold entV at q
      injection q with q1 q2 q3
      injection q2 with q2
      refine ⟨z.1, ?_⟩
      rw [hz1]
      have e1 : z.2.1 = y.2.1 := by rw [hz3, q2, hy3]
      have e2 : z.2.2 = y.2.2 := RelV.inj hz4 (by rw [q3]; exact hy4)
      rw [← e1, ← e2]
    · have e : b = it := by simpa using hb
      rw [e, upd_ne (Nat.ne_of_lt hlt)]
      exact (hf it (by simp)).1
  done := by
    intro X hP hw hK hc i pins s σ H E I hf st hg
    subst hP hw hK
    obtain ⟨⟨xs, hd, hl⟩, hi⟩ := hg
    obtain ⟨f0, f1, f2, f3, f4, f5⟩ := hf it (by simp)
    obtain ⟨o, es, vs, h1, h2, h3, h4, h5, h6⟩ := Inv.dctE I hd
    have hn : es.size = n := h6.trans hl
    subst hn
    obtain ⟨ok, ov, he⟩ := st
    exact wpAny_pyNext_items_end_raw (I.ok.hd hc) he ⟨o, h1, h2, h3⟩ hi fun h' eb => ⟨rfl, I.turned (t' := s.toks) (fun b ob hb e => eb b ob hb e) f0 f1 f3 f4 f5⟩
  self := fun A i s Q E st h => let ⟨_, _, e⟩ := st; PySem.W.kcp_self e h

section
variable {X : Cx} {td : TE} {e : Expr} {apos cpos : Pos}
theorem dct_raw {pins : List (Addr × Obj)} {σ : St} {H : Hp} {s : Shared} {d : Addr} {xs : List (NestedKey × Addr × V)} {w : World} (I : Inv X pins σ H s) (h : H d = some (dctO w true d xs)) : ∃ es, s.heap.DictRaw d es es.size ∧ es.size = xs.length := by
  obtain ⟨o, es, vs, h1, h2, h3, h4, h5, h6⟩ := Inv.dctE I h
  exact ⟨es, ⟨o, h1, h2, h3⟩, h6⟩
def iDkV (X : Cx) (w : World) (te : TE) : TI := fun σ H R => te σ H fun x H1 => ∃ d xs, x = .ref d ∧ (d == sysModules) = false ∧ H1 d = some (dctO w true d xs) ∧ R (ItDk w d xs.length) H1
theorem pi_dkV {tg : Expr} {w : World} (he : PE X e td) : PI X tg e (iDkV X w td) := by
  refine ⟨fun pins s σ H R I h => ?_⟩
  refine thn (he.run pins s σ H _ I h) fun u s1 ⟨x, H1, I1, rx, d, xs, ex, hs, hd, q⟩ => ?_
  subst ex
  obtain rfl : u = Value.ref d := rx
  obtain ⟨es, hr, hz⟩ := dct_raw I1 hd
  refine wpAny_pyIter_dict_raw hs hr (pi_one (tk := s1.toks) I1 _ (turn_dk _) ⟨_, Heap.get?_push_size _ rfl, rfl, ?_⟩ q)
  rw [hz] <;> rfl
def iDiV (X : Cx) (w : World) (te : TE) : TI := fun σ H R => te σ H fun x H1 => ∃ d xs, x = .ref d ∧ (d == sysModules) = false ∧ H1 d = some (dctO w true d xs) ∧ R (ItDi w d xs.length) H1
theorem pi_diV {elts : List Expr} {kk : Nat} {tpos : Pos} {w : World} (he : PE X e td) (hbase : attributeBase e "items" X.env (eval e X.env) = eval e X.env) (hline : (apos.endLine == cpos.line) = true) :
    PI X (.Tuple elts kk tpos) (.Call (.Attribute e "items" apos) [] [] cpos) (iDiV X w td) := by
  refine ⟨fun pins s σ H R I h => ?_⟩
  refine wpAny_Call_method (T := "dict") (id := "dict.items") hbase rfl hline F.plainAttrs_dict F.slot_dict_items F.type_dict_items (thn (he.run pins s σ H _ I h) fun u s1 ⟨x, H1, I1, rx, d, xs, ex, hs, hd, q⟩ => ?_)
  subst ex
  obtain rfl : u = Value.ref d := rx
  obtain ⟨es, hr, hz⟩ := dct_raw I1 hd
  have hnd : ∀ a, Value.ref d = .ref a → ∃ ob, s1.heap.get? a = some ob ∧ ob.dict = none := fun a ha => by
    cases ha
    obtain ⟨o, ho, hc, _⟩ := id hr
    exact ⟨o, ho, hc.2.1⟩
  refine ⟨hr.typeIs, hnd, ?_⟩
  have I2 : Inv X pins σ H1 { s1 with heap := s1.heap.push { cls := .type "dict_items", data := .fields #[.ref d] } } := I1.kept (t' := s1.toks) fun b ob q => Heap.get?_push_of_some _ q
  have fin : wpAny (model X.prog X.w) X.A (pyIter (.ref s1.heap.objs.size)) (PIE X pins σ (.Tuple elts kk tpos) R) X.xe { s1 with heap := s1.heap.push { cls := .type "dict_items", data := .fields #[.ref d] } } := by
    refine wpAny_pyIter_items_raw (d := d) (es := es) (ep := es.size) ⟨_, Heap.get?_push_size _ rfl, rfl, rfl⟩ (hr.at fun o q => Heap.get?_push_of_some _ q) (pi_one (tk := s1.toks) I2 _ (turn_di _) ⟨.none, .none, ?_⟩ q)
    rw [hz]
    exact Heap.get?_push_size _ rfl
  show wpAny _ _ (callWith cpos (.builtin "dict.items") [.ref d] [] []) _ X.xe s1
  exact method_meetsIn F.slot_dict_items F.entry_dict_items rfl (PySem.evalArgs_none ⟨rfl, hr.typeIs, F.args_dict_items_1 _, _, meets_dict_items_raw d hs, ⟨es, es.size, hr⟩, fin⟩)
end
end Ev

set_option Elab.async false
set_option linter.all false
set_option maxRecDepth 100000
set_option maxHeartbeats 4000000
namespace PySem
open Sem (wp)
open AutoSeq1 (wpAny_loadPart')
/-! ### enumerate of a tuple -/
theorem ev_meets_enumerate_newT (l : Addr) (items : Array Value) (n : Nat) (dct : Option Addr) (sl : Array (Option Value)) :
    Meets (Builtin.«enumerate.__new__» ⟨[.type "enumerate", .ref l], []⟩) (fun _ R s => s.heap.get? l = some { cls := .type "tuple", dict := dct, data := .seq items n, slots := sl } ∧
      R (.ok (.ret (.ref (s.heap.push { cls := .type "tuple_iterator", data := .fields #[.ref l, .int 0 0] }).objs.size)))
        { s with heap := (s.heap.push { cls := .type "tuple_iterator", data := .fields #[.ref l, .int 0 0] }).push { cls := .type "enumerate", data := .fields #[.none, .bool false, .ref s.heap.objs.size, rawInt 0, .none, .none] } }) :=
  .of_wp fun prog w A R s h => by
    obtain ⟨hp, g, d, tk, os⟩ := s; obtain ⟨hl, h⟩ := h
    have hsub := sub_enumerate
    have hL : Heap.IsTuple (Shared.heap ⟨hp, g, d, tk, os⟩) l items := ⟨_, hl, rfl, n, rfl⟩
    wp_walk using wpAny_loadPart' hl
    refine wpAny_stack_any fun st => wpAny_pure ?_
    split
    · rename_i c _ _ _ _ _
      cases (c == Value.type "enumerate")
      · wp_walk using wpAny_loadPart' hl, wpAny_pyIter_tuple hL
        exact ⟨_, rfl, h⟩
      · wp_walk using wpAny_loadPart' hl, wpAny_pyIter_tuple hL
        exact ⟨_, rfl, h⟩
    · wp_walk using wpAny_loadPart' hl, wpAny_pyIter_tuple hL
      exact ⟨_, rfl, h⟩
section
variable {prog : Program} {w : World} {A : Around} {E : Value → Shared → Prop} {s : Shared}
theorem ev_call_enumerate_tuple {l : Addr} {items : Array Value} {Q : Value → Shared → Prop} (hL : s.heap.IsTuple l items)
    (h : ∀ h', IsEnum h' (s.heap.objs.size + 1) s.heap.objs.size 0 .none → h'.IsTupleIter s.heap.objs.size l 0 → h'.objs.size = s.heap.objs.size + 2 →
      (∀ b o, s.heap.get? b = some o → h'.get? b = some o) → Q (.ref (s.heap.objs.size + 1)) { s with heap := h' }) :
    wpAny (model prog w) A (call (.type "enumerate") [.ref l]) Q E s := by
  obtain ⟨⟨c, dct, dt, sl⟩, hl, hc, n, hd⟩ := hL
  replace hc : c = .type "tuple" := hc
  replace hd : dt = .seq items n := hd
  subst hc hd
  refine callType_new F.called_enumerate (by decide) (F.typeCall_enumerate_1 _) (F.newCall_enumerate_1 _) (fun obj => F.args_object_init_2 obj _) F.entry_enumerate_new
    (ev_meets_enumerate_newT l items n dct sl) ⟨hl, ?_⟩
  have hz : (s.heap.push { cls := .type "tuple_iterator", data := .fields #[.ref l, .int 0 0] }).objs.size = s.heap.objs.size + 1 := Heap.size_push ..
  show _ ∧ _
  rw [hz]
  have he : IsEnum ((s.heap.push { cls := .type "tuple_iterator", data := .fields #[.ref l, .int 0 0] }).push
      { cls := .type "enumerate", data := .fields #[.none, .bool false, .ref s.heap.objs.size, rawInt 0, .none, .none] }) (s.heap.objs.size + 1) s.heap.objs.size 0 .none := by
    have := Heap.get?_push_size (s.heap.push { cls := .type "tuple_iterator", data := .fields #[.ref l, .int 0 0] })
      (o := { cls := .type "enumerate", data := .fields #[.none, .bool false, .ref s.heap.objs.size, rawInt 0, .none, .none] }) rfl
    rw [hz] at this; exact this
  refine ⟨⟨_, he, rfl⟩, h _ he ⟨_, Heap.get?_push_of_some _ (Heap.get?_push_size _ rfl), rfl, rfl⟩ (by rw [Heap.size_push, hz]) fun b o x => Heap.get?_push_of_some _ (Heap.get?_push_of_some _ x)⟩
theorem ev_pyNext_enumT_end {e it l : Addr} {i : Nat} {items : Array Value} {old : Value} {Q : Option Value → Shared → Prop} (hh : A.handled = none)
    (he : IsEnum s.heap e it i old) (hit : s.heap.IsTupleIter it l i) (hl : s.heap.IsTuple l items) (hx : items[i]? = none)
    (hQ : ∀ h', Heap.ExtBut it s.heap h' → Q none { s with heap := h' }) : wpAny (model prog w) A (pyNext (.ref e)) Q E s := by
  have hT : s.TypeIs (.ref e) "enumerate" := ⟨_, he, rfl⟩
  unfold pyNext
  refine wpAny_bind (wpAny_attempt (wpAny_callSpecial?_slot (name := Str.ofString "__next__") hT F.slot_enumerate_next
    (wpAny_call_entry F.slot_enumerate_next hT F.entry_enumerate_next ?_ (F.args_enumerate_next_1 _))))
  show wpAny _ _ (field (.ref e) 2 >>= _) _ _ _
  refine wpAny_bind (wpAny_field he rfl (x := .ref it) rfl ?_)
  refine wpAny_bind (wpAny_nextOf_tuple_end hh hit hl hx fun h' x he' hx' => ?_)
  obtain ⟨o, ho, hc⟩ := hx'
  refine wpAny_bind (wpAny_isInstance (T := "StopIteration") (b := true) ⟨o, ho, hc⟩ isSubtype_stop ?_)
  exact wpAny_pure (hQ _ he')
end
end PySem
namespace Ev
open PySem PySem.Spec PyProof.Rows L2
def IteT (K : PySem.W.Frag) (a : Addr) : It :=
  ⟨fun i H => ∃ (xs : List V) (x : V), SqT K H a xs ∧ xs[i]? = some x, fun i H v H' => ∃ T x, v = .ref T ∧ H T = none ∧ H' = upd H T (.tup [.int (i : Nat), x]) ∧ ∀ xs, SqT K H a xs → xs[i]? = some x, fun i H => ∃ xs : List V, SqT K H a xs ∧ xs.length ≤ i⟩
theorem turn_enumT {P : Program} {w : World} {K : PySem.W.Frag} {elts : List Expr} {kk : Nat} {tpos : Pos} (a e it : Addr) :
    Turn P w K (.Tuple elts kk tpos) (IteT K a) [e, it] e (fun i h => (∃ old, IsEnum h e it ((i : Nat) : Int) old) ∧ h.IsTupleIter it a i ∧ e ≠ it ∧ e ≠ a ∧ a ≠ it) where
  mem := by simp
  obj := fun i h st b hb => by
    obtain ⟨⟨old, he⟩, ⟨o, ho, hc, hd⟩, _⟩ := st
    have e' : b = e ∨ b = it := by simpa using hb
    rcases e' with z | z
    · rw [z]; exact ⟨_, he, fun v q => nomatch q⟩
    · rw [z]; exact ⟨o, ho, fun v q => by rw [hd] at q; cases q⟩
  keep := fun i h h' st k => let ⟨⟨old, he⟩, hi, hne⟩ := st; ⟨⟨old, k e (by simp) _ he⟩, hi.at fun o q => k it (by simp) o q, hne⟩
  item := by
    intro X hP hw hK hc i pins s σ H E I hf st hg
    subst hP hw hK
    obtain ⟨⟨old, he⟩, hit, hne, hea, hai⟩ := st
    obtain ⟨xs, x, hq, hx⟩ := hg
    obtain ⟨its, rv, p, hz⟩ := I.tuple hq
    obtain ⟨u, hu, ru⟩ := rv.get hx
    have hel : e < s.heap.objs.size := Heap.lt_size he
    have hil : it < s.heap.objs.size := by obtain ⟨_, q, _⟩ := hit; exact Heap.lt_size q
    have hlt : i < its.toArray.size := by
      have := (List.getElem?_eq_some_iff.mp hu).1
      simpa using this
    refine wpAny_pyNext_enum_itemD (Draws.tuple (A := X.A.in1) (show X.A.in1.handled = none from I.ok.hd hc) it a hai its.toArray) he ⟨hit, p⟩ hlt hne (by simp [hne, hea]) fun x' h' tk hx' ho hit' hT hsz hk => ?_
    have ex : x' = u := by
      have : some x' = some u := hx'.symm.trans (by simpa using hu)
      cases this; rfl
    subst ex
    obtain ⟨hit', _⟩ := hit'
    refine ⟨_, rfl, wpAny_letOwnedTupleGo_enum (s := { s with heap := h', toks := tk + 1 }) ho fun h'' he' sb => ?_⟩
    have hT2 : h''.get? s.heap.objs.size = some { cls := .type "tuple", data := .seq #[.int i tk, x'] } := (sb.2 _ (Nat.ne_of_gt hel)).trans hT
    have new : ObjOk X.prog X.w (upd H s.heap.objs.size (.tup [.int (i : Nat), x])) h'' s.heap.objs.size (.tup [.int (i : Nat), x]) :=
      ⟨by show 2 ≤ sizeLine; decide, [.int i tk, x'], .cons ⟨_, rfl⟩ (.cons ru .nil), ⟨_, hT2, rfl, _, rfl⟩⟩
    have I1 : Inv X pins σ (upd H s.heap.objs.size (.tup [.int (i : Nat), x])) { s with heap := h'', toks := tk + 1 } :=
      I.turnedNew (ch := [e, it]) (fun b ob hb q => (sb.2 b (fun z => hb (by simp [z]))).trans (hk b ob (fun z => hb (by simp [z])) (fun z => hb (by simp [z])) q)) hf (Nat.le_refl _) new
    refine ⟨.ref s.heap.objs.size, _, I1, rfl, ⟨_, x, rfl, I.hok.fresh (Nat.le_refl _), rfl, fun ys hy => by rw [I.tuple_inj hy hq]; exact hx⟩, ⟨⟨x', ?_⟩, hit'.at fun o q => (sb.2 it (Ne.symm hne)).trans q, hne, hea, hai⟩, fun b hb => ?_⟩
    · have e1 : ((i + 1 : Nat) : Int) = (i : Int) + 1 := by omega
      rw [e1]; exact he'
    · have hb' : b < s.heap.objs.size := by
        have e' : b = e ∨ b = it := by simpa using hb
        rcases e' with z | z
        · rw [z]; exact hel
        · rw [z]; exact hil
      rw [upd_ne (Nat.ne_of_lt hb')]
      exact (hf b hb).1
  done := by
    intro X hP hw hK hc i pins s σ H E I hf st hg
    subst hP hw hK
    obtain ⟨⟨old, he⟩, hit, hne, hea, hai⟩ := st
    obtain ⟨xs, hq, hx⟩ := hg
    obtain ⟨its, rv, p, hz⟩ := I.tuple hq
    obtain ⟨f0, f1, f2, f3, f4, f5⟩ := hf it (by simp)
    have hl := rv.length
    exact ev_pyNext_enumT_end (I.ok.hd hc) he hit p (by simp; omega) fun h' eb => ⟨rfl, I.turned (t' := s.toks) (fun b o hb q => eb b o hb q) f0 f1 f3 f4 f5⟩
  self := fun A i s Q E st h => let ⟨⟨_, he⟩, _⟩ := st; wpAny_pyIter_enum he h
def iEnumT (K : PySem.W.Frag) (ta : TA) : TI := fun σ H R => ta σ H fun vs H1 => ∃ a xs, vs = [.ref a] ∧ SqT K H1 a xs ∧ R (IteT K a) H1
theorem pi_enumT {X : Cx} {e : Expr} {ta : TA} {p pos tpos : Pos} {elts : List Expr} {kk : Nat} (hg : Gl X "enumerate") (hm : X.mg "enumerate" = none) (ha : PA X [e] ta) (hs : starEach [e] X.env = [(false, eval e X.env)] := by rfl) :
    PI X (.Tuple elts kk tpos) (.Call (.Name "enumerate" p) [e] [] pos) (iEnumT X.K ta) := by
  refine ⟨fun pins s σ H R I h => ?_⟩
  refine Call_ (ld_blt I hg hm boot_enumerate (PyProof.Rows.callWith_type1 (thn (ha.run pos pins s σ H _ I h) fun us s1 ⟨vs, H1, I1, r1, q1⟩ => ?_) hs rfl))
  obtain ⟨a, xs, ex, hq, q⟩ := q1
  subst ex
  cases r1 with
  | cons r rr =>
    cases rr
    cases r
    obtain ⟨its, rv, p', hz⟩ := I1.tuple hq
    have hal : a < s1.heap.objs.size := by obtain ⟨_, q, _⟩ := id p'; exact Heap.lt_size q
    refine ev_call_enumerate_tuple p' fun h' he hit hsz hk => wpAny_pyIter_enum he ?_
    have I2 : Inv X pins σ H1 { s1 with heap := h' } := I1.kept (t' := s1.toks) hk
    refine ⟨s1.heap.objs.size + 1, [s1.heap.objs.size + 1, s1.heap.objs.size], _, _, H1, rfl, I2, turn_enumT a (s1.heap.objs.size + 1) s1.heap.objs.size, ⟨⟨.none, he⟩, hit, Nat.succ_ne_self _, Nat.ne_of_gt (Nat.lt_succ_of_lt hal), Nat.ne_of_lt hal⟩, fun b hb => ?_, q⟩
    have e' : b = s1.heap.objs.size + 1 ∨ b = s1.heap.objs.size := by simpa using hb
    have hle : s1.heap.objs.size ≤ b := by
      rcases e' with z | z
      · rw [z]; exact Nat.le_add_right _ _
      · rw [z]; exact Nat.le_refl _
    exact I1.fpOk hle (I1.hok.fresh hle)
end Ev

set_option Elab.async false
set_option linter.all false
set_option maxRecDepth 100000
set_option maxHeartbeats 4000000
namespace Ev
open PySem PySem.Spec PyProof.Rows L2
/-! ### calls of defs -/
abbrev Fn := List D → Mem → R D
abbrev Tab := Str → Option Fn
def spD (G : Gc) (c : Fn) (n : Nat) : Sp := fun vs H Q E => ∃ ds μ ι, Wd G ι μ H ∧ RelDs G ι H ds vs ∧ ds.length = n ∧ Pst G ι H E Q (c ds μ)
/-- methods: their keys in the tables of defs -/
def mTab : List (Str × (Str × Str)) := (("Yard.__init__" : Str), (("Yard" : Str), ("__init__" : Str))) :: (("Yard.go" : Str), (("Yard" : Str), ("go" : Str))) :: (("Yard.pairs" : Str), (("Yard" : Str), ("pairs" : Str))) :: (("Yard.tick" : Str), (("Yard" : Str), ("tick" : Str))) :: (("Yard.__iadd__" : Str), (("Yard" : Str), ("__iadd__" : Str))) :: (("Yard.rest" : Str), (("Yard" : Str), ("rest" : Str))) :: (("Yard.machine" : Str), (("Yard" : Str), ("machine" : Str))) :: (("Yard.rule" : Str), (("Yard" : Str), ("rule" : Str))) :: (("Yard.row" : Str), (("Yard" : Str), ("row" : Str))) :: (("Yard.stand" : Str), (("Yard" : Str), ("stand" : Str))) :: (("Yard.paid" : Str), (("Yard" : Str), ("paid" : Str))) :: (("Yard.regret" : Str), (("Yard" : Str), ("regret" : Str))) :: (("Yard.ledger" : Str), (("Yard" : Str), ("ledger" : Str))) :: (("Yard.undo" : Str), (("Yard" : Str), ("undo" : Str))) :: (("Yard.attempt" : Str), (("Yard" : Str), ("attempt" : Str))) :: (("Yard.__getitem__" : Str), (("Yard" : Str), ("__getitem__" : Str))) :: (("Yard.__contains__" : Str), (("Yard" : Str), ("__contains__" : Str))) :: (("Yard.__len__" : Str), (("Yard" : Str), ("__len__" : Str))) :: (("Yard.__bool__" : Str), (("Yard" : Str), ("__bool__" : Str))) :: (("Yard.__eq__" : Str), (("Yard" : Str), ("__eq__" : Str))) :: (("Rule.__init__" : Str), (("Rule" : Str), ("__init__" : Str))) :: (("Rule.machine" : Str), (("Rule" : Str), ("machine" : Str))) :: (("Rule.source" : Str), (("Rule" : Str), ("source" : Str))) :: (("Rule.__call__" : Str), (("Rule" : Str), ("__call__" : Str))) :: (("Rule.__getitem__" : Str), (("Rule" : Str), ("__getitem__" : Str))) :: (("Rule.__contains__" : Str), (("Rule" : Str), ("__contains__" : Str))) :: (("Rule.__len__" : Str), (("Rule" : Str), ("__len__" : Str))) :: (("Rule.__bool__" : Str), (("Rule" : Str), ("__bool__" : Str))) :: (("Rule.other" : Str), (("Rule" : Str), ("other" : Str))) :: (("Rule.check_whole" : Str), (("Rule" : Str), ("check_whole" : Str))) :: (("Rule.__add__" : Str), (("Rule" : Str), ("__add__" : Str))) :: (("Rule.__sub__" : Str), (("Rule" : Str), ("__sub__" : Str))) :: (("Rule.__lshift__" : Str), (("Rule" : Str), ("__lshift__" : Str))) :: (("Rule.is_alike" : Str), (("Rule" : Str), ("is_alike" : Str))) :: (("Rule.__eq__" : Str), (("Rule" : Str), ("__eq__" : Str))) :: []
/-- where the function of a key lies -/
def LocF (K : PySem.W.Frag) (mg : Str → Option Value) (x : Str) (f : Addr) : Prop := match mTab.lookup x with
  | none => mg x = some (.ref f) ∧ PySem.W.keepIn K (.ref f) = true
  | some (C, m) => ∃ Ca, mg C = some (.ref Ca) ∧ Cls K Ca ∧ (∀ g, PySem.W.findIn K (.ref Ca) m = some (some (.ref g)) → g = f ∧ Meth K Ca m f) ∧ (m = "__init__" → Mk K Ca f)
theorem LocF.fn {K : PySem.W.Frag} {mg : Str → Option Value} {x : Str} {f : Addr} (h : LocF K mg x f) (hx : mTab.lookup x = none) : mg x = some (.ref f) ∧ PySem.W.keepIn K (.ref f) = true := by
  unfold LocF at h
  rw [hx] at h
  exact h
theorem LocF.meth {K : PySem.W.Frag} {mg : Str → Option Value} {x C m : Str} {f : Addr} (h : LocF K mg x f) (hx : mTab.lookup x = some (C, m)) :
    ∃ Ca, mg C = some (.ref Ca) ∧ Cls K Ca ∧ (∀ g, PySem.W.findIn K (.ref Ca) m = some (some (.ref g)) → g = f ∧ Meth K Ca m f) ∧ (m = "__init__" → Mk K Ca f) := by
  unfold LocF at h
  rw [hx] at h
  exact h
structure DefOk (P : Program) (w : World) (K : PySem.W.Frag) (mg : Str → Option Value) (base : Heap) (T : TX) (k : Nat) (x : Str) (c : Fn) : Prop where
  ex : ∃ (f : Addr) (fd : FuncData) (ps : List Str), LocF K mg x f ∧ L2.Binds K fd ps [] ∧ FnOk P w K mg base (L2N.CX P w) k f fd ps (spD ⟨K, mg, T⟩ c ps.length) ∧ ∀ ds μ, ds.length ≠ ps.length → c ds μ = .er
def CallOk (P : Program) (w : World) (K : PySem.W.Frag) (mg : Str → Option Value) (base : Heap) (T : TX) (k : Nat) (call : Tab) : Prop := ∀ x c, call x = some c → DefOk P w K mg base T k x c
def eCall (c : Fn) (as : Es) : E := fun ρ μ => (as ρ μ).bind fun xs μ1 => c xs μ1
/-- a name of the def holds what is called -/
def eCallV (call : Tab) (i : Nat) (as : Es) : E := fun ρ μ => match ρ[i]? with
  | some (some (.gl x)) => match call x with
    | some c => (as ρ μ).bind fun xs μ1 => c xs μ1
    | none => .er
  | _ => .er
section
variable {X : Cx} {T₀ : TX} {W : WX} {G : Gc} {ι : List Addr} {H : Hp} {μ : Mem} {σ : St} {ρ : Env} {E₀ : XK} {a b o : Expr} {fa fb fc fo : E} {pos apos cpos : Pos} {es : List Expr} {fs : Es} {call : Tab} {c : Fn} {k : Nat}
theorem tEs_call {Q : VK} (w : Wd G ι μ H) (ev : EnvR G ι H ρ σ) (q : Pst G ι H (fun c d H' => W c d σ H') Q ((fs ρ μ).bind fun xs μ1 => c xs μ1)) :
    tEs G W fs σ H fun vs H1 => ∃ d1 μ1 ι1, Wd G ι1 μ1 H1 ∧ RelDs G ι1 H1 d1 vs ∧ Pst G ι1 H1 (fun c d H' => W c d σ H') Q (c d1 μ1) := by
  have q1 := PsL.bind w ev q
  refine ⟨ρ, μ, ι, w, ev, ?_⟩
  cases hf : fs ρ μ with
  | ok d m =>
    rw [hf] at q1
    intro v H' ι' g' w' r
    obtain ⟨d1, μ1, ι1, g1, w1, e1, r1, z, q2⟩ := q1 v H' ι' g' w' r
    exact ⟨d1, μ1, ι1, w1, r1, q2⟩
  | ex x m => rw [hf] at q1; exact q1
  | er => rw [hf] at q1; exact q1
theorem sp_of {n : Nat} {vs : List V} {H1 : Hp} {Q : VK} {E : XK} (ar : ∀ ds μ, ds.length ≠ n → c ds μ = .er) (h : ∃ d1 μ1 ι1, Wd G ι1 μ1 H1 ∧ RelDs G ι1 H1 d1 vs ∧ Pst G ι1 H1 E Q (c d1 μ1)) : spD G c n vs H1 Q E := by
  obtain ⟨d1, μ1, ι1, w1, r1, q2⟩ := h
  refine ⟨d1, μ1, ι1, w1, r1, ?_, q2⟩
  by_cases hl : d1.length = n
  · exact hl
  · rw [ar d1 μ1 hl] at q2
    exact q2.elim
theorem pe_callD {x : Str} {p : Pos} (hx : mTab.lookup x = none) (hd : DefOk X.prog X.w X.K X.mg X.base T₀ k x c) (hr : Room k X.A) (tk : L2N.Takes X W) (hg : Gl X x) (ha : PA X (a :: es) (tEs (gx X T₀) W fs)) (hdb : (x == ("__debug__" : Str)) = false)
    (he : starEach (a :: es) X.env = (false, eval a X.env) :: starEach es X.env) (hpl : (backTo pos (starEach es X.env)).any (·.1) = false) : PE X (.Call (.Name x p) (a :: es) [] pos) (tE (gx X T₀) W (eCall c fs)) := by
  obtain ⟨f, fd, ps, hl, hb, F, ar⟩ := hd.ex
  obtain ⟨hm, hk⟩ := hl.fn hx
  refine (pe_callS (E := WE W) F hr hg hm hk hb (fun σ => L2N.passAt tk σ) ha hdb he hpl).weak fun σ H Q ⟨ρ, μ, ι, w, ev, q⟩ => ?_
  exact tEs_mono (tEs_call w ev q) fun vs H1 h => sp_of ar h
theorem pe_callVE {i : Nat} {x : Str} {p : Pos} (mn : ∀ y a, X.mg y = some (.ref a) → mTab.lookup y = none) (hd : CallOk X.prog X.w X.K X.mg X.base T₀ k call) (hr : Room k X.A) (tk : L2N.Takes X W) (hN : X.N[i]? = some x) (hv : Vis X.env.scope x) (ha : PA X (a :: es) (tEs (gx X T₀) W fs)) (hdb : (x == ("__debug__" : Str)) = false) (hcd : (x == ("__classdict__" : Str)) = false)
    (he : starEach (a :: es) X.env = (false, eval a X.env) :: starEach es X.env) (hpl : (backTo pos (starEach es X.env)).any (·.1) = false) : PE X (.Call (.Name x p) (a :: es) [] pos) (tE (gx X T₀) W (eCallV call i fs)) := by
  refine ⟨fun pins s σ H Q I ⟨ρ, μ, ι, w, ev, q⟩ => ?_⟩
  unfold eCallV at q
  split at q
  · rename_i y hy
    split at q
    · rename_i c hc
      obtain ⟨v, hs, rv⟩ := ev.2 i _ hy
      cases rv with
      | gl hm =>
        rename_i f0
        obtain ⟨f, fd, ps, hl, hb, F, ar⟩ := (hd y c hc).ex
        obtain ⟨hm', hk⟩ := hl.fn (mn y _ hm)
        have e0 : f = f0 := by
          have := hm'.symm.trans hm
          cases this
          rfl
        subst e0
        refine wpAny_Call_Name_kw (thn ((pe_var (pos := p) hN hv hdb hcd).run pins s σ H (fun v H1 => v = .ref f ∧ H1 = H) I ⟨.ref f, hs, rfl, rfl⟩) fun u s1 ⟨v, H1, I1, r1, q1⟩ => ?_)
        obtain ⟨rfl, rfl⟩ := q1
        cases r1
        refine PySem.W.callWith_K (h₀ := X.base) I.ok.mod.kin hk (thn (ha.run pos pins s1 σ _ _ I1 (tEs_call w ev q)) fun us s2 ⟨vs, H2, I2, r, q3⟩ => ⟨I2.kIn, ?_⟩) he hpl
        exact run_fnS (E := WE W) F hr hb (L2N.passAt tk σ) I2 r (sp_of ar q3)
    · exact q.elim
  · exact q.elim
/-- an instance is made -/
def eMake (C : Str) (c : Fn) (as : Es) : E := fun ρ μ => (as ρ μ).bind fun xs μ1 => (c (.loc μ1.length :: xs) (μ1 ++ [.ins C []])).bind fun v μ2 => match v with
  | .non => .ok (.loc μ1.length) μ2
  | _ => .er
/-- behind the __init__ -/
def initB (n : Nat) : R D → R D
  | .ok .non μ => .ok (.loc n) μ
  | .ok _ _ => .er
  | .ex x μ => .ex x μ
  | .er => .er
theorem bind_initB {r : R D} {n : Nat} : (r.bind fun v μ2 => match v with | .non => .ok (.loc n) μ2 | _ => .er) = initB n r := by
  cases r with
  | ok v m => cases v <;> rfl
  | ex x m => rfl
  | er => rfl
theorem pe_makeD {x C : Str} {p : Pos} (hx : mTab.lookup x = some (C, ("__init__" : Str))) (hd : DefOk X.prog X.w X.K X.mg X.base T₀ k x c) (hr : Room (k + 1) X.A) (tk : L2N.Takes X W) (hg : Gl X C) (ha : PA X (a :: es) (tEs (gx X T₀) W fs)) (hdb : (C == ("__debug__" : Str)) = false)
    (he : starEach (a :: es) X.env = (false, eval a X.env) :: starEach es X.env) (hpl : (backTo pos (starEach es X.env)).any (·.1) = false) : PE X (.Call (.Name C p) (a :: es) [] pos) (tE (gx X T₀) W (eMake C c fs)) := by
  obtain ⟨f, fd, ps, hl, hb, F, ar⟩ := hd.ex
  obtain ⟨Ca, hm, _, _, hM⟩ := hl.meth hx
  have M := hM rfl
  refine ⟨fun pins s σ H Q I ⟨ρ, μ, ι, w, ev, q⟩ => ?_⟩
  refine wpAny_Call_Name_kw (ld_glob I hg hm ?_ hdb)
  refine PySem.W.callWith_K (h₀ := X.base) I.ok.mod.kin M.kp (thn (ha.run pos pins s σ H _ I (tEs_call (c := fun xs μ1 => (c (.loc μ1.length :: xs) (μ1 ++ [.ins C []])).bind fun v μ2 => match v with | .non => .ok (.loc μ1.length) μ2 | _ => .er) w ev q)) fun us s1 ⟨vs, H1, I1, r, q1⟩ => ⟨I1.kIn, ?_⟩) he hpl
  obtain ⟨d1, μ1, ι1, w1, r1, q1⟩ := q1
  rw [bind_initB] at q1
  -- the new instance
  have n1 : H1 (s1.heap.objs.size + 1) = none := I1.hok.fresh (Nat.le_succ _)
  have n2 : H1 s1.heap.objs.size = none := I1.hok.fresh (Nat.le_refl _)
  have ne : s1.heap.objs.size ≠ s1.heap.objs.size + 1 := Nat.ne_of_lt (Nat.lt_succ_self _)
  have n3 : (upd H1 s1.heap.objs.size (.own (s1.heap.objs.size + 1))) (s1.heap.objs.size + 1) = none := by rw [upd_ne (Ne.symm ne)]; exact n1
  have w2 := (w1.obj (o := .own (s1.heap.objs.size + 1)) n2).more (m := .ins C []) (o := .ins Ca s1.heap.objs.size []) n3 rfl ⟨Ca, s1.heap.objs.size, [], hm, upd_same, .nil⟩
  have g2 : Grow (gx X T₀) ι1 H1 (ι1 ++ [s1.heap.objs.size + 1]) _ := (Grow.obj (o := .own (s1.heap.objs.size + 1)) n2).trans (Grow.more (o := .ins Ca s1.heap.objs.size []) n3)
  have I2 := Inv.made (C := Ca) I1
  have rs := (RelDs.grow w1 g2 r1)
  have sp : spD (gx X T₀) c ps.length (.ref (s1.heap.objs.size + 1) :: vs) (upd (upd H1 s1.heap.objs.size (.own (s1.heap.objs.size + 1))) (s1.heap.objs.size + 1) (.ins Ca s1.heap.objs.size [])) (fun v H2 => v = .non ∧ Q (.ref (s1.heap.objs.size + 1)) H2) (WE W σ) := by
    refine sp_of ar ⟨.loc μ1.length :: d1, μ1 ++ [.ins C []], _, w2, .cons (RelD.last (w1.obj n2)) rs, ?_⟩
    cases hc : c (.loc μ1.length :: d1) (μ1 ++ [.ins C []]) with
    | er => rw [hc] at q1; exact q1.elim
    | ex y m =>
      rw [hc] at q1
      exact fun H' ι' cls od g' w' rx => q1 H' ι' cls od (g2.trans g') w' rx
    | ok v m =>
      rw [hc] at q1
      cases v with
      | non =>
        intro u H' ι' g' w' ru
        cases ru
        exact ⟨rfl, q1 (.ref (s1.heap.objs.size + 1)) H' ι' (g2.trans g') w' (.loc (g'.get (by rw [← w1.len]; simp)))⟩
      | _ => exact q1.elim
  have r2 : Vals (V.ref (s1.heap.objs.size + 1) :: vs) (Value.ref (s1.heap.objs.size + 1) :: us) := .cons rfl r
  have hlen : (Value.ref (s1.heap.objs.size + 1) :: us).length = ps.length := by
    rw [← r2.length]; exact F.len _ _ _ _ sp
  have b := hb _ (Value.ref (s1.heap.objs.size + 1) :: us) I2.kIn (by rw [List.append_nil]; exact hlen)
  rw [List.append_nil] at b
  show wpAny _ _ (call (Value.ref Ca) us) _ _ _
  refine wpAny_call (make_map (f := f) I1.kIn M.makes M.init (beq_iff_eq.mp M.fn) (codeAny_mono (F.run _ X.stack _ _ ⟨Value.ref (s1.heap.objs.size + 1) :: us, []⟩ (Value.ref (s1.heap.objs.size + 1) :: us) _ _ (WE W σ) (hr.make Ca us [])
    (I2.env0.make Ca us []) b r2 sp) fun r s' hq' => ?_))
  cases r with
  | error e => exact L2N.passAt tk σ pins _ _ e s' I2 hq'
  | ok fl =>
    cases fl with
    | ret u =>
      obtain ⟨v, H', I3, rv, ev', q3⟩ := I2.after hq'
      subst ev'
      exact ⟨rv, ⟨V.ref (s1.heap.objs.size + 1), H', I3, rfl, q3⟩⟩
    | next => exact False.elim hq'
    | brk => exact False.elim hq'
    | cont => exact False.elim hq'

/-! ### what is walked -/
inductive Src where
  | fix (xs : List D) | lst (n : Nat) | rng (lo : Int) (n : Nat) | enl (n : Nat) | enf (xs : List D) | zz (p q : List D ⊕ Nat) | dk (n N : Nat) | di (n N : Nat)
/-- a list told by value, one of the store -/
def zAt (μ : Mem) : List D ⊕ Nat → Option (List D)
  | .inl xs => some xs
  | .inr n => lstAt μ n
def Src.nxt : Src → Nat → Mem → Option (Option D)
  | .fix xs, i, _ => some xs[i]?
  | .lst n, i, μ => (lstAt μ n).map (·[i]?)
  | .rng lo n, i, _ => some (if i < n then some (.int (lo + i)) else none)
  | .enl n, i, μ => (lstAt μ n).map fun xs => (xs[i]?).map fun x => .tup [.int i, x]
  | .zz p q, i, μ => match zAt μ p, zAt μ q with
    | some xs, some ys => some (match xs[i]?, ys[i]? with
      | some x, some y => some (.tup [x, y])
      | _, _ => none)
    | _, _ => none
  | .dk n N, i, μ => match dctAt μ n with
    | some (true, kvs) => if kvs.length = N then some ((kvs[i]?).map (·.2.1)) else none
    | _ => none
  | .di n N, i, μ => match dctAt μ n with
    | some (true, kvs) => if kvs.length = N then some ((kvs[i]?).map fun p => .tup [p.2.1, p.2.2]) else none
    | _ => none
  | .enf xs, i, _ => some ((xs[i]?).map fun x => .tup [.int i, x])
/-- a bound of the turns -/
def Src.bnd : Src → Mem → Nat
  | .fix xs, _ => xs.length
  | .lst n, μ => ((lstAt μ n).getD []).length
  | .rng _ n, _ => n
  | .enl n, μ => ((lstAt μ n).getD []).length
  | .zz p _, μ => ((zAt μ p).getD []).length
  | .dk _ N, _ => N
  | .di _ N, _ => N
  | .enf xs, _ => xs.length
abbrev Iv := Env → Mem → R Src
def SrcOk (G : Gc) (ι : List Addr) (H : Hp) (s : Src) (J : It) : Prop := ∀ ι' H' μ' i, Grow G ι H ι' H' → Wd G ι' μ' H' → match s.nxt i μ' with
  | some (some d) => J.go i H' ∧ ∀ x H'', J.yld i H' x H'' → Grow G ι' H' ι' H'' ∧ Wd G ι' μ' H'' ∧ RelD G ι' H'' d x
  | some none => J.stop i H'
  | none => True
theorem SrcOk.grow {ι1 : List Addr} {H1 : Hp} {s : Src} {J : It} (g : Grow G ι H ι1 H1) (h : SrcOk G ι H s J) : SrcOk G ι1 H1 s J := fun ι' H' μ' i g' w' => h ι' H' μ' i (g.trans g') w'
def PsI (G : Gc) (ι : List Addr) (H : Hp) (E : XK) (Q : It → Hp → Prop) : R Src → Prop
  | .ok s μ' => ∀ J H' ι', Grow G ι H ι' H' → Wd G ι' μ' H' → SrcOk G ι' H' s J → Q J H'
  | .ex x μ' => ∀ H' ι' cls od, Grow G ι H ι' H' → Wd G ι' μ' H' → ExR G x cls od H' → E cls od H'
  | .er => False
def tI (G : Gc) (W : WX) (f : Iv) : TI := fun σ H R => ∃ ρ μ ι, Wd G ι μ H ∧ EnvR G ι H ρ σ ∧ PsI G ι H (fun c d H' => W c d σ H') R (f ρ μ)
theorem _root_.L2.PI.weak {X : Cx} {tg e : Expr} {t t' : TI} (h : PI X tg e t) (i : ∀ σ H Q, t' σ H Q → t σ H Q) : PI X tg e t' := ⟨fun pins s σ H Q I q => h.run pins s σ H Q I (i σ H Q q)⟩
theorem _root_.L2.PI.or {X : Cx} {tg e : Expr} {t t' : TI} (h : PI X tg e t) (h' : PI X tg e t') : PI X tg e (fun σ H Q => t σ H Q ∨ t' σ H Q) := ⟨fun pins s σ H Q I q => q.elim (h.run pins s σ H Q I) (h'.run pins s σ H Q I)⟩
theorem src_list {a : Addr} {n : Nat} (hn : ι[n]? = some a) : SrcOk G ι H (.lst n) (Itl G.K a) := by
  intro ι' H' μ' i g w
  show match (lstAt μ' n).map (·[i]?) with | some (some d) => _ | some none => _ | none => _
  cases e : lstAt μ' n with
  | none => trivial
  | some xs =>
    obtain ⟨a', vs, e1, e2, l, q⟩ := w.lst (.loc (g.get hn)) (lstAt_some e)
    cases e1
    show match some xs[i]? with | some (some d) => _ | some none => _ | none => _
    cases e3 : xs[i]? with
    | none => exact ⟨vs, SqL.of l, by rw [← q.length]; exact List.getElem?_eq_none_iff.mp e3⟩
    | some d =>
      obtain ⟨v, h1, h2⟩ := q.get e3
      refine ⟨⟨vs, v, SqL.of l, h1⟩, fun x H'' hy => ?_⟩
      obtain ⟨rfl, hy⟩ := hy
      have : some x = some v := (hy vs (SqL.of l)).symm.trans h1
      cases this
      exact ⟨.refl, w, h2⟩
theorem src_fixL {a : Addr} {xs : List D} {vs : List V} (w0 : Wd G ι μ H) (h : FzL G.K ι H a vs) (q : RelDs G ι H xs vs) : SrcOk G ι H (.fix xs) (Itl G.K a) := by
  intro ι' H' μ' i g w
  show match some xs[i]? with | some (some d) => _ | some none => _ | none => _
  have h' := (g.fzL h).sq
  have q' := q.grow w0 g
  cases e3 : xs[i]? with
  | none => exact ⟨vs, h', by rw [← q.length]; exact List.getElem?_eq_none_iff.mp e3⟩
  | some d =>
    obtain ⟨v, h1, h2⟩ := q'.get e3
    refine ⟨⟨vs, v, h', h1⟩, fun x H'' hy => ?_⟩
    obtain ⟨rfl, hy⟩ := hy
    have : some x = some v := (hy vs h').symm.trans h1
    cases this
    exact ⟨.refl, w, h2⟩
theorem src_fixT {a : Addr} {xs : List D} {vs : List V} (w0 : Wd G ι μ H) (h : SqT G.K H a vs) (q : RelDs G ι H xs vs) : SrcOk G ι H (.fix xs) (Itt G.K a) := by
  intro ι' H' μ' i g w
  show match some xs[i]? with | some (some d) => _ | some none => _ | none => _
  have h' := w0.sqT g h
  have q' := q.grow w0 g
  cases e3 : xs[i]? with
  | none => exact ⟨vs, h', by rw [← q.length]; exact List.getElem?_eq_none_iff.mp e3⟩
  | some d =>
    obtain ⟨v, h1, h2⟩ := q'.get e3
    refine ⟨⟨vs, v, h', h1⟩, fun x H'' hy => ?_⟩
    obtain ⟨rfl, hy⟩ := hy
    have : some x = some v := (hy vs h').symm.trans h1
    cases this
    exact ⟨.refl, w, h2⟩
/-- a list or a tuple -/
def iSeq (a : E) : Iv := fun ρ μ => (a ρ μ).bind fun x μ1 => match x with
  | .tup xs => .ok (.fix xs) μ1
  | .fl xs => .ok (.fix xs) μ1
  | .loc n => match lstAt μ1 n with
    | some _ => .ok (.lst n) μ1
    | none => match dctAt μ1 n with
      | some (true, kvs) => .ok (.dk n kvs.length) μ1
      | _ => .er
  | _ => .er
/-- the entries of a dict that is walked -/
theorem dct_walk (w : Wd G ι μ H) {n : Nat} {a : Addr} {kvs : List (NestedKey × D × D)} (hn : ι[n]? = some a) (e : dctAt μ n = some (true, kvs)) : ∃ xs, H a = some (dctO G.T.w true a xs) ∧ (a == sysModules) = false ∧ RelK G ι H kvs xs := by
  obtain ⟨xs, h1, h2, h3⟩ := w.ob n a _ hn (dctAt_some e)
  exact ⟨xs, h1, h2, h3⟩
theorem RelK.len2 {kvs : List (NestedKey × D × D)} {xs : List (NestedKey × Addr × V)} (r : RelK G ι H kvs xs) : xs.length = kvs.length := by
  have := congrArg List.length r.keys
  simpa using this.symm
theorem src_dk {a : Addr} {n N : Nat} (hn : ι[n]? = some a) : SrcOk G ι H (.dk n N) (ItDk G.T.w a N) := by
  intro ι' H' μ' i g w
  unfold Src.nxt
  dsimp only
  split
  · rename_i d e
    split at e
    · rename_i kvs e1
      split at e
      · rename_i hN
        obtain ⟨xs, h1, _, rk⟩ := dct_walk w (g.get hn) e1
        have hl := rk.len2
        cases e2 : kvs[i]? with
        | none => rw [e2] at e; simp at e
        | some p =>
          rw [e2] at e
          simp only [Option.map_some, Option.some.injEq] at e
          have hi := (List.getElem?_eq_some_iff.mp e2).1
          refine ⟨⟨⟨xs, h1, by omega⟩, by omega⟩, fun x H'' ⟨q1, q2⟩ => ?_⟩
          subst q1
          obtain ⟨k, b, v, q3, q4⟩ := q2 xs h1
          subst q4
          obtain ⟨u, h3, h4⟩ := rk.kd.get (i := i) (d := p.2.1) (by rw [List.getElem?_map, e2]; rfl)
          rw [List.getElem?_map, q3] at h3
          cases h3
          exact ⟨.refl, w, e ▸ h4⟩
      · cases e
    · cases e
  · rename_i e
    split at e
    · rename_i kvs e1
      split at e
      · rename_i hN
        obtain ⟨xs, h1, _, rk⟩ := dct_walk w (g.get hn) e1
        have hl := rk.len2
        cases e2 : kvs[i]? with
        | none => exact ⟨⟨xs, h1, by omega⟩, by have := List.getElem?_eq_none_iff.mp e2; omega⟩
        | some p => rw [e2] at e; simp at e
      · cases e
    · cases e
  · trivial
theorem pi_seqE {tg : Expr} (ha : PE X a (tE (gx X T₀) W fa)) : PI X tg a (tI (gx X T₀) W (iSeq fa)) :=
  (((pi_list ha).or (pi_tup ha)).or (pi_dkV (w := T₀.w) ha)).weak fun σ H Q ⟨ρ, μ, ι, w, ev, q⟩ => by
    unfold iSeq at q
    cases hf : fa ρ μ with
    | er => rw [hf] at q; exact q.elim
    | ex x m =>
      rw [hf] at q
      exact .inl (.inl ⟨ρ, μ, ι, w, ev, by rw [hf]; exact q⟩)
    | ok d m =>
      rw [hf] at q
      cases d with
      | tup xs =>
        refine .inl (.inr ⟨ρ, μ, ι, w, ev, ?_⟩)
        rw [hf]
        intro v H' ι' g' w' r
        cases r with
        | tup h1 q1 => exact ⟨_, rfl, ⟨_, h1⟩, q _ H' ι' g' w' (src_fixT w' h1 q1)⟩
      | fl xs =>
        refine .inl (.inl ⟨ρ, μ, ι, w, ev, ?_⟩)
        rw [hf]
        intro v H' ι' g' w' r
        cases r with
        | fl h1 q1 => exact ⟨_, rfl, ⟨_, h1.sq⟩, q _ H' ι' g' w' (src_fixL w' h1 q1)⟩
      | loc n =>
        have q : PsI (gx X T₀) ι H (fun c d H' => W c d σ H') Q (match lstAt m n with | some _ => .ok (.lst n) m | none => match dctAt m n with | some (true, kvs) => .ok (.dk n kvs.length) m | _ => .er) := q
        split at q
        · rename_i xs e
          refine .inl (.inl ⟨ρ, μ, ι, w, ev, ?_⟩)
          rw [hf]
          intro v H' ι' g' w' r
          obtain ⟨p, vs, e1, e2, l, q1⟩ := w'.lst r (lstAt_some e)
          exact ⟨p, e1, ⟨vs, SqL.of l⟩, q _ H' ι' g' w' (src_list e2)⟩
        · split at q
          · rename_i kvs e
            refine .inr ⟨ρ, μ, ι, w, ev, ?_⟩
            rw [hf]
            intro v H' ι' g' w' r
            cases r with
            | @loc _ a hn =>
              obtain ⟨xs, h1, h2, rk⟩ := dct_walk w' hn e
              refine ⟨a, xs, rfl, h2, h1, ?_⟩
              rw [rk.len2]
              exact q _ H' ι' g' w' (src_dk hn)
          · exact q.elim
      | _ => exact q.elim
/-- d.items() -/
def iIt (a : E) : Iv := fun ρ μ => (a ρ μ).bind fun x μ1 => match x with
  | .loc n => match dctAt μ1 n with
    | some (true, kvs) => .ok (.di n kvs.length) μ1
    | _ => .er
  | _ => .er
theorem src_di {a : Addr} {n N : Nat} (hn : ι[n]? = some a) : SrcOk G ι H (.di n N) (ItDi G.T.w a N) := by
  intro ι' H' μ' i g w
  unfold Src.nxt
  dsimp only
  split
  · rename_i d e
    split at e
    · rename_i kvs e1
      split at e
      · rename_i hN
        obtain ⟨xs, h1, _, rk⟩ := dct_walk w (g.get hn) e1
        have hl := rk.len2
        cases e2 : kvs[i]? with
        | none => rw [e2] at e; simp at e
        | some p =>
          rw [e2] at e
          simp only [Option.map_some, Option.some.injEq] at e
          have hi := (List.getElem?_eq_some_iff.mp e2).1
          refine ⟨⟨⟨xs, h1, by omega⟩, by omega⟩, fun x H'' ⟨T, b, v, q1, q2, q3, q4⟩ => ?_⟩
          obtain ⟨k, q5⟩ := q4 xs h1
          subst q1 q3
          obtain ⟨u, h3, h4⟩ := rk.kd.get (i := i) (d := p.2.1) (by rw [List.getElem?_map, e2]; rfl)
          rw [List.getElem?_map, q5] at h3
          cases h3
          obtain ⟨u, h5, h6⟩ := rk.vd.get (i := i) (d := p.2.2) (by rw [List.getElem?_map, e2]; rfl)
          rw [List.getElem?_map, q5] at h5
          cases h5
          subst e
          exact ⟨.obj q2, w.obj q2, .tup (SqT.of upd_same) ((RelDs.cons h4 (.cons h6 .nil)).grow w (.obj q2))⟩
      · cases e
    · cases e
  · rename_i e
    split at e
    · rename_i kvs e1
      split at e
      · rename_i hN
        obtain ⟨xs, h1, _, rk⟩ := dct_walk w (g.get hn) e1
        have hl := rk.len2
        cases e2 : kvs[i]? with
        | none => exact ⟨⟨xs, h1, by omega⟩, by have := List.getElem?_eq_none_iff.mp e2; omega⟩
        | some p => rw [e2] at e; simp at e
      · cases e
    · cases e
  · trivial
theorem pi_itE {elts : List Expr} {kk : Nat} {tpos : Pos} (ha : PE X a (tE (gx X T₀) W fa)) (hbase : attributeBase a "items" X.env (eval a X.env) = eval a X.env) (hline : (apos.endLine == cpos.line) = true) :
    PI X (.Tuple elts kk tpos) (.Call (.Attribute a "items" apos) [] [] cpos) (tI (gx X T₀) W (iIt fa)) :=
  (pi_diV (w := T₀.w) ha hbase hline).weak fun σ H Q ⟨ρ, μ, ι, w, ev, q⟩ => by
    refine ⟨ρ, μ, ι, w, ev, ?_⟩
    unfold iIt at q
    cases hf : fa ρ μ with
    | er => rw [hf] at q; exact q
    | ex x m => rw [hf] at q; exact q
    | ok d m =>
      rw [hf] at q
      intro v H' ι' g' w' r
      cases d with
      | loc n =>
        have q : PsI (gx X T₀) ι H (fun c d H' => W c d σ H') Q (match dctAt m n with | some (true, kvs) => .ok (.di n kvs.length) m | _ => .er) := q
        split at q
        · rename_i kvs e
          cases r with
          | @loc _ a hn =>
            obtain ⟨xs, h1, h2, rk⟩ := dct_walk w' hn e
            refine ⟨a, xs, rfl, h2, h1, ?_⟩
            rw [rk.len2]
            exact q _ H' ι' g' w' (src_di hn)
        · exact q.elim
      | _ => exact q.elim
/-- ranges -/
def rg1 (j : Int) (μ : Mem) : R Src := if j.natAbs < 1000000 then .ok (.rng 0 j.toNat) μ else .er
def rg2 (i j : Int) (μ : Mem) : R Src := if j.natAbs < 1000000 ∧ i.natAbs < 1000000 then .ok (.rng i (j - i).toNat) μ else .er
def iRg1 (as : Es) : Iv := fun ρ μ => (as ρ μ).bind fun xs μ1 => match xs with
  | [.int j] => rg1 j μ1
  | _ => .er
def iRg2 (as : Es) : Iv := fun ρ μ => (as ρ μ).bind fun xs μ1 => match xs with
  | [.int i, .int j] => rg2 i j μ1
  | _ => .er
theorem src_rng {lo : Int} {n : Nat} : SrcOk G ι H (.rng lo n) (Itr lo n) := by
  intro ι' H' μ' i g w
  show match some (if i < n then some (D.int (lo + i)) else none) with | some (some d) => _ | some none => _ | none => _
  by_cases hi : i < n
  · rw [if_pos hi]
    exact ⟨hi, fun x H'' ⟨e1, e2⟩ => by subst e1 e2; exact ⟨.refl, w, .int _⟩⟩
  · rw [if_neg hi]
    exact Nat.le_of_not_lt hi
theorem tEs_src {g : List D → Mem → R Src} {σ : St} {H : Hp} {Q : It → Hp → Prop} (h : tI G W (fun ρ μ => (fs ρ μ).bind g) σ H Q) :
    tEs G W fs σ H fun vs H1 => ∃ ds μ ι, Wd G ι μ H1 ∧ RelDs G ι H1 ds vs ∧ PsI G ι H1 (fun c d H' => W c d σ H') Q (g ds μ) := by
  obtain ⟨ρ, μ, ι, w, ev, q⟩ := h
  refine ⟨ρ, μ, ι, w, ev, ?_⟩
  dsimp only at q
  cases hf : fs ρ μ with
  | ok d m =>
    rw [hf] at q
    intro v H' ι' g' w' r
    refine ⟨d, m, ι', w', r, ?_⟩
    have q : PsI G ι H (fun c d H' => W c d σ H') Q (g d m) := q
    cases hg : g d m with
    | ok s m2 => rw [hg] at q; exact fun J H2 ι2 g2 w2 s => q J H2 ι2 (g'.trans g2) w2 s
    | ex x m2 => rw [hg] at q; exact fun H2 ι2 c d g2 w2 s => q H2 ι2 c d (g'.trans g2) w2 s
    | er => rw [hg] at q; exact q
  | ex x m => rw [hf] at q; exact q
  | er => rw [hf] at q; exact q
theorem PsI.here {Q : It → Hp → Prop} {s : Src} {J : It} (w : Wd G ι μ H) (k : SrcOk G ι H s J) (h : PsI G ι H E₀ Q (.ok s μ)) : Q J H := h J H ι .refl w k
theorem pi_rg1E {tg : Expr} {p : Pos} (hg : Gl X "range") (hm : X.mg "range" = none) (ha : PA X [a] (tEs (gx X T₀) W fs)) (hs : starEach [a] X.env = [(false, eval a X.env)]) : PI X tg (.Call (.Name "range" p) [a] [] pos) (tI (gx X T₀) W (iRg1 fs)) :=
  (pi_range1 hg hm ha hs).weak fun σ H Q h => tEs_mono (tEs_src h) fun vs H1 ⟨ds, μ, ι, w, r, q⟩ => by
    split at q
    · rename_i j
      obtain ⟨v, rfl, rv⟩ := RelDs.one (ds := []) r
      cases rv
      unfold rg1 at q
      split at q
      · rename_i hz
        exact ⟨j, rfl, by omega, by omega, PsI.here w src_rng q⟩
      · exact q.elim
    · exact q.elim
theorem pi_rg2E {tg : Expr} {p : Pos} (hg : Gl X "range") (hm : X.mg "range" = none) (ha : PA X [a, b] (tEs (gx X T₀) W fs)) (hs : starEach [a, b] X.env = [(false, eval a X.env), (false, eval b X.env)]) (hs2 : starEach [b] X.env = [(false, eval b X.env)]) : PI X tg (.Call (.Name "range" p) [a, b] [] pos) (tI (gx X T₀) W (iRg2 fs)) :=
  (pi_range2 hg hm ha hs hs2).weak fun σ H Q h => tEs_mono (tEs_src h) fun vs H1 ⟨ds, μ, ι, w, r, q⟩ => by
    split at q
    · rename_i i j
      obtain ⟨v, u, rfl, rv, ru⟩ := RelDs.two r
      cases rv; cases ru
      unfold rg2 at q
      split at q
      · rename_i hz
        exact ⟨i, j, rfl, ⟨by omega, by omega, by omega, by omega⟩, PsI.here w src_rng q⟩
      · exact q.elim
    · exact q.elim
/-- enumerate(a list), zip(two lists) -/
def enSrc (μ : Mem) : List D → R Src
  | [.loc n] => match lstAt μ n with
    | some _ => .ok (.enl n) μ
    | none => .er
  | [.fl xs] => .ok (.enf xs) μ
  | [.tup xs] => .ok (.enf xs) μ
  | _ => .er
def iEn (as : Es) : Iv := fun ρ μ => (as ρ μ).bind fun xs μ1 => enSrc μ1 xs
theorem yld_tup {d e : D} {v u : V} {T : Addr} (w : Wd G ι μ H) (hT : H T = none) (r : RelD G ι H d v) (q : RelD G ι H e u) : Grow G ι H ι (upd H T (.tup [v, u])) ∧ Wd G ι μ (upd H T (.tup [v, u])) ∧ RelD G ι (upd H T (.tup [v, u])) (.tup [d, e]) (.ref T) :=
  ⟨.obj hT, w.obj hT, .tup (SqT.of upd_same) ((RelDs.cons r (.cons q .nil)).grow w (.obj hT))⟩
theorem src_enl {a : Addr} {n : Nat} (hn : ι[n]? = some a) : SrcOk G ι H (.enl n) (Ite G.K a) := by
  intro ι' H' μ' i g w
  show match (lstAt μ' n).map (fun xs => (xs[i]?).map fun x => D.tup [.int i, x]) with | some (some d) => _ | some none => _ | none => _
  cases e : lstAt μ' n with
  | none => trivial
  | some xs =>
    obtain ⟨a', vs, e1, e2, l, q⟩ := w.lst (.loc (g.get hn)) (lstAt_some e)
    cases e1
    show match some ((xs[i]?).map fun x => D.tup [.int i, x]) with | some (some d) => _ | some none => _ | none => _
    cases e3 : xs[i]? with
    | none => exact ⟨vs, SqL.of l, by rw [← q.length]; exact List.getElem?_eq_none_iff.mp e3⟩
    | some d =>
      obtain ⟨v, h1, h2⟩ := q.get e3
      refine ⟨⟨vs, v, SqL.of l, h1⟩, fun x H'' hy => ?_⟩
      obtain ⟨T, u, rfl, hT, rfl, hy⟩ := hy
      have : some u = some v := (hy vs (SqL.of l)).symm.trans h1
      cases this
      exact yld_tup w hT (.int _) h2
theorem src_enf {a : Addr} {xs : List D} {vs : List V} (w0 : Wd G ι μ H) (h : FzL G.K ι H a vs) (q : RelDs G ι H xs vs) : SrcOk G ι H (.enf xs) (Ite G.K a) := by
  intro ι' H' μ' i g w
  show match some ((xs[i]?).map fun x => D.tup [.int i, x]) with | some (some d) => _ | some none => _ | none => _
  have h' := (g.fzL h).sq
  have q' := q.grow w0 g
  cases e3 : xs[i]? with
  | none => exact ⟨vs, h', by rw [← q'.length]; exact List.getElem?_eq_none_iff.mp e3⟩
  | some d =>
    obtain ⟨v, h1, h2⟩ := q'.get e3
    refine ⟨⟨vs, v, h', h1⟩, fun x H'' hy => ?_⟩
    obtain ⟨T, u, rfl, hT, rfl, hy⟩ := hy
    have : some u = some v := (hy vs h').symm.trans h1
    cases this
    exact yld_tup w hT (.int _) h2
theorem src_ent {a : Addr} {xs : List D} {vs : List V} (w0 : Wd G ι μ H) (h : SqT G.K H a vs) (q : RelDs G ι H xs vs) : SrcOk G ι H (.enf xs) (IteT G.K a) := by
  intro ι' H' μ' i g w
  show match some ((xs[i]?).map fun x => D.tup [.int i, x]) with | some (some d) => _ | some none => _ | none => _
  have h' := w0.sqT g h
  have q' := q.grow w0 g
  cases e3 : xs[i]? with
  | none => exact ⟨vs, h', by rw [← q'.length]; exact List.getElem?_eq_none_iff.mp e3⟩
  | some d =>
    obtain ⟨v, h1, h2⟩ := q'.get e3
    refine ⟨⟨vs, v, h', h1⟩, fun x H'' hy => ?_⟩
    obtain ⟨T, u, rfl, hT, rfl, hy⟩ := hy
    have : some u = some v := (hy vs h').symm.trans h1
    cases this
    exact yld_tup w hT (.int _) h2
theorem pi_enE {p tpos : Pos} {elts : List Expr} {kk : Nat} (hg : Gl X "enumerate") (hm : X.mg "enumerate" = none) (ha : PA X [a] (tEs (gx X T₀) W fs)) (hs : starEach [a] X.env = [(false, eval a X.env)]) : PI X (.Tuple elts kk tpos) (.Call (.Name "enumerate" p) [a] [] pos) (tI (gx X T₀) W (iEn fs)) :=
  ((pi_enum hg hm ha hs).or (pi_enumT hg hm ha hs)).weak fun σ H Q h => by
    obtain ⟨ρ, μ, ι, w, ev, q⟩ := h
    have h : tI (gx X T₀) W (iEn fs) σ H Q := ⟨ρ, μ, ι, w, ev, q⟩
    by_cases ht : ∃ xs m, fs ρ μ = .ok [.tup xs] m
    · obtain ⟨xs, m, ht⟩ := ht
      refine .inr ⟨ρ, μ, ι, w, ev, ?_⟩
      unfold iEn at q
      rw [ht] at q ⊢
      have q : PsI (gx X T₀) ι H (fun c d H' => W c d σ H') Q (.ok (.enf xs) m) := q
      intro v H' ι' g' w' r
      obtain ⟨v, rfl, rv⟩ := RelDs.one (ds := []) r
      cases rv with
      | tup h1 q1 => exact ⟨_, _, rfl, h1, q _ H' ι' g' w' (src_ent w' h1 q1)⟩
    · refine .inl ⟨ρ, μ, ι, w, ev, ?_⟩
      unfold iEn at q
      cases hf : fs ρ μ with
      | er => rw [hf] at q; exact q
      | ex x m => rw [hf] at q; exact q
      | ok ds m =>
        rw [hf] at q
        intro vs H' ι' g' w' r
        have q : PsI (gx X T₀) ι H (fun c d H' => W c d σ H') Q (enSrc m ds) := q
        unfold enSrc at q
        split at q
        · rename_i n
          obtain ⟨v, rfl, rv⟩ := RelDs.one (ds := []) r
          split at q
          · rename_i xs e
            obtain ⟨p, ws, rfl, e2, l, q1⟩ := w'.lst rv (lstAt_some e)
            exact ⟨p, ws, rfl, SqL.of l, q _ H' ι' g' w' (src_enl e2)⟩
          · exact q.elim
        · rename_i xs
          obtain ⟨v, rfl, rv⟩ := RelDs.one (ds := []) r
          cases rv with
          | fl h1 q1 => exact ⟨_, _, rfl, h1.sq, q _ H' ι' g' w' (src_enf w' h1 q1)⟩
        · exact absurd ⟨_, _, hf⟩ ht
        · exact q.elim
/-- what zip walks -/
def zOf (μ : Mem) : D → Option (List D ⊕ Nat)
  | .fl xs => some (.inl xs)
  | .loc n => match lstAt μ n with
    | some _ => some (.inr n)
    | none => none
  | _ => none
def zSrc (μ : Mem) (d e : D) : R Src := match d, e with
  | .tup xs, .tup ys => .ok (.zz (.inl xs) (.inl ys)) μ
  | d, e => match zOf μ d, zOf μ e with
    | some p, some q => .ok (.zz p q) μ
    | _, _ => .er
def iZl (as : Es) : Iv := fun ρ μ => (as ρ μ).bind fun xs μ1 => match xs with
  | [d, e] => zSrc μ1 d e
  | _ => .er
def iZl0 (as : Es) : Iv := fun ρ μ => (as ρ μ).bind fun xs μ1 => match xs with
  | [.loc n, .loc m] => match lstAt μ1 n, lstAt μ1 m with
    | some _, some _ => .ok (.zz (.inr n) (.inr m)) μ1
    | _, _ => .er
  | _ => .er
/-- where a list stands at each later state -/
def ZAt (G : Gc) (ι : List Addr) (H : Hp) (p : List D ⊕ Nat) (a : Addr) : Prop := ∀ ι' H' μ', Grow G ι H ι' H' → Wd G ι' μ' H' → ∀ xs, zAt μ' p = some xs → ∃ vs, SqL G.K H' a vs ∧ RelDs G ι' H' xs vs
theorem zOf_at {d : D} {v : V} {p : List D ⊕ Nat} (w : Wd G ι μ H) (r : RelD G ι H d v) (h : zOf μ d = some p) : ∃ a vs, v = .ref a ∧ SqL G.K H a vs ∧ ZAt G ι H p a := by
  unfold zOf at h
  split at h
  · cases h
    cases r with
    | fl h1 q =>
      refine ⟨_, _, rfl, h1.sq, fun ι' H' μ' g w' xs e => ?_⟩
      cases e
      exact ⟨_, (g.fzL h1).sq, q.grow w g⟩
  · split at h
    · rename_i n xs e
      cases h
      obtain ⟨a, vs, rfl, e2, l, q⟩ := w.lst r (lstAt_some e)
      refine ⟨a, vs, rfl, SqL.of l, fun ι' H' μ' g w' ys e3 => ?_⟩
      obtain ⟨a', vs', e4, _, l', q'⟩ := w'.lst (.loc (g.get e2)) (lstAt_some e3)
      cases e4
      exact ⟨vs', SqL.of l', q'⟩
    · cases h
  · cases h
theorem src_zz {a b : Addr} {p q : List D ⊕ Nat} (hp : ZAt G ι H p a) (hq : ZAt G ι H q b) : SrcOk G ι H (.zz p q) (Itz G.K a b) := by
  intro ι' H' μ' i g w
  unfold Src.nxt
  dsimp only
  cases e : zAt μ' p with
  | none => simp only []
  | some xs =>
    cases e' : zAt μ' q with
    | none => simp only []
    | some ys =>
      obtain ⟨vs, l, q⟩ := hp ι' H' μ' g w xs e
      obtain ⟨us, l', q'⟩ := hq ι' H' μ' g w ys e'
      simp only []
      cases e3 : xs[i]? with
      | none =>
        simp only []
        exact ⟨vs, us, l, l', .inl (by rw [← q.length]; exact List.getElem?_eq_none_iff.mp e3)⟩
      | some d =>
        cases e4 : ys[i]? with
        | none =>
          simp only []
          exact ⟨vs, us, l, l', .inr (by rw [← q'.length]; exact List.getElem?_eq_none_iff.mp e4)⟩
        | some d' =>
          simp only []
          obtain ⟨v, h1, h2⟩ := q.get e3
          obtain ⟨v', h1', h2'⟩ := q'.get e4
          refine ⟨⟨vs, us, v, v', l, l', h1, h1'⟩, fun x H'' hy => ?_⟩
          obtain ⟨T, u, u', rfl, hT, rfl, hy, hy'⟩ := hy
          have : some u = some v := (hy vs l).symm.trans h1
          cases this
          have : some u' = some v' := (hy' us l').symm.trans h1'
          cases this
          exact yld_tup w hT h2 h2'
theorem src_zll {a b : Addr} {n m : Nat} (hn : ι[n]? = some a) (hm : ι[m]? = some b) : SrcOk G ι H (.zz (.inr n) (.inr m)) (Itz G.K a b) := by
  have key : ∀ {n : Nat} {a : Addr}, ι[n]? = some a → ZAt G ι H (.inr n) a := fun {n a} hn ι' H' μ' g w xs e => by
    obtain ⟨a', vs, e1, _, l, q⟩ := w.lst (.loc (g.get hn)) (lstAt_some e)
    cases e1
    exact ⟨vs, SqL.of l, q⟩
  exact src_zz (key hn) (key hm)
theorem src_zt {a b : Addr} {xs ys : List D} {vs us : List V} (w0 : Wd G ι μ H) (h : SqT G.K H a vs) (q : RelDs G ι H xs vs) (h' : SqT G.K H b us) (q' : RelDs G ι H ys us) : SrcOk G ι H (.zz (.inl xs) (.inl ys)) (RZ.ItzT G.K a b) := by
  intro ι' H' μ' i g w
  unfold Src.nxt
  dsimp only [zAt]
  have l := w0.sqT g h
  have q := q.grow w0 g
  have l' := w0.sqT g h'
  have q' := q'.grow w0 g
  cases e3 : xs[i]? with
  | none =>
    simp only []
    exact ⟨vs, us, l, l', .inl (by rw [← q.length]; exact List.getElem?_eq_none_iff.mp e3)⟩
  | some d =>
    cases e4 : ys[i]? with
    | none =>
      simp only []
      exact ⟨vs, us, l, l', .inr (by rw [← q'.length]; exact List.getElem?_eq_none_iff.mp e4)⟩
    | some d' =>
      simp only []
      obtain ⟨v, h1, h2⟩ := q.get e3
      obtain ⟨v', h1', h2'⟩ := q'.get e4
      refine ⟨⟨vs, us, v, v', l, l', h1, h1'⟩, fun x H'' hy => ?_⟩
      obtain ⟨T, u, u', rfl, hT, rfl, hy, hy'⟩ := hy
      have : some u = some v := (hy vs l).symm.trans h1
      cases this
      have : some u' = some v' := (hy' us l').symm.trans h1'
      cases this
      exact yld_tup w hT h2 h2'
theorem pi_zlE {p tpos : Pos} {elts : List Expr} {kk : Nat} (hg : Gl X "zip") (hm : X.mg "zip" = none) (ha : PA X [a, b] (tEs (gx X T₀) W fs)) (hs : starEach [a, b] X.env = (false, eval a X.env) :: starEach [b] X.env) (hpl : (backTo pos (starEach [b] X.env)).any (·.1) = false) : PI X (.Tuple elts kk tpos) (.Call (.Name "zip" p) [a, b] [] pos) (tI (gx X T₀) W (iZl fs)) :=
  (RZ.pi_zipA hg hm ha hs hpl).weak fun σ H Q h => tEs_mono (tEs_src h) fun vs H1 ⟨ds, μ, ι, w, r, q⟩ => by
    split at q
    · rename_i d e
      obtain ⟨v, u, rfl, rv, ru⟩ := RelDs.two r
      unfold zSrc at q
      split at q
      · cases rv with
        | tup h1 q1 =>
          cases ru with
          | tup h2 q2 => exact ⟨_, _, _, _, rfl, .inr ⟨h1, h2, PsI.here w (src_zt w h1 q1 h2 q2) q⟩⟩
      · split at q
        · rename_i p1 p2 e1 e2
          obtain ⟨a1, xs, rfl, l1, z1⟩ := zOf_at w rv e1
          obtain ⟨a2, ys, rfl, l2, z2⟩ := zOf_at w ru e2
          exact ⟨a1, a2, xs, ys, rfl, .inl ⟨l1, l2, PsI.here w (src_zz z1 z2) q⟩⟩
        · exact q.elim
    · exact q.elim

/-! ### targets -/
inductive Tg where
  | nm (i : Nat) | tp (ts : List Tg)
mutual
def Tg.set (μ : Mem) : Tg → D → Env → Option Env
  | .nm i, d, ρ => if i < ρ.length then some (ρ.set i (some d)) else none
  | .tp ts, .tup ds, ρ => Tg.sets μ ts ds ρ
  | .tp ts, .fl ds, ρ => Tg.sets μ ts ds ρ
  | .tp ts, .loc n, ρ => match lstAt μ n with
    | some ds => Tg.sets μ ts ds ρ
    | none => none
  | .tp _, _, _ => none
def Tg.sets (μ : Mem) : List Tg → List D → Env → Option Env
  | [], [], ρ => some ρ
  | t :: ts, d :: ds, ρ => match Tg.set μ t d ρ with
    | some ρ' => Tg.sets μ ts ds ρ'
    | none => none
  | _, _, _ => none
end
mutual
def Tg.slots : Tg → List Nat
  | .nm i => [i]
  | .tp ts => Tg.slotss ts
def Tg.slotss : List Tg → List Nat
  | [] => []
  | t :: ts => t.slots ++ Tg.slotss ts
end
mutual
def gT (K : PySem.W.Frag) : Tg → TG
  | .nm i => gName i
  | .tp ts => fun v σ H Q => gTup K ts.length (gTs K ts) v σ H Q ∨ gLst K ts.length (gTs K ts) v σ H Q
def gTs (K : PySem.W.Frag) : List Tg → TGs
  | [] => gNil
  | t :: ts => gCons (gT K t) (gTs K ts)
end
theorem Tg.sets_len {μ : Mem} : ∀ {ts : List Tg} {ds : List D} {ρ ρ' : Env}, Tg.sets μ ts ds ρ = some ρ' → ts.length = ds.length
  | [], [], _, _, _ => rfl
  | t :: ts, d :: ds, ρ, ρ', h => by
    unfold Tg.sets at h
    split at h
    · have := Tg.sets_len h
      simp [this]
    · cases h
  | [], _ :: _, _, _, h => by cases h
  | _ :: _, [], _, _, h => by cases h
def Out (is : List Nat) (σ σ' : St) : Prop := σ'.length = σ.length ∧ ∀ j, j ∉ is → σ'[j]? = σ[j]?
mutual
theorem gT_ok (w : Wd G ι μ H) {Q : St → Hp → Prop} : ∀ {t : Tg} {d : D} {v : V} {ρ ρ' : Env} {σ : St}, RelD G ι H d v → EnvR G ι H ρ σ → Tg.set μ t d ρ = some ρ' → (∀ σ', EnvR G ι H ρ' σ' → Out t.slots σ σ' → Q σ' H) → gT G.K t v σ H Q
  | .nm i, d, v, ρ, ρ', σ, r, ev, h, k => by
    unfold Tg.set at h
    split at h
    · cases h
      refine k _ (ev.set r i) ⟨List.length_set .., fun j hj => ?_⟩
      have : i ≠ j := fun e => hj (by unfold Tg.slots; rw [e]; exact List.mem_singleton.mpr rfl)
      exact List.getElem?_set_ne this
    · cases h
  | .tp ts, d, v, ρ, ρ', σ, r, ev, h, k => by
    cases r with
    | tup h1 q =>
      unfold Tg.set at h
      exact .inl ⟨_, _, rfl, h1, by rw [← q.length, ← Tg.sets_len h], gTs_ok w q ev h fun σ' e o => k σ' e o⟩
    | fl h1 q =>
      unfold Tg.set at h
      exact .inr ⟨_, _, rfl, h1.sq, by rw [← q.length, ← Tg.sets_len h], gTs_ok w q ev h fun σ' e o => k σ' e o⟩
    | loc hn =>
      unfold Tg.set at h
      split at h
      · rename_i ds e
        obtain ⟨a, vs, e1, e2, l, q⟩ := w.lst (.loc hn) (lstAt_some e)
        cases e1
        exact .inr ⟨_, _, rfl, SqL.of l, by rw [← q.length, ← Tg.sets_len h], gTs_ok w q ev h fun σ' e o => k σ' e o⟩
      · cases h
    | _ => cases h
theorem gTs_ok (w : Wd G ι μ H) {Q : St → Hp → Prop} : ∀ {t : List Tg} {d : List D} {v : List V} {ρ ρ' : Env} {σ : St}, RelDs G ι H d v → EnvR G ι H ρ σ → Tg.sets μ t d ρ = some ρ' → (∀ σ', EnvR G ι H ρ' σ' → Out (Tg.slotss t) σ σ' → Q σ' H) → gTs G.K t v σ H Q
  | [], _, _, ρ, ρ', σ, .nil, ev, h, k => by
    cases h
    exact ⟨rfl, k σ ev ⟨rfl, fun _ _ => rfl⟩⟩
  | t :: ts, _, _, ρ, ρ', σ, .cons r rs, ev, h, k => by
    unfold Tg.sets at h
    split at h
    · rename_i ρ1 e
      refine ⟨_, _, rfl, gT_ok w r ev e fun σ1 ev1 o1 => gTs_ok w rs ev1 h fun σ2 ev2 o2 => k σ2 ev2 ⟨o2.1.trans o1.1, fun j hj => ?_⟩⟩
      unfold Tg.slotss at hj
      rw [List.mem_append, not_or] at hj
      exact (o2.2 j hj.2).trans (o1.2 j hj.1)
    · cases h
  | [], _, _, _, _, _, .cons _ _, _, h, _ => by cases h
  | _ :: _, _, _, _, _, _, .nil, _, h, _ => by cases h
end
end
end Ev

set_option Elab.async false
set_option linter.all false
set_option maxRecDepth 100000
set_option maxHeartbeats 4000000
namespace Ev
open PySem PySem.Spec PyProof.Rows L2
def wipeE (ρ : Env) : List Nat → Env
  | [] => ρ
  | v :: vs => (wipeE ρ vs).set v none
def noEx {α β : Type} : R α → (α → Mem → R β) → R β
  | .ok a m, f => f a m
  | _, _ => .er
/-- the turns of a comprehension; its list stands at n -/
def lcGo (src : Src) (tg : Tg) (ifs : T) (elt : E) (ρ : Env) (n : Nat) : Nat → Nat → Mem → R D
  | 0, i, μ => match src.nxt i μ with
    | some none => .ok (.loc n) μ
    | _ => .er
  | k + 1, i, μ => match src.nxt i μ with
    | some none => .ok (.loc n) μ
    | some (some d) => match tg.set μ d ρ with
      | some ρ1 => noEx (ifs ρ1 μ) fun b μ2 => if b = true then noEx (elt ρ1 μ2) fun y μ3 => (match lstAt μ3 n with
          | some xs => if xs.length < 16777216 then lcGo src tg ifs elt ρ n k (i + 1) (μ3.set n (.lst (xs ++ [y]))) else .er
          | none => .er)
        else lcGo src tg ifs elt ρ n k (i + 1) μ2
      | none => .er
    | none => .er
def eLc (it : Iv) (tg : Tg) (ifs : T) (elt : E) (own : List Nat) : E := fun ρ μ => (it ρ μ).bind fun src μ1 => if tg.slots.all (fun i => own.contains i) then lcGo src tg ifs elt (wipeE ρ own) μ1.length (src.bnd μ1) 0 (μ1 ++ [.lst []]) else .er
def tYesT : T := fun _ μ => .ok true μ
section
variable {X : Cx} {T₀ : TX} {W : WX} {G : Gc} {ι : List Addr} {H : Hp} {μ : Mem} {σ : St} {ρ : Env} {E₀ : XK}
theorem EnvR.wipe (e : EnvR G ι H ρ σ) : ∀ vs, EnvR G ι H (wipeE ρ vs) (L2.wipe σ vs)
  | [] => e
  | v :: vs => by
    have ih := EnvR.wipe e vs
    refine ⟨by show ((wipeE ρ vs).set v none).length = ((L2.wipe σ vs).set v none).length; rw [List.length_set, List.length_set]; exact ih.1, fun i d h => ?_⟩
    have h : ((wipeE ρ vs).set v none)[i]? = some (some d) := h
    show ∃ u, ((L2.wipe σ vs).set v none)[i]? = some (some u) ∧ _
    by_cases hj : v = i
    · subst hj
      exfalso
      by_cases hl : v < (wipeE ρ vs).length
      · rw [List.getElem?_set_self hl] at h; cases h
      · rw [List.getElem?_eq_none (by rw [List.length_set]; omega)] at h; cases h
    · rw [List.getElem?_set_ne hj] at h ⊢
      exact ih.2 i d h
theorem wipe_len (σ : St) (vs : List Nat) : (L2.wipe σ vs).length = σ.length := wipe_length σ vs
theorem wipe_get {σ : St} {i : Nat} : ∀ {vs : List Nat}, i ∈ vs → i < σ.length → (L2.wipe σ vs)[i]? = some none
  | v :: vs, h, hl => by
    show ((L2.wipe σ vs).set v none)[i]? = some none
    by_cases hv : v = i
    · subst hv
      exact List.getElem?_set_self (by rw [wipe_len]; exact hl)
    · rw [List.getElem?_set_ne hv]
      exact wipe_get ((List.mem_cons.mp h).resolve_left (Ne.symm hv)) hl
theorem wipe_same {σ σ' : St} {vs is : List Nat} (o : Out is (L2.wipe σ vs) σ') (h : ∀ i ∈ is, i ∈ vs) : L2.wipe σ' vs = L2.wipe σ vs := by
  apply List.ext_getElem?
  intro i
  by_cases hm : i ∈ vs
  · by_cases hl : i < σ.length
    · rw [wipe_get hm hl, wipe_get hm (by rw [o.1, wipe_len]; exact hl)]
    · rw [List.getElem?_eq_none (by rw [wipe_len, o.1, wipe_len]; omega), List.getElem?_eq_none (by rw [wipe_len]; omega)]
  · rw [wipe_out hm, o.2 i (fun z => hm (h i z))]
theorem tTyes : tT G W tYesT σ H = fun Q => ∃ ρ μ ι, Wd G ι μ H ∧ EnvR G ι H ρ σ ∧ PsB G ι H (fun c d H' => W c d σ H') Q (.ok true μ) := rfl
theorem pts_nilE : PTs X [] (tT (gx X T₀) W tYesT) := ⟨fun pins s σ H Q I ⟨ρ, μ, ι, w, ev, q⟩ => pts_nil.run pins s σ H Q I (PsB.here w q)⟩
/-- the reading of a comprehension -/
theorem tE_lc {it : Iv} {tg : Tg} {ifs : T} {elt : E} {own : List Nat} {σ : St} {H : Hp} {Q : VK} (h : tE G W (eLc it tg ifs elt own) σ H Q) :
    tLc (tI G W it) (gT G.K tg) (tT G (fun _ _ _ _ => False) ifs) (tE G (fun _ _ _ _ => False) elt) own σ H Q := by
  obtain ⟨ρ, μ, ι, w, ev, q⟩ := h
  refine ⟨ρ, μ, ι, w, ev, ?_⟩
  unfold eLc at q
  cases hf : it ρ μ with
  | ex x m => rw [hf] at q; exact q
  | er => rw [hf] at q; exact q
  | ok src μ1 =>
    rw [hf] at q
    have q : Pst G ι H (fun c d H' => W c d σ H') Q (if tg.slots.all (fun i => own.contains i) then lcGo src tg ifs elt (wipeE ρ own) μ1.length (src.bnd μ1) 0 (μ1 ++ [.lst []]) else .er) := q
    split at q
    · rename_i hown
      have hown : ∀ i ∈ tg.slots, i ∈ own := fun i hi => by
        have := List.all_eq_true.mp hown i hi
        simpa using this
      intro J H1 ι1 g1 w1 sk D hD
      have ev1 := ev.grow w g1
      have hn : (ι1 ++ [D])[μ1.length]? = some D := by rw [← w1.len]; simp
      refine ⟨fun i m H' => ∃ μ' ι', Wd G ι' μ' H' ∧ Grow G (ι1 ++ [D]) (upd H1 D (.lst [])) ι' H' ∧ Pst G ι' H' (fun c d H' => W c d σ H') Q (lcGo src tg ifs elt (wipeE ρ own) μ1.length m i μ'), ⟨src.bnd μ1, _, _, w1.more (m := .lst []) hD rfl ⟨[], upd_same, .nil⟩, .refl, Pst.grow (g1.trans (.more hD)) q⟩, ?_⟩
      rintro i m H' ⟨μ', ι', w', g', q'⟩
      have g0 : Grow G ι1 H1 ι' H' := (Grow.more hD).trans g'
      have evw := (ev1.grow w1 g0).wipe own
      have sk' := sk ι' H' μ' i g0 w'
      cases m with
      | zero =>
        unfold lcGo at q'
        split at q'
        · rename_i e
          rw [e] at sk'
          exact .inl ⟨sk', Pst.here w' (.loc (g'.get hn)) q'⟩
        · exact q'.elim
      | succ k =>
        unfold lcGo at q'
        split at q'
        · rename_i e
          rw [e] at sk'
          exact .inl ⟨sk', Pst.here w' (.loc (g'.get hn)) q'⟩
        · rename_i d e
          rw [e] at sk'
          obtain ⟨go, yl⟩ := sk'
          split at q'
          · rename_i ρ1 e1
            refine .inr ⟨go, fun H2 => ∃ μ2 ι2, Wd G ι2 μ2 H2 ∧ Grow G (ι1 ++ [D]) (upd H1 D (.lst [])) ι2 H2 ∧ Pst G ι2 H2 (fun c d H' => W c d σ H') Q (lcGo src tg ifs elt (wipeE ρ own) μ1.length k (i + 1) μ2), fun H2 hN => ⟨k, Nat.lt_succ_self k, hN⟩, fun x H2 hy => ?_⟩
            obtain ⟨g2, w2, r2⟩ := yl x H2 hy
            refine gT_ok w2 r2 (evw.grow w' g2) e1 fun σ2 ev2 o2 => ⟨wipe_same o2 hown, ρ1, μ', ι', w2, ev2, ?_⟩
            cases hi : ifs ρ1 μ' with
            | ex x m => rw [hi] at q'; exact q'.elim
            | er => rw [hi] at q'; exact q'.elim
            | ok b μ3 =>
              rw [hi] at q'
              intro H3 ι3 g3 w3
              have gg := (g'.trans g2).trans g3
              cases b with
              | false =>
                rw [if_neg Bool.false_ne_true]
                exact ⟨μ3, ι3, w3, gg, Pst.grow (g2.trans g3) q'⟩
              | true =>
                rw [if_pos rfl]
                refine ⟨ρ1, μ3, ι3, w3, ev2.grow w2 g3, ?_⟩
                have q' : Pst G ι' H' (fun c d H' => W c d σ H') Q (noEx (elt ρ1 μ3) fun y μ3 => (match lstAt μ3 μ1.length with
                  | some xs => if xs.length < 16777216 then lcGo src tg ifs elt (wipeE ρ own) μ1.length k (i + 1) (μ3.set μ1.length (.lst (xs ++ [y]))) else .er
                  | none => .er)) := q'
                cases he : elt ρ1 μ3 with
                | ex x m => rw [he] at q'; exact q'.elim
                | er => rw [he] at q'; exact q'.elim
                | ok y μ4 =>
                  rw [he] at q'
                  intro v H4 ι4 g4 w4 rv
                  have q' : Pst G ι' H' (fun c d H' => W c d σ H') Q (match lstAt μ4 μ1.length with
                    | some xs => if xs.length < 16777216 then lcGo src tg ifs elt (wipeE ρ own) μ1.length k (i + 1) (μ4.set μ1.length (.lst (xs ++ [y]))) else .er
                    | none => .er) := q'
                  split at q'
                  · rename_i xs e2
                    split at q'
                    · rename_i hz
                      have hs : sizeLine = 16777216 := sizeLine_eq
                      have hn4 : ι4[μ1.length]? = some D := (gg.trans g4).get hn
                      obtain ⟨a, vs, e3, e4, l, rr⟩ := w4.lst (.loc hn4) (lstAt_some e2)
                      cases e3
                      refine ⟨vs, l, by rw [← rr.length]; omega, _, ι4, w4.write (m := .lst (xs ++ [y])) hn4 rfl (lst_ne_code l) ⟨_, upd_same, (rr.append (.cons rv .nil)).grow w4 (.write hn4)⟩, (gg.trans g4).trans (.write hn4), Pst.grow ((g2.trans g3).trans (g4.trans (.write hn4))) q'⟩
                    · exact q'.elim
                  · exact q'.elim
          · exact q'.elim
        · exact q'.elim
    · exact q.elim
theorem pe_lcE {elt tg iter : Expr} {ifs : List Expr} {scope : Scope} {own : List (Str × Nat)} {pos : Pos} {fi : Iv} {t : Tg} {fc : T} {fe : E} (hc : X.calm = true) (hN : X.N.Nodup) (hi : PI X tg iter (tI (gx X T₀) W fi)) (ok : BlkOk X.N X.env.scope scope own)
    (hg : ∀ (s : Shared) (H : Hp) (C : Addr) (cl : List (Str × Addr)) (fp : List Addr), PG (X.blk s H scope (compEnvC scope cl C X.env) fp) tg (gT X.K t)) (ht : ∀ (s : Shared) (H : Hp) (C : Addr) (cl : List (Str × Addr)) (fp : List Addr), PTs (X.blk s H scope (compEnvC scope cl C X.env) fp) ifs (tT (gx X T₀) (fun _ _ _ _ => False) fc))
    (he : ∀ (s : Shared) (H : Hp) (C : Addr) (cl : List (Str × Addr)) (fp : List Addr), PE (X.blk s H scope (compEnvC scope cl C X.env) fp) elt (tE (gx X T₀) (fun _ _ _ _ => False) fe)) (hs : ∀ x, foldedSetIterable iter X.env x = pure x) :
    PE X (.ListComp elt [⟨tg, iter, ifs, 0⟩] scope pos) (tE (gx X T₀) W (eLc fi t fc fe (own.map (·.2)))) := (pe_lc hc hN hi ok hg ht he hs).weak fun σ H Q h => tE_lc h
end
end Ev

set_option Elab.async false
set_option linter.all false
set_option maxRecDepth 100000
set_option maxHeartbeats 4000000
namespace Ev
open PySem PySem.Spec PyProof.Rows L2
def sNx : S := fun ρ μ => .nx ρ μ
def sSeq (a b : S) : S := fun ρ μ => match a ρ μ with
  | .nx ρ' μ' => b ρ' μ'
  | r => r
def sSet (t : Tg) (e : E) : S := fun ρ μ => (e ρ μ).st ρ fun d μ1 => match t.set μ1 d ρ with
  | some ρ' => .nx ρ' μ1
  | none => .er
/-- o[i] = v -/
def putD : D → D → D → Mem → Option Mem
  | .loc n, .int k, v, μ => match lstAt μ n with
    | some xs => match ixN xs.length k with
      | some j => some (μ.set n (.lst (xs.set j v)))
      | none => none
    | none => none
  | .loc n, d, v, μ => match dctAt μ n, keyT d with
    | some (kn, kvs), some k => if kvs.length < sizeLine then some (μ.set n (.dct kn (dPut kvs k d v))) else none
    | _, _ => none
  | _, _, _, _ => none
def sSub (o i e : E) : S := fun ρ μ => (e ρ μ).st ρ fun v μ1 => (o ρ μ1).st ρ fun x μ2 => (i ρ μ2).st ρ fun y μ3 => match putD x y v μ3 with
  | some μ4 => .nx ρ μ4
  | none => .er
/-- targets of a tuple: names, subscripts -/
inductive TgX where
  | nm (i : Nat) | sb (o i : E)
def asX : List TgX → List D → S
  | [], [] => fun ρ μ => .nx ρ μ
  | .nm i :: ts, d :: ds => fun ρ μ => if i < ρ.length then asX ts ds (ρ.set i (some d)) μ else .er
  | .sb o i :: ts, d :: ds => fun ρ μ => (o ρ μ).st ρ fun x μ2 => (i ρ μ2).st ρ fun y μ3 => match putD x y d μ3 with
    | some μ4 => asX ts ds ρ μ4
    | none => .er
  | _, _ => fun _ _ => .er
def sSetX (ts : List TgX) (e : E) : S := fun ρ μ => (e ρ μ).st ρ fun d μ1 => match d with
  | .tup ds => if ds.length = ts.length then asX ts ds ρ μ1 else .er
  | _ => .er
def sExpr (e : E) : S := fun ρ μ => (e ρ μ).st ρ fun _ μ1 => .nx ρ μ1
def sRet (e : E) : S := fun ρ μ => (e ρ μ).st ρ fun d μ1 => .rt d μ1
def sRetN : S := fun _ μ => .rt .non μ
def sIf (t : T) (a b : S) : S := fun ρ μ => (t ρ μ).st ρ fun c μ1 => if c = true then a ρ μ1 else b ρ μ1
def sBk : S := fun ρ μ => .bk ρ μ
def sCt : S := fun ρ μ => .ct ρ μ
/-- raise X('..') -/
def sRaise (x : Str) : S := fun ρ μ => .ex { c := x } ρ μ
def whGo (t : T) (b : S) : Nat → Env → Mem → RS
  | 0, _, _ => .er
  | k + 1, ρ, μ => (t ρ μ).st ρ fun c μ1 => if c = true then (match b ρ μ1 with
      | .nx ρ' μ' => whGo t b k ρ' μ'
      | .ct ρ' μ' => whGo t b k ρ' μ'
      | .bk ρ' μ' => .nx ρ' μ'
      | r => r) else .nx ρ μ1
def sWhile (n : Nat) (t : T) (b : S) : S := fun ρ μ => whGo t b n ρ μ
def foGo (src : Src) (tg : Tg) (b : S) : Nat → Nat → Env → Mem → RS
  | 0, i, ρ, μ => match src.nxt i μ with
    | some none => .nx ρ μ
    | _ => .er
  | k + 1, i, ρ, μ => match src.nxt i μ with
    | some none => .nx ρ μ
    | some (some d) => match tg.set μ d ρ with
      | some ρ1 => (match b ρ1 μ with
        | .nx ρ' μ' => foGo src tg b k (i + 1) ρ' μ'
        | .ct ρ' μ' => foGo src tg b k (i + 1) ρ' μ'
        | .bk ρ' μ' => .nx ρ' μ'
        | r => r)
      | none => .er
    | none => .er
def sFor (it : Iv) (tg : Tg) (b : S) : S := fun ρ μ => (it ρ μ).st ρ fun src μ1 => foGo src tg b (src.bnd μ1) 0 ρ μ1
section
variable {X : Cx} {T₀ : TX} {W : WX} {G : Gc} {ι : List Addr} {H : Hp} {μ : Mem} {σ : St} {ρ : Env} {D₀ : Ends}
/-- an expression within a statement -/
theorem Pst.st {f : R D} {g : D → Mem → RS} (w : Wd G ι μ H) (e : EnvR G ι H ρ σ) (h : PsS G ι H W D₀ (f.st ρ g)) :
    Pst G ι H (fun c d H' => W c d σ H') (fun x H1 => ∃ d μ1 ι1, Grow G ι H ι1 H1 ∧ Wd G ι1 μ1 H1 ∧ EnvR G ι1 H1 ρ σ ∧ RelD G ι1 H1 d x ∧ PsS G ι1 H1 W D₀ (g d μ1)) f := by
  cases f with
  | ok d m => exact fun v H' ι' g' w' r => ⟨d, m, ι', g', w', e.grow w g', r, PsS.grow g' h⟩
  | ex x m => exact fun H' ι' cls od g' w' r => h σ H' ι' cls od g' w' (e.grow w g') r
  | er => exact h
theorem PsB.st {f : R Bool} {g : Bool → Mem → RS} (w : Wd G ι μ H) (e : EnvR G ι H ρ σ) (h : PsS G ι H W D₀ (f.st ρ g)) :
    PsB G ι H (fun c d H' => W c d σ H') (fun c H1 => ∃ μ1 ι1, Grow G ι H ι1 H1 ∧ Wd G ι1 μ1 H1 ∧ EnvR G ι1 H1 ρ σ ∧ PsS G ι1 H1 W D₀ (g c μ1)) f := by
  cases f with
  | ok d m => exact fun H' ι' g' w' => ⟨m, ι', g', w', e.grow w g', PsS.grow g' h⟩
  | ex x m => exact fun H' ι' cls od g' w' r => h σ H' ι' cls od g' w' (e.grow w g') r
  | er => exact h
theorem PsI.st {f : R Src} {g : Src → Mem → RS} (w : Wd G ι μ H) (e : EnvR G ι H ρ σ) (h : PsS G ι H W D₀ (f.st ρ g)) :
    PsI G ι H (fun c d H' => W c d σ H') (fun J H1 => ∃ s μ1 ι1, Grow G ι H ι1 H1 ∧ Wd G ι1 μ1 H1 ∧ EnvR G ι1 H1 ρ σ ∧ SrcOk G ι1 H1 s J ∧ PsS G ι1 H1 W D₀ (g s μ1)) f := by
  cases f with
  | ok s m => exact fun J H' ι' g' w' k => ⟨s, m, ι', g', w', e.grow w g', k, PsS.grow g' h⟩
  | ex x m => exact fun H' ι' cls od g' w' r => h σ H' ι' cls od g' w' (e.grow w g') r
  | er => exact h
theorem tE_of {f : E} {Q : VK} (w : Wd G ι μ H) (e : EnvR G ι H ρ σ) (h : Pst G ι H (fun c d H' => W c d σ H') Q (f ρ μ)) : tE G W f σ H Q := ⟨ρ, μ, ι, w, e, h⟩
variable {a b c o e : Expr} {fa fb fc fo fe : E} {pos : Pos} {st : Stmt} {sts : List Stmt} {s u : S}
theorem pss_nilE : PSs X [] (tS (gx X T₀) W sNx) := pss_nil.weak fun D σ H ⟨ρ, μ, ι, w, ev, q⟩ => q σ H ι .refl w ev
theorem tS_seq {D : Ends} {σ : St} {H : Hp} (h : tS G W (sSeq s u) D σ H) : tSeq (tS G W s) (tS G W u) D σ H := by
  obtain ⟨ρ, μ, ι, w, ev, q⟩ := h
  refine ⟨ρ, μ, ι, w, ev, ?_⟩
  unfold sSeq at q
  cases hs : s ρ μ with
  | nx ρ' μ' =>
    rw [hs] at q
    exact fun σ' H' ι' g' w' ev' => ⟨ρ', μ', ι', w', ev', PsS.grow g' q⟩
  | _ => rw [hs] at q; exact q
theorem pss_consE (h1 : PS X st (tS (gx X T₀) W s)) (h2 : PSs X sts (tS (gx X T₀) W u)) : PSs X (st :: sts) (tS (gx X T₀) W (sSeq s u)) := (pss_cons h1 h2).weak fun D σ H h => tS_seq h
theorem tS_set {t : Tg} {D : Ends} {σ : St} {H : Hp} (h : tS G W (sSet t fe) D σ H) : tAsg (tE G W fe) (gT G.K t) D σ H := by
  obtain ⟨ρ, μ, ι, w, ev, q⟩ := h
  refine ⟨ρ, μ, ι, w, ev, ?_⟩
  have q1 := Pst.st w ev q
  cases hf : fe ρ μ with
  | ok d m =>
    rw [hf] at q1
    intro v H' ι' g' w' r
    obtain ⟨d1, μ1, ι1, g1, w1, e1, r1, q2⟩ := q1 v H' ι' g' w' r
    split at q2
    · rename_i ρ' e2
      exact gT_ok w1 r1 e1 e2 fun σ' ev' _ => q2 σ' _ ι1 .refl w1 ev'
    · exact q2.elim
  | ex x m => rw [hf] at q1; exact q1
  | er => rw [hf] at q1; exact q1
theorem ps_setE {tg : Expr} {t : Tg} (he : PE X e (tE (gx X T₀) W fe)) (hg : PG X tg (gT X.K t)) (hs : swapsWithSole [tg] e pos.line X.env = pure false) (hw : swappedStores [tg] e X.env = pure none) (h1 : (assignEach [tg] X.env).map (·.2) = [assign tg X.env]) :
    PS X (.Assign [tg] e pos) (tS (gx X T₀) W (sSet t fe)) := (ps_asg he hg hs hw h1).weak fun D σ H h => tS_set h
theorem ps_lcE {i : Nat} {y : Str} {py : Pos} {elt tg iter : Expr} {ifs : List Expr} {scope : Scope} {own : List (Str × Nat)} {pos spos : Pos} {fi : Iv} {t : Tg} {fc : T} {fe : E} (hc : X.calm = true) (hN : X.N.Nodup) (hy : X.N[i]? = some y) (hyl : X.env.scope.names.lookup y = some .local)
    (hsw : swapsWith (.ListComp elt [⟨tg, iter, ifs, 0⟩] scope pos) (some (.Name y py)) spos.line X.env = pure true) (hi : PI X tg iter (tI (gx X T₀) W fi)) (ok : BlkOk X.N X.env.scope scope own)
    (hg : ∀ (s : Shared) (H : Hp) (C : Addr) (cl : List (Str × Addr)) (fp : List Addr), PG (X.blk s H scope (compEnvC scope cl C X.env) fp) tg (gT X.K t)) (ht : ∀ (s : Shared) (H : Hp) (C : Addr) (cl : List (Str × Addr)) (fp : List Addr), PTs (X.blk s H scope (compEnvC scope cl C X.env) fp) ifs (tT (gx X T₀) (fun _ _ _ _ => False) fc))
    (he : ∀ (s : Shared) (H : Hp) (C : Addr) (cl : List (Str × Addr)) (fp : List Addr), PE (X.blk s H scope (compEnvC scope cl C X.env) fp) elt (tE (gx X T₀) (fun _ _ _ _ => False) fe)) (hs : ∀ x, foldedSetIterable iter X.env x = pure x) :
    PS X (.Assign [.Name y py] (.ListComp elt [⟨tg, iter, ifs, 0⟩] scope pos) spos) (tS (gx X T₀) W (sSet (.nm i) (eLc fi t fc fe (own.map (·.2))))) := (ps_setLc hc hN hy hyl hsw hi ok hg ht he hs).weak fun D σ H h => by
  have h := tS_set h
  obtain ⟨ρ, μ, ι, w, ev, q⟩ := h
  exact tE_lc ⟨ρ, μ, ι, w, ev, q⟩
theorem put_ok (wt : T₀.w = X.w) (hu : X.A.units + 64 < cLine) : PSet X (fun o i v H Q => ∃ d e f μ ι, Wd (gx X T₀) ι μ H ∧ RelD (gx X T₀) ι H d o ∧ RelD (gx X T₀) ι H e i ∧ RelD (gx X T₀) ι H f v ∧ ∃ μ', putD d e f μ = some μ' ∧ ∀ H' ι', Grow (gx X T₀) ι H ι' H' → Wd (gx X T₀) ι' μ' H' → Q H') := by
  intro pins s σ H o i v ov iv u Q I ro ri rv h
  obtain ⟨d, e, f, μ, ι, w, rd, re, rf, μ', h, q⟩ := h
  unfold putD at h
  split at h
  · cases re
    split at h
    · rename_i xs e1
      split at h
      · rename_i j e2
        cases h
        obtain ⟨p, vs, rfl, i1, l, qq⟩ := w.lst rd (lstAt_some e1)
        refine set_list pins s σ H _ _ _ ov iv u Q I ro ri rv ⟨p, vs, _, j, rfl, rfl, l, by rw [← qq.length]; exact e2, ?_⟩
        exact q _ ι (.write i1) (w.write (m := .lst _) i1 rfl (lst_ne_code l) ⟨_, upd_same, (qq.set rf j).grow w (.write i1)⟩)
      · cases h
    · cases h
  · split at h
    · rename_i e1 e2
      split at h
      · rename_i hz
        cases h
        exact put_dct wt hu w I rd re rf ro ri rv e2 e1 hz fun H' s' g w' I' => ⟨H', I', q H' ι g w'⟩
      · cases h
    · cases h
  · cases h
theorem ps_subE {i : Expr} {fi : E} {tp : Pos} (wt : T₀.w = X.w) (hu : X.A.units + 64 < cLine) (ho : PE X o (tE (gx X T₀) W fo)) (hi : PE X i (tE (gx X T₀) W fi)) (he : PE X e (tE (gx X T₀) W fe)) (hs : swapsWithSole [.Subscript o i tp] e pos.line X.env = pure false) (hw : swappedStores [.Subscript o i tp] e X.env = pure none)
    (ha : ∀ v, assign (.Subscript o i tp) X.env v = (do
      let ov ← holding [v] (eval o X.env)
      let iv ← holding [v, ov] (eval i X.env)
      standAt tp
      holding [v, ov, iv] (setItem ov iv v)
      release [v, ov, iv] [])) (h1 : (assignEach [.Subscript o i tp] X.env).map (·.2) = [assign (.Subscript o i tp) X.env]) :
    PS X (.Assign [.Subscript o i tp] e pos) (tS (gx X T₀) W (sSub fo fi fe)) := (ps_asg he (pg_sub ho hi (put_ok (T₀ := T₀) wt hu) ha) hs hw h1).weak fun D σ H ⟨ρ, μ, ι, w, ev, q⟩ => by
  refine ⟨ρ, μ, ι, w, ev, ?_⟩
  have q1 := Pst.st w ev q
  cases hf : fe ρ μ with
  | ex x m => rw [hf] at q1; exact q1
  | er => rw [hf] at q1; exact q1
  | ok d m =>
    rw [hf] at q1
    intro v H' ι' g' w' r
    obtain ⟨d1, μ1, ι1, g1, w1, e1, r1, q2⟩ := q1 v H' ι' g' w' r
    refine ⟨ρ, μ1, ι1, w1, e1, ?_⟩
    have q3 := Pst.st w1 e1 q2
    cases hg : fo ρ μ1 with
    | ex x m => rw [hg] at q3; exact q3
    | er => rw [hg] at q3; exact q3
    | ok d' m' =>
      rw [hg] at q3
      intro v' H'' ι'' g'' w'' r'
      obtain ⟨d2, μ2, ι2, g2, w2, e2, r2, q4⟩ := q3 v' H'' ι'' g'' w'' r'
      refine ⟨ρ, μ2, ι2, w2, e2, ?_⟩
      have q5 := Pst.st w2 e2 q4
      cases hh : fi ρ μ2 with
      | ex x m => rw [hh] at q5; exact q5
      | er => rw [hh] at q5; exact q5
      | ok d3 m3 =>
        rw [hh] at q5
        intro v3 H3 ι3 g3 w3 r3
        obtain ⟨d4, μ4, ι4, g4, w4, e4, r4, q6⟩ := q5 v3 H3 ι3 g3 w3 r3
        split at q6
        · rename_i μ5 e5
          exact ⟨d2, d4, d1, μ4, ι4, w4, r2.grow w2 g4, r4, r1.grow w1 (g2.trans g4), μ5, e5, fun H5 ι5 g5 w5 => q6 σ H5 ι5 g5 w5 (e4.grow w4 g5)⟩
        · exact q6.elim
/-- what the targets ask -/
def gX (X : Cx) (T : TX) (W : WX) : TgX → TG
  | .nm i => gName i
  | .sb o i => gSub (tE (gx X T) W o) (tE (gx X T) W i) (fun o i v H Q => ∃ d e f μ ι, Wd (gx X T) ι μ H ∧ RelD (gx X T) ι H d o ∧ RelD (gx X T) ι H e i ∧ RelD (gx X T) ι H f v ∧ ∃ μ', putD d e f μ = some μ' ∧ ∀ H' ι', Grow (gx X T) ι H ι' H' → Wd (gx X T) ι' μ' H' → Q H')
def gXs (X : Cx) (T : TX) (W : WX) : List TgX → TGs
  | [] => gNil
  | t :: ts => gCons (gX X T W t) (gXs X T W ts)
theorem asX_ok {D : Ends} : ∀ {ts : List TgX} {ds : List Ev.D} {vs : List V} {ρ : Env} {μ : Mem} {ι : List Addr} {σ : St} {H : Hp} {Q : St → Hp → Prop}, (∀ σ' H', Q σ' H' ↔ D.nx σ' H') → RelDs (gx X T₀) ι H ds vs → Wd (gx X T₀) ι μ H → EnvR (gx X T₀) ι H ρ σ → PsS (gx X T₀) ι H W D (asX ts ds ρ μ) → gXs X T₀ W ts vs σ H Q
  | [], [], _, ρ, μ, ι, σ, H, Q, hQ, .nil, w, ev, q => ⟨rfl, (hQ σ H).mpr (q σ H ι .refl w ev)⟩
  | .nm i :: ts, d :: ds, _, ρ, μ, ι, σ, H, Q, hQ, .cons r rs, w, ev, q => by
    have q : PsS (gx X T₀) ι H W D (if i < ρ.length then asX ts ds (ρ.set i (some d)) μ else .er) := q
    split at q
    · exact ⟨_, _, rfl, asX_ok hQ rs w (ev.set r i) q⟩
    · exact q.elim
  | .sb o i :: ts, d :: ds, _, ρ, μ, ι, σ, H, Q, hQ, .cons r rs, w, ev, q => by
    have q1 := Pst.st w ev q
    refine ⟨_, _, rfl, ρ, μ, ι, w, ev, ?_⟩
    cases hf : o ρ μ with
    | ex x m => rw [hf] at q1; exact q1
    | er => rw [hf] at q1; exact q1
    | ok d1 m1 =>
      rw [hf] at q1
      intro v1 H1 ι1 g1 w1 r1
      obtain ⟨d2, μ2, ι2, g2, w2, e2, r2, q2⟩ := q1 v1 H1 ι1 g1 w1 r1
      refine ⟨ρ, μ2, ι2, w2, e2, ?_⟩
      have q3 := Pst.st w2 e2 q2
      cases hg : i ρ μ2 with
      | ex x m => rw [hg] at q3; exact q3
      | er => rw [hg] at q3; exact q3
      | ok d3 m3 =>
        rw [hg] at q3
        intro v3 H3 ι3 g3 w3 r3
        obtain ⟨d4, μ4, ι4, g4, w4, e4, r4, q4⟩ := q3 v3 H3 ι3 g3 w3 r3
        split at q4
        · rename_i μ5 e5
          refine ⟨d2, d4, d, μ4, ι4, w4, r2.grow w2 g4, r4, r.grow w (g2.trans g4), μ5, e5, fun H5 ι5 g5 w5 => ?_⟩
          exact asX_ok hQ (RelDs.grow w ((g2.trans g4).trans g5) rs) w5 (e4.grow w4 g5) (PsS.grow g5 q4)
        · exact q4.elim
  | [], _ :: _, _, _, _, _, _, _, _, _, _, _, _, q => q.elim
  | .nm _ :: _, [], _, _, _, _, _, _, _, _, _, _, _, q => q.elim
  | .sb _ _ :: _, [], _, _, _, _, _, _, _, _, _, _, _, q => q.elim
theorem ps_setX {ts : List TgX} {k : Nat} {es : List Expr} {tp : Pos} (hc : X.calm = true) (he : PE X e (tE (gx X T₀) W fe)) (hg : PGs X es (gXs X T₀ W ts)) (hn : (assignEach es X.env).length = ts.length) (hst : (assignEach es X.env).findIdx? (·.1) = none) (hs : swapsWithSole [.Tuple es k tp] e pos.line X.env = pure false) (hw : swappedStores [.Tuple es k tp] e X.env = pure none) (h1 : (assignEach [.Tuple es k tp] X.env).map (·.2) = [assign (.Tuple es k tp) X.env]) :
    PS X (.Assign [.Tuple es k tp] e pos) (tS (gx X T₀) W (sSetX ts fe)) := (ps_asg he (pg_tup hc hg hn hst) hs hw h1).weak fun D σ H ⟨ρ, μ, ι, w, ev, q⟩ => by
  refine ⟨ρ, μ, ι, w, ev, ?_⟩
  have q1 := Pst.st w ev q
  cases hf : fe ρ μ with
  | ex x m => rw [hf] at q1; exact q1
  | er => rw [hf] at q1; exact q1
  | ok d m =>
    rw [hf] at q1
    intro v H' ι' g' w' r
    obtain ⟨d1, μ1, ι1, g1, w1, e1, r1, q2⟩ := q1 v H' ι' g' w' r
    split at q2
    · rename_i ds
      split at q2
      · rename_i hl
        cases r1 with
        | tup h1 qq => exact ⟨_, _, rfl, h1, qq.length.symm.trans hl, asX_ok (fun _ _ => Iff.rfl) qq w1 e1 q2⟩
      · exact q2.elim
    · exact q2.elim
theorem ps_exprE (he : PE X e (tE (gx X T₀) W fe)) (hs : swapsWith e none pos.line X.env = pure false) : PS X (.Expr e pos) (tS (gx X T₀) W (sExpr fe)) := (ps_expr he hs).weak fun D σ H ⟨ρ, μ, ι, w, ev, q⟩ => by
  refine tE_mono (tE_of w ev (Pst.st w ev q)) fun x H1 ⟨d1, μ1, ι1, g1, w1, e1, r1, q2⟩ => q2 σ H1 ι1 .refl w1 e1
theorem ps_retE (he : PE X e (tE (gx X T₀) W fe)) : PS X (.Return (some e) pos) (tS (gx X T₀) W (sRet fe)) := (ps_ret he).weak fun D σ H ⟨ρ, μ, ι, w, ev, q⟩ => by
  refine tE_mono (tE_of w ev (Pst.st w ev q)) fun x H1 ⟨d1, μ1, ι1, g1, w1, e1, r1, q2⟩ => q2 x H1 ι1 .refl w1 r1
theorem ps_retNE : PS X (.Return none pos) (tS (gx X T₀) W sRetN) := ps_retN.weak fun D σ H ⟨ρ, μ, ι, w, ev, q⟩ => q .non H ι .refl w .non
theorem ps_passE : PS X (.Pass pos) (tS (gx X T₀) W sNx) := ps_pass.weak fun D σ H ⟨ρ, μ, ι, w, ev, q⟩ => q σ H ι .refl w ev
theorem ps_bkE : PS X (.Break pos) (tS (gx X T₀) W sBk) := ps_break.weak fun D σ H ⟨ρ, μ, ι, w, ev, q⟩ => q σ H ι .refl w ev
theorem ps_ctE : PS X (.Continue pos) (tS (gx X T₀) W sCt) := ps_continue.weak fun D σ H ⟨ρ, μ, ι, w, ev, q⟩ => q σ H ι .refl w ev
theorem ps_ifE {t : T} {xs ys : List Stmt} (hc : PT X c (tT (gx X T₀) W t)) (ha : PSs X xs (tS (gx X T₀) W s)) (hb : PSs X ys (tS (gx X T₀) W u)) : PS X (.If c xs ys pos) (tS (gx X T₀) W (sIf t s u)) := (ps_if hc ha hb).weak fun D σ H ⟨ρ, μ, ι, w, ev, q⟩ => by
  refine ⟨ρ, μ, ι, w, ev, ?_⟩
  have q1 := PsB.st w ev q
  cases hf : t ρ μ with
  | ex x m => rw [hf] at q1; exact q1
  | er => rw [hf] at q1; exact q1
  | ok d m =>
    rw [hf] at q1
    intro H' ι' g' w'
    obtain ⟨μ1, ι1, g1, w1, e1, q2⟩ := q1 H' ι' g' w'
    cases d with
    | true => rw [if_pos rfl] at q2 ⊢; exact ⟨ρ, μ1, ι1, w1, e1, q2⟩
    | false => rw [if_neg Bool.false_ne_true] at q2 ⊢; exact ⟨ρ, μ1, ι1, w1, e1, q2⟩
theorem ps_whileE {t : T} {xs : List Stmt} {n : Nat} (hp : PassesOwn (model X.prog X.w) X.A X.env X.xe) (hc : PT X c (tT (gx X T₀) W t)) (hb : PSs X xs (tS (gx X T₀) W s)) : PS X (.While c xs [] pos) (tS (gx X T₀) W (sWhile n t s)) := (ps_while hp hc hb).weak fun D σ H ⟨ρ, μ, ι, w, ev, q⟩ => by
  refine ⟨fun m σ' H' => ∃ ρ' μ' ι', Wd (gx X T₀) ι' μ' H' ∧ EnvR (gx X T₀) ι' H' ρ' σ' ∧ PsS (gx X T₀) ι' H' W D (whGo t s m ρ' μ'), ⟨n, ρ, μ, ι, w, ev, q⟩, ?_⟩
  rintro m σ' H' ⟨ρ', μ', ι', w', ev', q'⟩
  cases m with
  | zero => exact q'.elim
  | succ k =>
    refine ⟨ρ', μ', ι', w', ev', ?_⟩
    unfold whGo at q'
    have q1 := PsB.st w' ev' q'
    cases hf : t ρ' μ' with
    | ex x m => rw [hf] at q1; exact q1
    | er => rw [hf] at q1; exact q1
    | ok d m =>
      rw [hf] at q1
      intro H2 ι2 g2 w2
      obtain ⟨μ1, ι1, g1, w1, e1, q2⟩ := q1 H2 ι2 g2 w2
      cases d with
      | false => rw [if_neg Bool.false_ne_true] at q2 ⊢; exact q2 σ' H2 ι1 .refl w1 e1
      | true =>
        rw [if_pos rfl] at q2 ⊢
        refine ⟨fun σ3 H3 => ∃ ρ' μ' ι', Wd (gx X T₀) ι' μ' H3 ∧ EnvR (gx X T₀) ι' H3 ρ' σ3 ∧ PsS (gx X T₀) ι' H3 W D (whGo t s k ρ' μ'), fun σ3 H3 h3 => ⟨k, Nat.lt_succ_self k, h3⟩, ρ', μ1, ι1, w1, e1, ?_⟩
        cases hb : s ρ' μ1 with
        | nx ρ4 μ4 => rw [hb] at q2; exact fun σ4 H4 ι4 g4 w4 e4 => ⟨ρ4, μ4, ι4, w4, e4, PsS.grow g4 q2⟩
        | ct ρ4 μ4 => rw [hb] at q2; exact fun σ4 H4 ι4 g4 w4 e4 => ⟨ρ4, μ4, ι4, w4, e4, PsS.grow g4 q2⟩
        | bk ρ4 μ4 => rw [hb] at q2; exact q2
        | rt d μ4 => rw [hb] at q2; exact q2
        | ex x ρ4 μ4 => rw [hb] at q2; exact q2
        | er => rw [hb] at q2; exact q2
theorem ps_forE {tg iter : Expr} {fi : Iv} {t : Tg} {xs : List Stmt} (hp : PassesOwn (model X.prog X.w) X.A X.env X.xe) (hc : X.calm = true) (hi : PI X tg iter (tI (gx X T₀) W fi)) (hg : PG X tg (gT X.K t)) (hb : PSs X xs (tS (gx X T₀) W s)) (hs : ∀ x, foldedSetIterable iter X.env x = pure x) :
    PS X (.For tg iter xs [] pos) (tS (gx X T₀) W (sFor fi t s)) := (ps_for hp hc hi hg hb hs).weak fun D σ H ⟨ρ, μ, ι, w, ev, q⟩ => by
  refine ⟨ρ, μ, ι, w, ev, ?_⟩
  have q1 := PsI.st w ev q
  cases hf : fi ρ μ with
  | ex x m => rw [hf] at q1; exact q1
  | er => rw [hf] at q1; exact q1
  | ok src m =>
    rw [hf] at q1
    intro J H1 ι1 g1 w1 sk1
    have q2 : PsS (gx X T₀) ι H W D (foGo src t s (src.bnd m) 0 ρ m) := by
      unfold sFor at q
      rw [hf] at q
      exact q
    refine ⟨fun i m' σ' H' => ∃ ρ' μ' ι', Grow (gx X T₀) ι1 H1 ι' H' ∧ Wd (gx X T₀) ι' μ' H' ∧ EnvR (gx X T₀) ι' H' ρ' σ' ∧ PsS (gx X T₀) ι' H' W D (foGo src t s m' i ρ' μ'), ⟨src.bnd m, ρ, m, ι1, .refl, w1, ev.grow w g1, PsS.grow g1 q2⟩, ?_⟩
    rintro i m' σ' H' ⟨ρ', μ', ι', g', w', ev', q'⟩
    have sk' := sk1 ι' H' μ' i g' w'
    cases m' with
    | zero =>
      unfold foGo at q'
      split at q'
      · rename_i e
        rw [e] at sk'
        exact .inl ⟨sk', q' σ' H' ι' .refl w' ev'⟩
      · exact q'.elim
    | succ k =>
      unfold foGo at q'
      split at q'
      · rename_i e
        rw [e] at sk'
        exact .inl ⟨sk', q' σ' H' ι' .refl w' ev'⟩
      · rename_i d e
        rw [e] at sk'
        obtain ⟨go, yl⟩ := sk'
        split at q'
        · rename_i ρ1 e1
          refine .inr ⟨go, fun σ2 H2 => ∃ ρ' μ' ι', Grow (gx X T₀) ι1 H1 ι' H2 ∧ Wd (gx X T₀) ι' μ' H2 ∧ EnvR (gx X T₀) ι' H2 ρ' σ2 ∧ PsS (gx X T₀) ι' H2 W D (foGo src t s k (i + 1) ρ' μ'), fun σ2 H2 h2 => ⟨k, Nat.lt_succ_self k, h2⟩, fun x H2 hy => ?_⟩
          obtain ⟨g2, w2, r2⟩ := yl x H2 hy
          refine gT_ok w2 r2 (ev'.grow w' g2) e1 fun σ2 ev2 _ => ⟨ρ1, μ', ι', w2, ev2, ?_⟩
          have q' := PsS.grow g2 q'
          cases hb : s ρ1 μ' with
          | nx ρ4 μ4 => rw [hb] at q'; exact fun σ4 H4 ι4 g4 w4 e4 => ⟨ρ4, μ4, ι4, (g'.trans g2).trans g4, w4, e4, PsS.grow g4 q'⟩
          | ct ρ4 μ4 => rw [hb] at q'; exact fun σ4 H4 ι4 g4 w4 e4 => ⟨ρ4, μ4, ι4, (g'.trans g2).trans g4, w4, e4, PsS.grow g4 q'⟩
          | bk ρ4 μ4 => rw [hb] at q'; exact q'
          | rt d μ4 => rw [hb] at q'; exact q'
          | ex x ρ4 μ4 => rw [hb] at q'; exact q'
          | er => rw [hb] at q'; exact q'
        · exact q'.elim
      · exact q'.elim
/-- an exception class of the text, without own __init__ -/
structure ExcOk (K : PySem.W.Frag) (mg : Str → Option Value) (x : Str) : Prop where
  ex : ∃ C, mg x = some (.ref C) ∧ PySem.W.excIn K C [.type "ValueError", .type "Exception", .type "BaseException", .type "object"] "ValueError.__new__" = true ∧ PySem.W.keepIn K (.ref C) = true ∧ PySem.W.subIn K (.ref C) (.type "BaseException") = some true ∧ PySem.W.typeIn K (.ref C) = some (.type "type")
theorem ps_raiseE {x m : Str} {j : Nat} {p p2 pos' : Pos} (hc : X.calm = true) (tk : L2N.Takes X W) (h : ExcOk X.K X.mg x) (hg : Gl X x) (hdb : (x == ("__debug__" : Str)) = false) : PS X (.Raise (some (.Call (.Name x p) [.Constant (.str m) j p2] [] pos)) none pos') (tS (gx X T₀) W (sRaise x)) := by
  obtain ⟨C, gC, q, kC, b, t⟩ := h.ex
  exact (L2N.ps_raise hc tk (L2N.pmk_own PySem.F.excBase_ValueError q gC kC (raises_own b t) hg hdb)).weak fun D σ H ⟨ρ, μ, ι, w, ev, q⟩ => q σ H ι (.ref C) none .refl w ev ⟨gC, rfl, rfl⟩
end
end Ev

set_option Elab.async false
set_option linter.all false
set_option maxRecDepth 100000
set_option maxHeartbeats 4000000
namespace Ev
open PySem PySem.Spec PyProof.Rows L2
section
variable {prog : Program} {w : World} {A : Around} {E : Value → Shared → Prop} {s : Shared}
theorem DctH.new (h : Heap) : DctH prog w true (h.push { cls := .type "dict", data := .dict #[] }) h.objs.size [] :=
  ⟨_, #[], 0, Heap.get?_push_size _ rfl, ⟨rfl, rfl, rfl⟩, rfl, rfl, fun _ hx => by simp at hx, List.nodup_nil, fun _ => rfl⟩
/-- {k: v} -/
theorem disp1_ep {env : PySem.Env} {key value : Expr} {pos : Pos} {Q : Value → Shared → Prop} (hu : (nestedKind prog w).room A)
    (h : wpAny (model prog w) A (evalPairs (pairTrees [some key] [value] env pos)) (fun vs s₁ => ∃ k b v, vs = [(.ref b, v)] ∧ (nestedKind prog w).is s₁.heap k b ∧ DctH prog w true s₁.heap s.heap.objs.size [] ∧
      ∀ h' tk, DctH prog w true h' s.heap.objs.size [(k, b, v)] → Heap.SameBut s.heap.objs.size s₁.heap h' → Q (.ref s.heap.objs.size) { s₁ with heap := h', toks := tk }) E
      { s with heap := s.heap.push { cls := .type "dict", data := .dict #[] } }) :
    wpAny (model prog w) A (eval (.Dict [some key] [value] pos) env) Q E s := by
  have hz := zip_pairTrees [some key] [value] env pos rfl rfl
  have hn := pairTrees_length [some key] [value] env pos rfl rfl
  have hn : (pairTrees [some key] [value] env pos).length = 1 := hn
  rw [arm_eval_Dict, hz, dictDisplay_pairs _ (by intro e; rw [e] at hn; cases hn) (by rw [hn]; omega)]
  refine wpAny_bind (wpAny_standAt (wpAny_bind ?_))
  unfold subDict
  refine wpAny_bind (wpAny_alloc ?_)
  refine wpAny_bind (wpAny_holding ?_)
  rw [if_pos (by rw [hn]; omega)]
  refine wpAny_bind (wpAny_mono h (fun vs s₁ h₁ => ?_) fun _ _ e => e)
  obtain ⟨k, b, v, rfl, hk, hd, hQ⟩ := h₁
  refine wpAny_holding ?_
  refine wpAny_bind ?_
  rw [List.forIn_cons]
  refine wpAny_bind (wpAny_bind (dictSet_ep hu hk hd (fun h' tk hd' sb => wpAny_pure ?_) (by simp)))
  show wpAny _ _ (pure PUnit.unit) _ _ _
  exact wpAny_pure (wpAny_pure (wpAny_pure (wpAny_pure (hQ h' tk hd' sb))))
end
section
variable {X : Cx} {T : TX} {W : WX} {a b : Expr} {fa fb : E} {pos : Pos}
def newD : E := fun _ μ => .ok (.loc μ.length) (μ ++ [.dct true []])
theorem laid_dct {pins : List (Addr × Obj)} {σ : St} {H : Hp} {s : Shared} (wt : T.w = X.w) (I : Inv X pins σ H s) : Inv X pins σ (upd H s.heap.objs.size (dctO T.w true s.heap.objs.size [])) { s with heap := s.heap.push { cls := .type "dict", data := .dict #[] } } :=
  I.laid (a := s.heap.objs.size) (o := dctO T.w true s.heap.objs.size []) (t' := s.toks) (fun _ _ q => Heap.get?_push_of_some _ q) (Nat.le_refl _) (by rw [wt]; exact dctO_ok (vs := []) .nil (DctH.new _))
theorem not_sys {pins : List (Addr × Obj)} {σ : St} {H : Hp} {s : Shared} (I : Inv X pins σ H s) : (s.heap.objs.size == sysModules) = false := beq_eq_false_iff_ne.mpr (Ne.symm (Nat.ne_of_lt I.big))
theorem RelK.nil {G : Gc} {ι : List Addr} {H : Hp} : RelK G ι H [] [] := ⟨rfl, .nil, .nil, fun p hp => absurd hp (by simp), List.nodup_nil, by simp⟩
theorem pe_newD (wt : T.w = X.w) : PE X (.Dict [] [] pos) (tE (gx X T) W newD) := ⟨fun pins s σ H Q I ⟨ρ, μ, ι, w, ev, q⟩ => by
  have n2 : H s.heap.objs.size = none := I.hok.fresh (Nat.le_refl _)
  have g : Grow (gx X T) ι H (ι ++ [s.heap.objs.size]) (upd H s.heap.objs.size (dctO T.w true s.heap.objs.size [])) := .more n2
  refine wpAny_Dict_empty ⟨.ref s.heap.objs.size, _, laid_dct wt I, rfl, q (.ref s.heap.objs.size) _ _ g (w.more n2 rfl ⟨[], upd_same, not_sys I, .nil⟩) (RelD.last w)⟩⟩
def eDct1 (fk fv : E) : E := fun ρ μ => (fk ρ (μ ++ [.dct true []])).bind fun k μ1 => (fv ρ μ1).bind fun v μ2 => match keyT k, dctAt μ2 μ.length with
  | some kk, some (true, []) => .ok (.loc μ.length) (μ2.set μ.length (.dct true [(kk, k, v)]))
  | _, _ => .er
theorem pe_dct1 (wt : T.w = X.w) (hu : X.A.units + 64 < cLine) (ha : PE X a (tE (gx X T) W fa)) (hb : PE X b (tE (gx X T) W fb)) : PE X (.Dict [some a] [b] pos) (tE (gx X T) W (eDct1 fa fb)) := ⟨fun pins s σ H Q I ⟨ρ, μ, ι, w, ev, q⟩ => by
  have n2 : H s.heap.objs.size = none := I.hok.fresh (Nat.le_refl _)
  have g : Grow (gx X T) ι H (ι ++ [s.heap.objs.size]) (upd H s.heap.objs.size (dctO T.w true s.heap.objs.size [])) := .more n2
  have w1 := w.more (m := .dct true []) n2 rfl (⟨[], upd_same, not_sys I, .nil⟩ : ObR (gx X T) (ι ++ [s.heap.objs.size]) (upd H s.heap.objs.size (dctO T.w true s.heap.objs.size [])) s.heap.objs.size (.dct true []))
  have ev1 := ev.grow w g
  have q0 := Pst.grow g q
  unfold eDct1 at q0
  have q1 := Pst.bind w1 ev1 q0
  refine disp1_ep (show X.A.units + 8 < cLine by omega) ?_
  refine pairTrees_cons_walk (thn (ha.run pins _ σ _ _ (laid_dct wt I) ⟨ρ, _, _, w1, ev1, q1⟩) fun u s1 ⟨x, H1, I1, rx, d1, μ1, ι1, g1, w2, e2, r1, _, q2⟩ => ?_)
  have q3 := Pst.bind w2 e2 q2
  refine thn (hb.run pins s1 σ H1 _ I1 ⟨ρ, μ1, ι1, w2, e2, q3⟩) fun v s2 ⟨y, H2, I2, ry, d2, μ2, ι2, g2, w3, e3, r2, _, q4⟩ => ?_
  refine pairTrees_nil_walk ?_
  have r1' := r1.grow w2 g2
  split at q4
  · rename_i kk e4 e5
    obtain ⟨h1, h2, ds, rfl⟩ := keyT_some e4
    have hp : ι2[μ.length]? = some s.heap.objs.size := g2.get (g1.get (by rw [← w.len]; simp))
    obtain ⟨a', xs, ea, hn', e, hsm, rk⟩ := w3.dct (.loc hp) e5
    cases ea
    cases r1' with
    | @tup bb _ _ ht qq =>
      cases (show u = Value.ref bb from rx)
      obtain ⟨vs, evs, hd⟩ := dct_at wt I2 e rk
      have hxs : xs = [] := by
        have := congrArg List.length rk.keys
        cases xs with
        | nil => rfl
        | cons _ _ => simp at this
      subst hxs
      cases evs
      refine ⟨kk, bb, v, rfl, key_is I2 (.tup ht qq) h1 h2, hd, fun h' tk hd' sb => ?_⟩
      have rk' : RelK (gx X T) ι2 H2 (dPut [] kk (.tup ds) d2) (xPut (dHas [] kk) [] kk bb y) := rk.put (.tup ht qq) h1 h2 r2 (by rw [sizeLine_eq]; simp)
      have g3 : Grow (gx X T) ι2 H2 ι2 (upd H2 s.heap.objs.size (dctO T.w true s.heap.objs.size [(kk, bb, y)])) := .write hp
      have w4 := w3.write (m := .dct true [(kk, .tup ds, d2)]) (o := dctO T.w true s.heap.objs.size [(kk, bb, y)]) hp rfl (dct_ne_code I2 e) ⟨_, upd_same, hsm, RelK.grow w3 g3 rk'⟩
      refine ⟨.ref s.heap.objs.size, _, I2.write (x := s.heap.objs.size) (e := s.heap.objs.size) (by rw [e]; exact True.intro) (.inl rfl) (fun b' u' hb' hu' => (sb.2 b' hb').trans hu') ?_ ?_, rfl, q4 (.ref s.heap.objs.size) _ _ g3 w4 (.loc hp)⟩
      · obtain ⟨o, _, _, ho, _⟩ := hd'
        exact ⟨o, ho⟩
      · rw [wt]
        exact dctO_ok (.cons ⟨rfl, rfl, ry⟩ .nil) hd'
  · exact q4.elim⟩
end
end Ev

set_option Elab.async false
set_option linter.all false
set_option maxRecDepth 100000
set_option maxHeartbeats 4000000
namespace Ev
open PySem PySem.Spec PyProof.Rows L2
section
variable {X : Cx} {T₀ : TX} {W : WX} {G : Gc} {ι : List Addr} {H : Hp} {μ : Mem} {σ : St} {ρ : Env} {E₀ : XK} {a b c o : Expr} {fa fb fc fo : E} {pos apos cpos : Pos} {es : List Expr} {fs : Es}
/-! ### methods without arguments -/
theorem tE_mt0 {T : String} {p : D → List D → Mem → O} {σ : St} {H : Hp} {Q : VK} (hT : T = "list" ∨ T = "str") (h : tE (gx X T₀) W (eMt T p fo esNil) σ H Q) : tBM0 X.K T (rMt (gx X T₀) p) (tE (gx X T₀) W fo) σ H Q := by
  have h := tE_mt hT h
  obtain ⟨ρ, μ, ι, w, ev, q⟩ := h
  refine ⟨ρ, μ, ι, w, ev, ?_⟩
  cases hf : fo ρ μ with
  | ex x m => rw [hf] at q; exact q
  | er => rw [hf] at q; exact q
  | ok d m =>
    rw [hf] at q
    intro v H' ι' g w' r
    obtain ⟨q1, q2⟩ := q v H' ι' g w' r
    refine ⟨q1, ?_⟩
    obtain ⟨ρ1, μ1, ι1, w1, ev1, q3⟩ := q2
    exact PsL.here w1 .nil q3
theorem pe_mt0E {T id : String} {name : Str} {p : D → List D → Mem → O} (hT : T = "list" ∨ T = "str") (pa : PlainAttrs T) (slot : Slot T name id) (hty : typeOf (.builtin id) = pure (.type "method_descriptor")) (hm : MtR X id (rMt (gx X T₀) p)) (ho : PE X o (tE (gx X T₀) W fo))
    (hbase : attributeBase o name X.env (eval o X.env) = eval o X.env) (hline : (apos.endLine == cpos.line) = true) :
    PE X (.Call (.Attribute o name apos) [] [] cpos) (tE (gx X T₀) W (eMt T p fo esNil)) := (pe_bm0 pa slot hty hm ho hbase hline).weak fun σ H Q h => tE_mt0 hT h
/-! ### list.pop -/
theorem RelDs.dropLast : ∀ {ds : List D} {vs : List V}, RelDs G ι H ds vs → RelDs G ι H ds.dropLast vs.dropLast
  | _, _, .nil => .nil
  | _, _, .cons r .nil => .nil
  | _, _, .cons r (.cons q t) => .cons r (RelDs.dropLast (.cons q t))
theorem RelDs.erase : ∀ {ds : List D} {vs : List V} (k : Nat), RelDs G ι H ds vs → RelDs G ι H (ds.eraseIdx k) (vs.eraseIdx k)
  | _, _, _, .nil => .nil
  | _, _, 0, .cons r t => t
  | _, _, k + 1, .cons r t => .cons r (RelDs.erase k t)
def popD : D → List D → Mem → O
  | .loc n, [], μ => match lstAt μ n with
    | some xs => (match xs[xs.length - 1]? with
      | some y => some (y, μ.set n (.lst xs.dropLast))
      | none => none)
    | none => none
  | .loc n, [.int i], μ => match lstAt μ n with
    | some xs => if i.natAbs < 1000000 then (match seqIndex? i xs.length with
      | some k => (match xs[k]? with
        | some y => some (y, μ.set n (.lst (xs.eraseIdx k)))
        | none => none)
      | none => none) else none
    | none => none
  | _, _, _ => none
theorem pop_ok : MtR X "list.pop" (rMt (gx X T₀) popD) := by
  intro pins s σ H x xs v us Q I rx rxs h
  obtain ⟨d, ds, μ, ι, w, rd, rds, h⟩ := h
  unfold popD at h
  split at h
  · cases rds
    split at h
    · rename_i xs e
      split at h
      · rename_i y hy
        obtain ⟨p, vs, rfl, i1, l, q⟩ := w.lst rd (lstAt_some e)
        obtain ⟨u, h1, h2⟩ := q.get hy
        exact mt_pop pins s σ H _ _ v us Q I rx rxs ⟨p, vs, u, rfl, rfl, l, by rw [← q.length]; exact h1, Don.wr w i1 l q.dropLast h2 h⟩
      · exact h.elim
    · exact h.elim
  · rename_i n i
    obtain ⟨u, rfl, ru⟩ := RelDs.one (ds := []) rds
    cases ru
    split at h
    · rename_i xs e
      split at h
      · rename_i hi
        split at h
        · rename_i k hk
          split at h
          · rename_i y hy
            obtain ⟨p, vs, rfl, i1, l, q⟩ := w.lst rd (lstAt_some e)
            obtain ⟨u, h1, h2⟩ := q.get hy
            exact mt_popAt pins s σ H _ _ v us Q I rx rxs ⟨p, vs, i, k, u, rfl, rfl, l, by omega, by omega, by rw [← q.length]; exact hk, h1, Don.wr w i1 l (q.erase k) h2 h⟩
          · exact h.elim
        · exact h.elim
      · exact h.elim
    · exact h.elim
  · exact h.elim
/-! ### str.upper -/
def upperD : D → List D → Mem → O
  | .str x, [], μ => if x.length ≤ 5592405 then some (.str (Txt.upper x), μ) else none
  | _, _, _ => none
theorem upper_ok : MtR X "str.upper" (rMt (gx X T₀) upperD) := by
  intro pins s σ H x xs v us Q I rx rxs h
  obtain ⟨d, ds, μ, ι, w, rd, rds, h⟩ := h
  unfold upperD at h
  split at h
  · cases rds
    cases rd
    split at h
    · rename_i hz
      exact mt_upper pins s σ H _ _ v us Q I rx rxs ⟨_, rfl, rfl, hz, Don.val w (.str _) h⟩
    · exact h.elim
  · exact h.elim
/-! ### str.join -/
def joinD2 : D → List D → Mem → O
  | .str sep, [d], μ => match lsD μ d with
    | some xs => match strsD xs with
      | some ys => if (ys.map (·.length)).sum + ys.length * sep.length ≤ 16777216 then some (.str (Txt.join sep ys), μ) else none
      | none => none
    | none => none
  | _, _, _ => none
theorem join_ok : MtR X "str.join" (rMt (gx X T₀) joinD2) := by
  intro pins s σ H x xs v us Q I rx rxs h
  obtain ⟨d, ds, μ, ι, w, rd, rds, h⟩ := h
  unfold joinD2 at h
  split at h
  · rename_i sep d0
    obtain ⟨u, rfl, ru⟩ := RelDs.one (ds := []) rds
    cases rd
    split at h
    · rename_i zs e1
      split at h
      · rename_i ys e2
        split at h
        · rename_i hz
          obtain ⟨a, vs, rfl, hl, q⟩ := lsD_rel w ru e1
          exact mt_join pins s σ H _ _ v us Q I rx rxs ⟨sep, a, ys, rfl, rfl, .inl (by rw [← strsD_rel q e2]; exact hl), hz, Don.val w (.str _) h⟩
        · exact h.elim
      · exact h.elim
    · exact h.elim
  · exact h.elim
/-! ### methods of dicts -/
def eMd (p : D → List D → Mem → O) (o : E) (as : Es) : E := fun ρ μ => (o ρ μ).bind fun x μ1 => match x with
  | .loc n => match dctAt μ1 n with
    | some _ => (as ρ μ1).bind fun xs μ2 => (p x xs μ2).r
    | none => .er
  | _ => .er
theorem dct_type (wt : T₀.w = X.w) {pins : List (Addr × Obj)} {s : Shared} (w : Wd (gx X T₀) ι μ H) (I : Inv X pins σ H s) {n : Nat} {v : V} {u : Value} {q : Bool × List (NestedKey × D × D)} (r : RelD (gx X T₀) ι H (.loc n) v) (h : dctAt μ n = some q) (ru : RelV v u) :
    s.TypeIs u "dict" ∧ ∀ a, u = .ref a → ∃ ob, s.heap.get? a = some ob ∧ ob.dict = none := by
  obtain ⟨kn, kvs⟩ := q
  obtain ⟨a, xs, rfl, hn, e, hsm, rk⟩ := w.dct r h
  obtain ⟨vs, ev, hd⟩ := dct_at wt I e rk
  cases (show u = Value.ref a from ru)
  obtain ⟨o, es, ep, h1, h2, _⟩ := hd
  exact ⟨⟨o, h1, h2.1⟩, fun b hb => by cases hb; exact ⟨o, h1, h2.2.1⟩⟩
theorem pe_mdE {id : String} {name : Str} {p : D → List D → Mem → O} (wt : T₀.w = X.w) (slot : Slot "dict" name id) (hty : typeOf (.builtin id) = pure (.type "method_descriptor")) (hm : MtR X id (rMt (gx X T₀) p)) (ho : PE X o (tE (gx X T₀) W fo)) (ha : PA X (a :: es) (tEs (gx X T₀) W fs))
    (hbase : attributeBase o name X.env (eval o X.env) = eval o X.env) (hfew : ((backTo cpos (starEach (a :: es) X.env)).all (fun x => !x.1) && (backToKw cpos (keywordEach [] X.env)).all (fun x => x.1.isSome)
      && decide ((a :: es).length + ([] : List Keyword).length + (if ([] : List Keyword).isEmpty then 0 else 1) < 30)) = true)
    (hline : (apos.endLine == cpos.line) = true) (hs : starEach (a :: es) X.env = (false, eval a X.env) :: starEach es X.env) (hplain : (backTo cpos (starEach es X.env)).any (·.1) = false) :
    PE X (.Call (.Attribute o name apos) (a :: es) [] cpos) (tE (gx X T₀) W (eMd p fo fs)) := by
  refine ⟨fun pins s σ H Q I ⟨ρ, μ, ι, w, ev, q⟩ => ?_⟩
  have q1 := Pst.bind w ev q
  refine wpAny_Call_method_late hbase hfew hline rfl (thn (ho.run pins s σ H _ I ⟨ρ, μ, ι, w, ev, q1⟩) fun v s1 ⟨x, H1, I1, r1, d, μ1, ι1, g1, w1, e1, rd, z, q2⟩ => ?_)
  split at q2
  · rename_i n
    split at q2
    · rename_i qq e2
      obtain ⟨h1, h2⟩ := dct_type wt w1 I1 rd e2 r1
      refine ⟨"dict", id, PySem.F.plainAttrs_dict, slot, hty, h1, h2, ?_⟩
      have q3 := PsL.bind w1 e1 q2
      have hA := ha.run cpos pins s1 σ H1 _ I1 ⟨ρ, μ1, ι1, w1, e1, q3⟩
      rw [hs] at hA ⊢
      refine Calls.callWith_builtin (by show (false || (backTo cpos (starEach es X.env)).any (·.1)) = false; rw [hplain] <;> rfl) (Calls.evalArgs_plain ?_)
      exact thn hA fun us s2 ⟨vs, H2, I2, r2, ds, μ2, ι2, g2, w2, e2', rds, z2, q4⟩ => hm pins s2 σ H2 x vs v us Q I2 r1 r2 ⟨.loc n, ds, μ2, ι2, w2, rd.grow w1 g2, rds, q4.don⟩
    · exact q2.elim
  · exact q2.elim
/-- get(k, x), get(k) -/
def getD' : D → List D → Mem → O
  | .loc n, [k, x], μ => match dctAt μ n, keyT k with
    | some (_, kvs), some kk => some ((dGet kvs kk).getD x, μ)
    | _, _ => none
  | _, _, _ => none
theorem get_ok (wt : T₀.w = X.w) (hu : X.A.units + 64 < cLine) : MtR X "dict.get" (rMt (gx X T₀) getD') := by
  intro pins s σ H x xs v us Q I rx rxs h
  obtain ⟨d, ds, μ, ι, w, rd, rds, h⟩ := h
  unfold getD' at h
  split at h
  · rename_i n k x0
    obtain ⟨vk, vx, rfl, rk0, rx0⟩ := RelDs.two rds
    split at h
    · rename_i kn kvs kk e1 e2
      obtain ⟨h1, h2, dsk, rfl⟩ := keyT_some e2
      obtain ⟨a, ys, rfl, hn, e, hsm, rk⟩ := w.dct rd e1
      cases rk0 with
      | @tup b _ _ ht q =>
        obtain ⟨vs, ev, hd⟩ := dct_at wt I e rk
        cases rxs with
        | cons r1 rr =>
          cases rr with
          | cons r2 rr =>
            cases rr
            rename_i ub ux
            cases (show v = Value.ref a from rx)
            cases (show ub = Value.ref b from r1)
            refine call_meetsIn F.slot_dict_get hd.of.typeIs F.entry_dict_get (F.args_dict_get_3 _ _ _) (meetsH_dict_get_default (nestedKind X.prog X.w) a b hsm ux) ⟨room8 hu, kk, vs, key_is I (.tup ht q) h1 h2, hd.of, ?_⟩
            have hat := at_rel rk.keys rk.vd ev kk
            cases h3 : dGet kvs kk with
            | none =>
              cases h4 : atKey vs kk with
              | none =>
                rw [h3] at h
                exact ⟨vx, H, I.tok _, r2, Don.val w rx0 h⟩
              | some p => rw [h3, h4] at hat; exact hat.elim
            | some z =>
              cases h4 : atKey vs kk with
              | none => rw [h3, h4] at hat; exact hat.elim
              | some p =>
                rw [h3, h4] at hat
                rw [h3] at h
                obtain ⟨v1, r3, r4⟩ := hat
                exact ⟨v1, H, I.tok _, r4, Don.val w r3 h⟩
    · exact h.elim
  · exact h.elim
theorem dctH_false {prog : Program} {w : World} {h : Heap} {d : Addr} {xs : List (NestedKey × Addr × Value)} (x : h.DictOfH (nestedKind prog w) d xs) : DctH prog w false h d xs := by
  obtain ⟨o, es, ep, h1, h2, h3, h4, h5, h6⟩ := x
  exact ⟨o, es, ep, h1, h2, h3, h4, h5, h6, fun z => by cases z⟩
/-- setdefault(k, x) -/
def setdD : D → List D → Mem → O
  | .loc n, [k, x], μ => match dctAt μ n, keyT k with
    | some (_, kvs), some kk => if kvs.length < sizeLine then (match dGet kvs kk with
      | some z => some (z, μ)
      | none => some (x, μ.set n (.dct false (dPut kvs kk k x)))) else none
    | _, _ => none
  | _, _, _ => none
theorem ent_length {xs : List (NestedKey × Addr × V)} {vs : List (NestedKey × Addr × Value)} (r : EntR xs vs) : vs.length = xs.length := by
  have := congrArg List.length (ent_keys r)
  simpa using this
/-- a dict, written -/
theorem dct_write (wt : T₀.w = X.w) (w : Wd (gx X T₀) ι μ H) {pins : List (Addr × Obj)} {s : Shared} (I : Inv X pins σ H s) {n : Nat} {a : Addr} {kn kn' : Bool} {xs ys : List (NestedKey × Addr × V)} {vs : List (NestedKey × Addr × Value)} {kvs : List (NestedKey × D × D)} {h' : Heap} {tk : Nat}
    (hn : ι[n]? = some a) (e : H a = some (dctO T₀.w kn a xs)) (hsm : (a == sysModules) = false) (ev : EntR ys vs) (hd : DctH X.prog X.w kn' h' a vs) (sb : Heap.SameBut a s.heap h') (rk : RelK (gx X T₀) ι H kvs ys) :
    Grow (gx X T₀) ι H ι (upd H a (dctO T₀.w kn' a ys)) ∧ Wd (gx X T₀) ι (μ.set n (.dct kn' kvs)) (upd H a (dctO T₀.w kn' a ys)) ∧ Inv X pins σ (upd H a (dctO T₀.w kn' a ys)) { s with heap := h', toks := tk } := by
  have g : Grow (gx X T₀) ι H ι (upd H a (dctO T₀.w kn' a ys)) := .write hn
  refine ⟨g, w.write (m := .dct kn' kvs) (o := dctO T₀.w kn' a ys) hn rfl (dct_ne_code I e) ⟨_, upd_same, hsm, rk.grow w g⟩, I.write (x := a) (e := a) (by rw [e]; exact True.intro) (.inl rfl) (fun b' u' hb hu' => (sb.2 b' hb).trans hu') ?_ ?_⟩
  · obtain ⟨o, _, _, ho, _⟩ := hd
    exact ⟨o, ho⟩
  · rw [wt]
    exact dctO_ok ev hd
theorem setd_ok (wt : T₀.w = X.w) (hu : X.A.units + 64 < cLine) : MtR X "dict.setdefault" (rMt (gx X T₀) setdD) := by
  intro pins s σ H x xs v us Q I rx rxs h
  obtain ⟨d, ds, μ, ι, w, rd, rds, h⟩ := h
  unfold setdD at h
  split at h
  · rename_i n k x0
    obtain ⟨vk, vx, rfl, rk0, rx0⟩ := RelDs.two rds
    split at h
    · rename_i kn kvs kk e1 e2
      split at h
      · rename_i hl
        obtain ⟨h1, h2, dsk, rfl⟩ := keyT_some e2
        obtain ⟨a, ys, rfl, hn, e, hsm, rk⟩ := w.dct rd e1
        cases rk0 with
        | @tup b _ _ ht q =>
          obtain ⟨vs, ev, hd⟩ := dct_at wt I e rk
          cases rxs with
          | cons r1 rr =>
            cases rr with
            | cons r2 rr =>
              cases rr
              rename_i ub ux
              cases (show v = Value.ref a from rx)
              cases (show ub = Value.ref b from r1)
              have hat := at_rel rk.keys rk.vd ev kk
              have hz : vs.length ≤ sizeLine := by
                have e3 := ent_length ev
                have e4 := rk.len2
                omega
              refine call_setdefault_heap (hsz := hz) (room8 hu) (key_is I (.tup ht q) h1 h2) hsm hd.of (fun p hp => ?_) (fun hno h' hd' sb => ?_)
              · cases h3 : dGet kvs kk with
                | none => rw [h3, hp] at hat; exact hat.elim
                | some z =>
                  rw [h3, hp] at hat
                  rw [h3] at h
                  obtain ⟨v1, r3, r4⟩ := hat
                  exact ⟨v1, H, I.tok _, r4, Don.val w r3 h⟩
              · cases h3 : dGet kvs kk with
                | some z => rw [h3, hno] at hat; exact hat.elim
                | none =>
                  rw [h3] at h
                  have hh : dHas kvs kk = false := by unfold dHas; rw [h3]; rfl
                  have ev' := ent_put (a := b) r2 ev (b := false) (by rw [hno]; rfl)
                  have rk' := rk.put (.tup ht q) h1 h2 rx0 hl (v := vx)
                  rw [hh] at rk'
                  obtain ⟨g, w', I'⟩ := dct_write (kn' := false) (tk := s.toks + (nestedKind X.prog X.w).draws kk) wt w I hn e hsm ev' (dctH_false hd') sb rk'
                  exact ⟨vx, _, I', r2, h vx _ ι g w' (rx0.grow w g)⟩
      · exact h.elim
    · exact h.elim
  · exact h.elim
end
end Ev

set_option Elab.async false
set_option linter.all false
set_option maxRecDepth 100000
set_option maxHeartbeats 4000000
namespace Ev
open PySem PySem.Spec PyProof.Rows L2
section
variable {X : Cx} {T : TX} {ι : List Addr} {H : Hp} {μ : Mem} {G : Gc}
/-! ### sorted -/
abbrev PD := PyData × D
def pdLe (a b : PD) : Bool := !PySem.W.dataLt b.1 a.1
def alikeB (ps : List PyData) : Bool := ps.all fun a => ps.all fun b => PySem.W.alike a b
def isTup1 : PyData → Bool
  | .tuple (_ :: _) => true
  | _ => false
def isOth : PyData → Bool
  | .none => false
  | .tuple _ => false
  | _ => true
def sortB (ps : List PyData) : Bool := alikeB ps && (ps.all isTup1 || ps.all isOth) && ps.all (fun p => decide (p.depth ≤ 8))
def sortD (ps : List PyData) (xs : List D) : List D := ((ps.zip xs).mergeSort pdLe).map (·.2)
def sortedD : List D → Mem → O
  | [d], μ => match lsD μ d with
    | some xs => match mapO (toPyN μ 12) xs with
      | some ps => if sortB ps then some (.loc μ.length, μ ++ [.lst (sortD ps xs)]) else none
      | none => none
    | none => none
  | _, _ => none
theorem each_rel {K : PySem.W.Frag} {mg} {pins : List (Addr × Obj)} {σ : St} {s : Shared} (I : Inv X pins σ H s) : ∀ {ds : List D} {vs : List V} {us : List Value} {ps : List PyData}, RelDs ⟨X.K, mg, T⟩ ι H ds vs → Vals vs us → DpAll X.K H vs ps →
    ∃ bs : List (PD × V), bs.map (·.1) = ps.zip ds ∧ PySem.W.EachIs (fun (u : Value) (b : PD × V) => RelV b.2 u ∧ RelD ⟨X.K, mg, T⟩ ι H b.1.2 b.2) us bs ∧ PySem.W.EachIs (fun u b => ∃ as, Reads s.heap u b.1.1 as) us bs ∧ bs.map (·.1.1) = ps
  | _, _, _, _, .nil, .nil, .nil => ⟨[], rfl, .nil, .nil, rfl⟩
  | _, _, _, _, .cons r rs, .cons v vs, .cons p ps => by
    obtain ⟨bs, h1, h2, h3, h4⟩ := each_rel (K := K) I rs vs ps
    exact ⟨((_, _), _) :: bs, by rw [List.map_cons, h1]; rfl, .cons ⟨v, r⟩ h2, .cons (Dp.reads I _ _ _ p v) h3, by rw [List.map_cons, h4]⟩
theorem each_vals {K : PySem.W.Frag} {mg} : ∀ {us : List Value} {bs : List (PD × V)}, PySem.W.EachIs (fun (u : Value) (b : PD × V) => RelV b.2 u ∧ RelD ⟨K, mg, T⟩ ι H b.1.2 b.2) us bs → Vals (bs.map (·.2)) us ∧ RelDs ⟨K, mg, T⟩ ι H (bs.map (·.1.2)) (bs.map (·.2))
  | _, _, .nil => ⟨.nil, .nil⟩
  | _, _, .cons ⟨h1, h2⟩ t => ⟨.cons h1 (each_vals t).1, .cons h2 (each_vals t).2⟩
theorem map_merge {α β : Type} (f : α → β) (le : β → β → Bool) (xs : List α) : (xs.mergeSort fun a b => le (f a) (f b)).map f = (xs.map f).mergeSort le := List.map_mergeSort fun a _ b _ => rfl
theorem toPy_depth : True := trivial
theorem sorted_ok (hc : X.calm = true) (hu : X.A.units + 64 < cLine) : CallR X (.builtin "sorted") (rn (gx X T) sortedD) := by
  intro pins s σ H xs us Q I r h
  obtain ⟨ds, μ, ι, w, rd, h⟩ := h
  unfold sortedD at h
  split at h
  · obtain ⟨x, rfl, rx⟩ := RelDs.one (ds := []) rd
    split at h
    · rename_i xs e1
      split at h
      · rename_i ps e2
        split at h
        · rename_i hb
          unfold sortB at hb
          simp only [Bool.and_eq_true, Bool.or_eq_true] at hb
          obtain ⟨⟨h1, h2⟩, h3⟩ := hb
          obtain ⟨a, vs, rfl, hs, q⟩ := lsD_rel w rx e1
          have dp := mapO_dp (toPyN_dp w 12) q e2
          obtain ⟨its, rv, hl, hz⟩ := I.list hs
          rw [Vals.ref1 r]
          obtain ⟨bs, b1, b2, b3, b4⟩ := each_rel (K := X.K) I q rv dp
          have hlb : bs.length ≤ sizeLine := by
            have e := congrArg List.length b4
            have e2 := b2.length
            have e3 := rv.length
            simp only [List.length_map] at e
            omega
          have hal : PySem.W.AllAlike (bs.map fun b => b.1.1) := by
            rw [b4]
            intro d hd d' hd'
            exact List.all_eq_true.mp (List.all_eq_true.mp h1 d hd) d' hd'
          have hso : PySem.W.Sortable (bs.map fun b => b.1.1) := by
            rw [b4]
            rcases h2 with h2 | h2
            · refine .inl fun d hd => ?_
              have := List.all_eq_true.mp h2 d hd
              unfold isTup1 at this
              split at this
              · exact ⟨_, _, rfl⟩
              · cases this
            · refine .inr fun d hd => ?_
              have := List.all_eq_true.mp h2 d hd
              unfold isOth at this
              split at this
              · cases this
              · cases this
              · rename_i n1 n2
                exact ⟨n1, fun xs e => n2 xs e⟩
          refine PySem.W.sorted_data (enc := fun b : PD × V => b.1.1) hl.isList b2 b3 hal hso hlb (fun b hb => ?_) fun out ho eo => ?_
          · have : b.1.1 ∈ ps := by rw [← b4]; exact List.mem_map_of_mem hb
            have := of_decide_eq_true (List.all_eq_true.mp h3 _ this)
            omega
          · obtain ⟨c1, c2⟩ := each_vals eo
            obtain ⟨ep, he'⟩ := PyProof.Rows.sortedAll_at s.heap its out.toArray
            have hlen : ((bs.mergeSort (PySem.W.dataLe false fun b : PD × V => b.1.1)).map (·.2)).length ≤ sizeLine := by
              rw [List.length_map, List.length_mergeSort]; exact hlb
            have hn : H (s.heap.objs.size + 1) = none := I.hok.fresh (Nat.le_succ _)
            have hd : (bs.mergeSort (PySem.W.dataLe false fun b : PD × V => b.1.1)).map (·.1.2) = sortD ps xs := by
              unfold sortD
              rw [← b1, ← map_merge (fun b : PD × V => b.1) pdLe bs, List.map_map]
              rfl
            rw [hd] at c2
            refine ⟨.ref _, upd H (s.heap.objs.size + 1) (.lst ((bs.mergeSort (PySem.W.dataLe false fun b : PD × V => b.1.1)).map (·.2))), I.laid (t' := s.toks) (fun _ _ => PyProof.Rows.sortedAll_old) (Nat.le_succ _) ⟨hlen, out, ep, c1, he'⟩, rfl, ?_⟩
            exact Don.lst w c2 h _ hn
        · exact h.elim
      · exact h.elim
    · exact h.elim
  · exact h.elim
/-! ### list(a dict) -/
theorem ev_vals_of : ∀ {xs : List V} {us : List Value}, xs.length = us.length → (∀ (i : Nat) (v : V) (u : Value), xs[i]? = some v → us[i]? = some u → RelV v u) → Vals xs us
  | [], [], _, _ => .nil
  | x :: xs, u :: us, hl, h => .cons (h 0 x u rfl rfl) (ev_vals_of (by simpa using hl) fun i v w h1 h2 => h (i + 1) v w (by simpa using h1) (by simpa using h2))
  | [], _ :: _, hl, _ => by simp at hl
  | _ :: _, [], hl, _ => by simp at hl
def listD2 : List D → Mem → O
  | [.loc n], μ => match lstAt μ n with
    | some xs => some (.loc μ.length, μ ++ [.lst xs])
    | none => match dctAt μ n with
      | some (true, kvs) => some (.loc μ.length, μ ++ [.lst (kvs.map (·.2.1))])
      | _ => none
  | ds, μ => listD ds μ
theorem listD_ok2 (wt : T.w = X.w) (hc : X.calm = true) : CallR X (.type "list") (rn (gx X T) listD2) := by
  intro pins s σ H xs us Q I r h
  obtain ⟨ds, μ, ι, w, rd, h⟩ := h
  unfold listD2 at h
  split at h
  · rename_i n
    split at h
    · rename_i ys e
      refine listc_ok pins s σ H xs us Q I r ⟨[.loc n], μ, ι, w, rd, ?_⟩
      show Don _ _ _ _ (match seqD μ (.loc n) with | some xs => some (.loc μ.length, μ ++ [.lst xs]) | none => none)
      rw [show seqD μ (.loc n) = some ys from e]
      exact h
    · split at h
      · rename_i kvs e
        obtain ⟨x, rfl, rx⟩ := RelDs.one (ds := []) rd
        cases rx with
        | @loc _ a hn =>
          obtain ⟨ys, h1, h2, rk⟩ := dct_walk w hn e
          obtain ⟨es, hr, hz⟩ := dct_raw I h1
          rw [Vals.ref1 r]
          have hl := rk.len2
          have hlz : es.size ≤ sizeLine := by have := rk.len; omega
          refine PySem.W.kdl_call (PySem.KdlSrc.rawDict (es := es) (ep := es.size) h2) (I.ok.hd hc) hr hlz fun h' tk acc' c' hk hD hacc => ?_
          have hn2 : H s.heap.objs.size = none := I.hok.fresh (Nat.le_refl _)
          obtain ⟨o, es', vs, k1, k2, k3, k4, k5, k6⟩ := Inv.dctE I h1
          obtain ⟨o', q1, q2, q3⟩ := hr
          have : es' = es := by
            rw [k1] at q1; cases q1
            rw [k3] at q3; cases q3; rfl
          subst this
          have hv : Vals (ys.map fun x => V.ref x.2.1) acc'.toList := by
            refine ev_vals_of ?_ ?_
            · have e1 : acc'.size = es'.size := hacc.1
              have e2 : acc'.toList.length = acc'.size := Array.length_toList
              rw [List.length_map]
              exact hz.symm.trans (e1.symm.trans e2.symm)
            · intro i v u hv hu
              rw [Array.getElem?_toList] at hu
              obtain ⟨hi, hu2⟩ := hacc.2 i u hu
              have hen : es'[i]? = some es'[i] := Array.getElem?_eq_getElem hi
              obtain ⟨v2, hv1, hv2⟩ := ent_at k5 hen
              obtain ⟨y, hy1, hy2, hy3, hy4⟩ := ent_get k4 hv1
              rw [List.getElem?_map, hy1] at hv
              cases hv
              rw [hu2, hv2]
              show (entV (gx X T).T.w v2).key = Value.ref y.2.1
              rw [hy3]
              rfl
          refine ⟨.ref _, upd H s.heap.objs.size (.lst (ys.map fun x => V.ref x.2.1)), I.laid (t' := tk) hk (Nat.le_refl _) ⟨by rw [List.length_map]; omega, acc'.toList, c', hv, by simpa using hD⟩, rfl, ?_⟩
          exact Don.lst w rk.kd h _ hn2
      · exact h.elim
  · exact listc_ok pins s σ H xs us Q I r ⟨_, μ, ι, w, rd, h⟩
end
end Ev

set_option Elab.async false
set_option linter.all false
set_option maxRecDepth 100000
set_option maxHeartbeats 4000000
namespace Ev
open PySem PySem.Spec PyProof.Rows L2
section
variable {X : Cx} {T : TX} {ι : List Addr} {H : Hp} {μ : Mem} {G : Gc}
/-! ### dict(a list of pairs) -/
def pairsOf : List D → Option (List (NestedKey × D × D))
  | [] => some []
  | .tup [k, v] :: r => match keyT k, pairsOf r with
    | some kk, some ps => some ((kk, k, v) :: ps)
    | _, _ => none
  | _ => none
def dPutAll (acc : List (NestedKey × D × D)) : List (NestedKey × D × D) → List (NestedKey × D × D)
  | [] => acc
  | p :: r => dPutAll (dPut acc p.1 p.2.1 p.2.2) r
def dictD : List D → Mem → O
  | [d], μ => match lsD μ d with
    | some xs => match pairsOf xs with
      | some ps => if ps.length < sizeLine then some (.loc μ.length, μ ++ [.dct false (dPutAll [] ps)]) else none
      | none => none
    | none => none
  | _, _ => none
/-- a pair of the list, as it lies -/
structure PrOk (X : Cx) (mg : Str → Option Value) (T : TX) (ι : List Addr) (H : Hp) (s : Shared) (kvs : List (NestedKey × D × D)) (us : List Value) (ts : List Addr) (zs : List (NestedKey × Addr × Value)) (ys : List (NestedKey × Addr × V)) : Prop where
  us : us = ts.map Value.ref
  len : ts.length = zs.length
  tup : ∀ (j : Nat) (t : Addr) (z : NestedKey × Addr × Value), ts[j]? = some t → zs[j]? = some z → s.heap.IsTuple t #[.ref z.2.1, z.2.2]
  key : ∀ z ∈ zs, (nestedKind X.prog X.w).is s.heap z.1 z.2.1
  ent : EntR ys zs
  keys : kvs.map (·.1) = ys.map (·.1)
  kd : RelDs ⟨X.K, X.mg, T⟩ ι H (kvs.map (·.2.1)) (ys.map fun x => .ref x.2.1)
  vd : RelDs ⟨X.K, X.mg, T⟩ ι H (kvs.map (·.2.2)) (ys.map (·.2.2))
  nk : ∀ p ∈ kvs, nkD p.2.1 = some p.1 ∧ p.1.depth ≤ 8
theorem pairs_rel {pins : List (Addr × Obj)} {σ : St} {s : Shared} (I : Inv X pins σ H s) : ∀ {ds : List D} {vs : List V} {us : List Value} {kvs : List (NestedKey × D × D)}, RelDs (gx X T) ι H ds vs → pairsOf ds = some kvs → Vals vs us → ∃ ts zs ys, PrOk X X.mg T ι H s kvs us ts zs ys
  | [], _, _, kvs, .nil, h, .nil => by
    cases h
    exact ⟨[], [], [], rfl, rfl, fun j t z h => by simp at h, fun z hz => by simp at hz, .nil, rfl, .nil, .nil, fun p hp => by simp at hp⟩
  | d :: ds, _, _, kvs, .cons r rs, h, .cons v vs => by
    unfold pairsOf at h
    split at h
    · rename_i e0
      cases e0
    · rename_i k x r' e0
      injection e0 with e1 e2
      subst e1 e2
      split at h
      · rename_i kk ps e1 e2
        cases h
        obtain ⟨ts, zs, ys, P⟩ := pairs_rel I rs e2 vs
        obtain ⟨h1, h2, dsk, rfl⟩ := keyT_some e1
        cases r with
        | tup ht q =>
          cases q with
          | cons q1 q =>
            cases q with
            | cons q2 q =>
              cases q
              obtain ⟨its, rv, p, _⟩ := I.tuple ht
              cases rv with
              | cons w1 rv =>
                cases rv with
                | cons w2 rv =>
                  cases rv
                  cases q1 with
                  | tup hk qk =>
                    rename_i uu l0 x0 y0 z0 t0 v2 u1 u2 b vsk rz
                    cases (show u1 = Value.ref b from w1)
                    cases (show uu = Value.ref t0 from v)
                    refine ⟨_ :: ts, (kk, b, u2) :: zs, (kk, b, v2) :: ys, by rw [P.us]; rfl, by simp [P.len], fun j t z hj hz => ?_, fun z hz => ?_, .cons ⟨rfl, rfl, w2⟩ P.ent, by simp [P.keys], .cons (.tup hk qk) P.kd, .cons q2 P.vd, fun p hp => ?_⟩
                    · cases j with
                      | zero =>
                        simp at hj hz
                        subst hj hz
                        exact p
                      | succ j => exact P.tup j t z (by simpa using hj) (by simpa using hz)
                    · rcases List.mem_cons.mp hz with e | e
                      · subst e
                        exact key_is I (.tup hk qk) h1 h2
                      · exact P.key z e
                    · rcases List.mem_cons.mp hp with e | e
                      · subst e
                        exact ⟨h1, h2⟩
                      · exact P.nk p e
      · cases h
    · cases h
theorem all_put {mg : Str → Option Value} {K : PySem.W.Frag} : ∀ {kvs : List (NestedKey × D × D)} {ys : List (NestedKey × Addr × V)} {zs : List (NestedKey × Addr × Value)} {acc : List (NestedKey × D × D)} {xs : List (NestedKey × Addr × V)} {vs : List (NestedKey × Addr × Value)}, EntR ys zs → kvs.map (·.1) = ys.map (·.1) → RelDs G ι H (kvs.map (·.2.1)) (ys.map fun x => .ref x.2.1) → RelDs G ι H (kvs.map (·.2.2)) (ys.map (·.2.2)) → (∀ p ∈ kvs, nkD p.2.1 = some p.1 ∧ p.1.depth ≤ 8) →
    RelK G ι H acc xs → EntR xs vs → acc.length + kvs.length < sizeLine → ∃ xs', RelK G ι H (dPutAll acc kvs) xs' ∧ EntR xs' (storedAllH vs zs)
  | [], [], _, acc, xs, vs, .nil, _, _, _, _, rk, ev, _ => ⟨xs, rk, ev⟩
  | p :: kvs, y :: ys, z :: zs, acc, xs, vs, .cons q t, hk, k1, v1, nk, rk, ev, hl => by
    simp only [List.map_cons, List.cons.injEq] at hk
    have k1 : RelDs G ι H (p.2.1 :: kvs.map (·.2.1)) (V.ref y.2.1 :: ys.map fun x => .ref x.2.1) := k1
    have v1 : RelDs G ι H (p.2.2 :: kvs.map (·.2.2)) (y.2.2 :: ys.map (·.2.2)) := v1
    cases k1 with
    | cons k1 k2 =>
      cases v1 with
      | cons v1 v2 =>
        have hh : (atKey vs p.1).isSome = dHas acc p.1 := by
          have := at_rel rk.keys rk.vd ev p.1
          unfold dHas
          cases h3 : dGet acc p.1 <;> cases h4 : atKey vs p.1 <;> rw [h3, h4] at this <;> first | rfl | exact this.elim
        have n1 := nk p (by simp)
        have hl2 : acc.length < sizeLine := by simp only [List.length_cons] at hl; omega
        have rk' := rk.put k1 n1.1 n1.2 v1 hl2
        have ev' := ent_put (a := y.2.1) q.2.2 ev hh
        have e1 : p.1 = z.1 := hk.1.trans q.1
        have hlen : (dPut acc p.1 p.2.1 p.2.2).length ≤ acc.length + 1 := by
          unfold dPut
          split <;> simp
        obtain ⟨xs', r1, r2⟩ := all_put (mg := mg) (K := K) t hk.2 k2 v2 (fun p hp => nk p (List.mem_cons_of_mem _ hp)) rk' ev' (by simp only [List.length_cons] at hl; omega)
        refine ⟨xs', r1, ?_⟩
        have : storedAllH vs (z :: zs) = storedAllH (storedH vs p.1 y.2.1 z.2.2) zs := by
          rw [e1, q.2.1]
          rfl
        rw [this]
        exact r2
  | [], _ :: _, _, _, _, _, .cons _ _, hk, _, _, _, _, _, _ => by simp at hk
  | _ :: _, [], _, _, _, _, _, hk, _, _, _, _, _, _ => by simp at hk
theorem pairsOf_len : ∀ {ds : List D} {kvs : List (NestedKey × D × D)}, pairsOf ds = some kvs → kvs.length = ds.length
  | [], kvs, h => by cases h; rfl
  | d :: ds, kvs, h => by
    unfold pairsOf at h
    split at h
    · rename_i e0
      cases e0
    · rename_i e0
      injection e0 with e1 e2
      subst e2
      split at h
      · rename_i e2
        cases h
        rw [List.length_cons, pairsOf_len e2, List.length_cons]
      · cases h
    · cases h
theorem dict_ok (wt : T.w = X.w) (hc : X.calm = true) (hu : X.A.units + 64 < cLine) : CallR X (.type "dict") (rn (gx X T) dictD) := by
  intro pins s σ H xs us Q I r h
  obtain ⟨ds, μ, ι, w, rd, h⟩ := h
  unfold dictD at h
  split at h
  · obtain ⟨x, rfl, rx⟩ := RelDs.one (ds := []) rd
    split at h
    · rename_i xs e1
      split at h
      · rename_i ps e2
        split at h
        · rename_i hlen
          obtain ⟨a, vs, rfl, hs, q⟩ := lsD_rel w rx e1
          obtain ⟨its, rv, hl, hz⟩ := I.list hs
          rw [Vals.ref1 r]
          obtain ⟨ts, zs, ys, P⟩ := pairs_rel I q e2 rv
          have hd : DctH X.prog X.w false s.heap 0 [] → True := fun _ => trivial
          have ok : PlainSeq "list" s.heap a its.toArray ∧ PairItems s.heap its.toArray (fun j => ts.getD j 0) (zs.map fun z => (Value.ref z.2.1, z.2.2)) := by
            refine ⟨?_, ?_, fun j k v hj => ?_⟩
            · obtain ⟨o, n, h1, h2, h3, h4⟩ := id hl
              exact ⟨o, n, h1, h2, h3, h4⟩
            · rw [List.size_toArray, P.us, List.length_map, List.length_map, P.len]
            · rw [List.getElem?_map] at hj
              obtain ⟨z, hz1, hz2⟩ := Option.map_eq_some_iff.mp hj
              cases hz2
              have hlt : j < ts.length := by rw [P.len]; exact (List.getElem?_eq_some_iff.mp hz1).1
              have ht : ts[j]? = some (ts.getD j 0) := by simp [List.getD, hlt]
              refine ⟨?_, .inl (P.tup j _ z ht hz1)⟩
              rw [P.us]
              simp only [List.getElem?_toArray, List.getElem?_map, ht, Option.map_some]
          have hn2 : H s.heap.objs.size = none := I.hok.fresh (Nat.le_refl _)
          have lz : zs.length = ps.length := by
            have e3 := congrArg List.length P.keys
            have e4 := ent_length P.ent
            simp only [List.length_map] at e3
            omega
          refine call_dict_pairsH (knd := nestedKind X.prog X.w) (ps := zs) (PairArg.list a its.toArray _ (zs.map fun z => (Value.ref z.2.1, z.2.2))) (I.ok.hd hc) (by show X.A.in1.in1.units + 8 < cLine; rw [Around.in1_units, Around.in1_units]; omega) ok ⟨by rw [List.length_map], fun i key v hr => ?_⟩ (fun h' hk x hx => ?_) (by rw [List.length_map]; omega) fun h' tk hd' hk => ?_
          · have hr : (zs.map fun z => (Value.ref z.2.1, z.2.2))[i]? = some (key, v) := hr
            rw [List.getElem?_map] at hr
            obtain ⟨z, hz1, hz2⟩ := Option.map_eq_some_iff.mp hr
            cases hz2
            exact ⟨z.1, z.2.1, hz1, rfl⟩
          · refine nestedKind_stays.stays (fun b o vs n e _ => hk b o ?_ (by simp) e) (P.key x hx)
            exact Nat.ne_of_lt (Heap.lt_size e)
          · obtain ⟨xs', r1, r2⟩ := all_put (mg := X.mg) (K := X.K) P.ent P.keys P.kd P.vd P.nk (RelK.nil) (.nil) (by simpa using hlen)
            have g : Grow (gx X T) ι H (ι ++ [s.heap.objs.size]) (upd H s.heap.objs.size (dctO T.w false s.heap.objs.size xs')) := .more hn2
            have hk' : ∀ b o, s.heap.get? b = some o → h'.get? b = some o := fun b o e => hk b o (by simp) e
            refine ⟨.ref s.heap.objs.size, _, I.laid (a := s.heap.objs.size) (o := dctO T.w false s.heap.objs.size xs') (t' := tk) hk' (Nat.le_refl _) (by rw [wt]; exact dctO_ok r2 (dctH_false hd')), rfl, ?_⟩
            exact h (.ref s.heap.objs.size) _ _ g (w.more hn2 rfl ⟨_, upd_same, not_sys I, r1.grow w g⟩) (RelD.last w)
        · exact h.elim
      · exact h.elim
    · exact h.elim
  · exact h.elim
end
end Ev

set_option Elab.async false
set_option linter.all false
set_option maxRecDepth 100000
set_option maxHeartbeats 4000000
namespace Ev
open PySem PySem.Spec PyProof.Rows L2
/-- the lambda's scope: its parameter, nothing else -/
def keySB (sc : Scope) (x : Str) : Bool := decide (sc.kind = .function) && !sc.isCoroutine && !sc.isGenerator && decide (sc.names.lookup x = some .local) && sc.names.all (fun y => decide (y.2 = .local)) && !(x == ("__debug__" : Str))
/-! ### at the level of data -/
def keyI (c : Int) : D → Option Int
  | .tup xs => match atI xs c with
    | some (.int i) => some i
    | _ => none
  | _ => none
def keyG (c : Int) (d : D) : Int := (keyI c d).getD 0
def minKeyD (c : Int) (d : D) (μ : Mem) : O := match lsD μ d with
  | some (x :: xs) => if ((x :: xs).all fun y => (keyI c y).isSome) ∧ c.natAbs < 1000 then some (xs.foldl (fun a y => if keyG c y < keyG c a then y else a) x, μ) else none
  | _ => none
def eMinK (c : Int) (fe : E) : E := eUn (minKeyD c) fe
/-- the rule of min with a lambda as key -/
def KeyOk (X : Cx) (T : TX) (W : WX) : Prop :=
  ∀ (e : Expr) (fe : E) (an : Option Expr) (ap p p1 p2 p3 lpos kpos pos : Pos) (scope : Scope) (c : Int) (kk : Nat), PE X e (tE (gx X T) W fe) → starEach [e] X.env = (false, eval e X.env) :: starEach [] X.env → keySB scope "way" = true → Gl X "min" → X.mg "min" = none →
    PE X (.Call (.Name "min" p) [e] [⟨some "key", .Lambda ⟨[], [⟨"way", an, ap⟩], none, [], [], none, []⟩ (.Subscript (.Name "way" p1) (.Constant (.int c) kk p2) p3) scope lpos, kpos⟩] pos) (tE (gx X T) W (eMinK c fe))
end Ev

set_option Elab.async false
set_option linter.all false
set_option maxRecDepth 100000
set_option maxHeartbeats 4000000
namespace Ev
open PySem PySem.Spec PyProof.Rows L2
/-! ### sorted(set(a tuple of ints)) -/
def insI (k : Int) : List Int → List Int
  | [] => [k]
  | a :: r => if k < a then k :: a :: r else if k = a then a :: r else a :: insI k r
def srtI : List Int → List Int
  | [] => []
  | k :: r => insI k (srtI r)
theorem mem_insI {k j : Int} : ∀ {l : List Int}, j ∈ insI k l ↔ j = k ∨ j ∈ l
  | [] => by simp [insI]
  | a :: r => by
    unfold insI
    split
    · simp
    · split
      · rename_i h; subst h; simp
      · simp only [List.mem_cons, mem_insI]
        constructor
        · rintro (h | h | h) <;> simp [h]
        · rintro (h | h | h) <;> simp [h]
theorem mem_srtI {j : Int} : ∀ {l : List Int}, j ∈ srtI l ↔ j ∈ l
  | [] => Iff.rfl
  | a :: r => by
    unfold srtI
    rw [mem_insI, mem_srtI, List.mem_cons]
theorem pw_insI {k : Int} : ∀ {l : List Int}, l.Pairwise (· < ·) → (insI k l).Pairwise (· < ·)
  | [], _ => by simp [insI]
  | a :: r, h => by
    obtain ⟨h1, h2⟩ := List.pairwise_cons.mp h
    unfold insI
    split
    · rename_i hk
      refine List.pairwise_cons.mpr ⟨fun y hy => ?_, h⟩
      rcases List.mem_cons.mp hy with e | e
      · omega
      · have := h1 y e; omega
    · split
      · exact h
      · refine List.pairwise_cons.mpr ⟨fun y hy => ?_, pw_insI h2⟩
        rcases mem_insI.mp hy with e | e
        · omega
        · exact h1 y e
theorem pw_srtI : ∀ (l : List Int), (srtI l).Pairwise (· < ·)
  | [] => .nil
  | _ :: r => pw_insI (pw_srtI r)
theorem asc_eq : ∀ {l m : List Int}, l.Pairwise (· < ·) → m.Pairwise (· < ·) → (∀ k, k ∈ l ↔ k ∈ m) → l = m
  | [], [], _, _, _ => rfl
  | [], b :: m, _, _, h => by have := (h b).mpr (by simp); cases this
  | a :: l, [], _, _, h => by have := (h a).mp (by simp); cases this
  | a :: l, b :: m, h1, h2, h => by
    obtain ⟨p1, p2⟩ := List.pairwise_cons.mp h1
    obtain ⟨q1, q2⟩ := List.pairwise_cons.mp h2
    have e : a = b := by
      rcases List.mem_cons.mp ((h a).mp (by simp)) with e | e
      · exact e
      · rcases List.mem_cons.mp ((h b).mpr (by simp)) with e2 | e2
        · exact e2.symm
        · have := p1 b e2
          have := q1 a e
          omega
    subst e
    rw [asc_eq p2 q2 fun k => ?_]
    constructor
    · intro hk
      rcases List.mem_cons.mp ((h k).mp (List.mem_cons_of_mem _ hk)) with e | e
      · have := p1 k hk; omega
      · exact e
    · intro hk
      rcases List.mem_cons.mp ((h k).mpr (List.mem_cons_of_mem _ hk)) with e | e
      · have := q1 k hk; omega
      · exact e
theorem srtI_eq {l m : List Int} (h1 : m.Pairwise (· < ·)) (h : ∀ k, k ∈ m ↔ k ∈ l) : m = srtI l := asc_eq h1 (pw_srtI l) fun k => (h k).trans mem_srtI.symm
theorem srtI_asc {l : List Int} (h : l.Pairwise (· < ·)) : srtI l = l := (srtI_eq h fun _ => Iff.rfl).symm
theorem intsD_of (ns : List Int) : intsD (ns.map D.int) = some ns := by
  induction ns with
  | nil => rfl
  | cons k r ih =>
    show (intsD (r.map D.int)).map (k :: ·) = _
    rw [ih]; rfl
def srtSetD : D → Mem → O
  | .tup ds, μ => match intsD ds with
    | some ns => if ns.length < 64 then some (.loc μ.length, μ ++ [.lst ((srtI ns).map D.int)]) else none
    | none => none
  | _, _ => none
section
variable {X : Cx} {T₀ : TX} {W : WX} {G : Gc} {ι : List Addr} {H : Hp} {μ : Mem}
theorem rel_ints : ∀ (ns : List Int), RelDs G ι H (ns.map D.int) (ns.map V.int)
  | [] => .nil
  | k :: r => .cons (.int k) (rel_ints r)
/-- set(t), t a tuple of ints -/
def rSetTI (K : PySem.W.Frag) (w : World) : List V → Hp → VK → Prop := fun xs H Q => ∃ (p : Addr) (ns : List Int), xs = [.ref p] ∧ SqT K H p (ns.map V.int) ∧ ns.length < 64 ∧
  ∀ a n, H a = none → n < 64 → Q (.ref a) (upd H a (SetO w a (fun j => decide (j ∈ ns)) n))
theorem cr_setTI (hc : X.calm = true) : CallR X (.type "set") (rSetTI X.K X.w) := by
  intro pins s σ H xs us Q I r h
  obtain ⟨p, ns, rfl, hs, hl, q⟩ := h
  obtain ⟨its, rv, pl, hz⟩ := I.tuple hs
  rw [Vals.ref1 r]
  have hn : H s.heap.objs.size = none := I.hok.fresh (Nat.le_refl _)
  refine call_set_tupI ns (I.ok.hd hc) pl (by simpa using ints_of_vals rv) (by unfold scanBound; omega) fun h' tk c R hcl hk => ?_
  exact ⟨.ref s.heap.objs.size, upd H s.heap.objs.size (SetO X.w s.heap.objs.size (fun j => decide (j ∈ ns)) c), I.laid (t' := tk) hk (Nat.le_refl _) (setO_new R), rfl, q _ c hn (by omega)⟩
theorem pe_srtSet {a : Expr} {fa : E} {p q pos pos' : Pos} (hc : X.calm = true) (g1 : Gl X "sorted") (m1 : X.mg "sorted" = none) (g2 : Gl X "set") (m2 : X.mg "set" = none) (ha : PE X a (tE (gx X T₀) W fa)) (hs : starEach [a] X.env = [(false, eval a X.env)]) :
    PE X (.Call (.Name "sorted" p) [.Call (.Name "set" q) [a] [] pos'] [] pos) (tE (gx X T₀) W (eUn srtSetD fa)) := by
  have h1 := pe_callTy (pos := pos') (p := q) (cr_setTI hc) g2 m2 boot_set (pa_cons ha pa_nil hs) (by decide) (by decide) hs rfl
  have h2 := pe_callB (pos := pos) (p := p) (cr_sortedSet hc) g1 m1 boot_sorted (pa_cons h1 pa_nil) (by decide) (by decide) rfl rfl
  refine h2.weak fun σ H Q ⟨ρ, μ, ι, w, ev, h⟩ => ?_
  refine ⟨ρ, μ, ι, w, ev, ?_⟩
  unfold eUn at h
  cases hfa : fa ρ μ with
  | er => rw [hfa] at h; exact h
  | ex x m => rw [hfa] at h; exact h
  | ok d m =>
    rw [hfa] at h
    have h : Pst (gx X T₀) ι H (fun c d H' => W c d σ H') Q (srtSetD d m).r := h
    unfold srtSetD at h
    intro v H' ι' g' w' r
    split at h
    · rename_i ds
      split at h
      · rename_i ns e
        split at h
        · rename_i hl
          cases r with
          | tup ht rr =>
            rename_i pa vs
            rw [ints_rel rr e] at ht
            have hd : Don (gx X T₀) ι H Q (some (.loc m.length, m ++ [.lst ((srtI ns).map D.int)])) := h
            refine ⟨pa, ns, rfl, ht, hl, fun a n hn hn2 => ?_⟩
            refine ⟨a, _, n, rfl, upd_same, hn2, fun ns' p' hp hm hl2 hf => ?_⟩
            have e2 : ns' = srtI ns := srtI_eq hp fun k => by rw [hm k]; simp
            subst e2
            have g2 := g'.trans (.obj (o := SetO X.w a (fun j => decide (j ∈ ns)) n) hn)
            have w2 := w'.obj (o := SetO X.w a (fun j => decide (j ∈ ns)) n) hn
            exact Don.lst (G := gx X T₀) w2 (rel_ints (srtI ns)) (Don.grow g2 hd) p' hf
        · exact h.elim
      · exact h.elim
    · exact h.elim
end
end Ev

set_option Elab.async false
set_option linter.all false
set_option maxRecDepth 100000
set_option maxHeartbeats 4000000
namespace Ev
open PySem PySem.Spec PyProof.Rows L2
/-! ### isinstance of built-in classes; f-strings -/
def tyOfD (μ : Mem) : D → Option String
  | .non => some "NoneType" | .bl _ => some "bool" | .int _ => some "int" | .str _ => some "str" | .tup _ => some "tuple" | .fl _ => some "list"
  | .loc n => match lstAt μ n with
    | some _ => some "list"
    | none => none
  | .gl _ => none
  | .rw _ => none
def isaB (a b : String) : Bool := a == b || (a == "bool" && b == "int")
def isiD (ts : List String) : D → Mem → O := fun d μ => (tyOfD μ d).map fun t => (.bl (ts.any (isaB t)), μ)
/-- texts of an f-string's parts -/
def fmtD : D → Option Str
  | .str y => some y
  | .int i => if i.natAbs.log2 < 1920 then some (toString i) else none
  | _ => none
def eFmt (a : E) : E := eUn (fun d μ => match fmtD d with
  | some y => if y.length ≤ sizeLine then some (.str y, μ) else none
  | none => none) a
def joinGo : List E → Str → Env → Mem → R Str
  | [], acc, _, μ => .ok acc μ
  | a :: as, acc, ρ, μ => (a ρ μ).bind fun x μ1 => match x with
    | .str y => if (acc ++ y).length ≤ sizeLine then joinGo as (acc ++ y) ρ μ1 else .er
    | _ => .er
def eJoin (as : List E) : E := fun ρ μ => (joinGo as Str.empty ρ μ).bind fun y μ1 => .ok (.str y) μ1
/-! ### the evaluator -/
structure Cfg where
  N : List Str
  sc : Scope
  /-- the names that may be stored -/
  st : List (Str × NameKind)
  call : Tab
  gv : Str → Option D
  bn : Str → Bool
  exc : Str → Bool
  law : Option Str
  lk : Bool := false
  fuel : Nat
def slot : List Str → Str → Option Nat
  | [], _ => none
  | y :: r, x => if y = x then some 0 else (slot r x).map (· + 1)
def eEr : E := fun _ _ => .er
def sEr : S := fun _ _ => .er
def tEr : T := fun _ _ => .er
def badName (x : Str) : Bool := x == ("__debug__" : Str) || x == ("__classdict__" : Str) || x == ("__name__" : Str)
def visK : Option NameKind → Bool
  | some .local => true | some .cell => true | some .free => true
  | _ => false
def locK : Option NameKind → Bool
  | some .local => true | some .cell => true
  | _ => false
/-- a name's slot -/
def Cfg.loc (c : Cfg) (x : Str) : Option Nat := if visK (c.sc.names.lookup x) && !badName x then slot c.N x else none
def Cfg.glb (c : Cfg) (x : Str) : Bool := decide (c.sc.names.lookup x = some .globalImplicit) && !badName x
/-- where a name is stored -/
def Cfg.sto (c : Cfg) (x : Str) : Option Nat := if locK (c.st.lookup x) then slot c.N x else none
structure Rec where
  e : Cfg → Expr → E
  t : Cfg → Expr → T
  s : Cfg → Stmt → S
def isStar : Expr → Bool
  | .Starred _ _ => true
  | _ => false
def isSetE : Expr → Bool
  | .Set _ _ _ => true
  | _ => false
def isSlice : Expr → Bool
  | .Slice _ _ _ _ => true
  | _ => false
def isComp : Expr → Bool
  | .ListComp _ _ _ _ => true | .SetComp _ _ _ _ => true | .DictComp _ _ _ _ _ => true
  | _ => false
def isCall0 : Expr → Bool
  | .Call _ [] [] _ => true
  | _ => false
def evEs (r : Rec) (c : Cfg) : List Expr → Es
  | [] => esNil
  | e :: es => if isStar e then fun _ _ => .er else esCons (r.e c e) (evEs r c es)
def evL (r : Rec) (c : Cfg) : List Expr → List E
  | [] => []
  | e :: es => r.e c e :: evL r c es
def evO (r : Rec) (c : Cfg) : Option Expr → OE
  | none => oNo
  | some e => oSo (r.e c e)
def constE : Const → E
  | .none => eK .non | .bool b => eK (.bl b) | .int i => eK (.int i) | .str x => eK (.str x)
  | _ => eEr
mutual
def tgOf (c : Cfg) : Expr → Option Tg
  | .Name x _ => (c.sto x).map .nm
  | .Tuple es _ _ => (tgsOf c es).map .tp
  | _ => none
def tgsOf (c : Cfg) : List Expr → Option (List Tg)
  | [] => some []
  | e :: es => if isStar e then none else match tgOf c e, tgsOf c es with
    | some t, some ts => some (t :: ts)
    | _, _ => none
end
/-- what a for walks -/
def evI (r : Rec) (c : Cfg) (tg : Expr) : Expr → Iv
  | .Call (.Name x p) [a] [] pos => if isStar a || isSetE a then fun _ _ => .er
      else if x = ("range" : Str) ∧ c.glb x ∧ c.bn x then iRg1 (evEs r c [a])
      else if x = ("enumerate" : Str) ∧ c.glb x ∧ c.bn x then (match tg with
        | .Tuple _ _ _ => iEn (evEs r c [a])
        | _ => fun _ _ => .er)
      else iSeq (r.e c (.Call (.Name x p) [a] [] pos))
  | .Call (.Name x p) [a, b] [] pos => if isStar a || isStar b then fun _ _ => .er
      else if x = ("range" : Str) ∧ c.glb x ∧ c.bn x then iRg2 (evEs r c [a, b])
      else if x = ("zip" : Str) ∧ c.glb x ∧ c.bn x then (match tg with
        | .Tuple _ _ _ => iZl (evEs r c [a, b])
        | _ => fun _ _ => .er)
      else iSeq (r.e c (.Call (.Name x p) [a, b] [] pos))
  | .Call (.Attribute e m apos) [] [] cpos => if m = ("items" : Str) then (match tg with
      | .Tuple _ _ _ => if (apos.endLine == cpos.line) && !isCall0 e then iIt (r.e c e) else fun _ _ => .er
      | _ => fun _ _ => .er)
      else iSeq (r.e c (.Call (.Attribute e m apos) [] [] cpos))
  | e => if isSetE e then fun _ _ => .er else iSeq (r.e c e)
def bfTab : List (Str × String) := [("len", "len"), ("abs", "abs"), ("max", "max"), ("min", "min"), ("all", "all"), ("any", "any"), ("sum", "sum"), ("sorted", "sorted")]
def btTab : List (Str × String) := [("int", "int"), ("bool", "bool"), ("str", "str"), ("list", "list"), ("tuple", "tuple")]
def ctTab : List (Str × String) := [("int", "int"), ("bool", "bool"), ("str", "str"), ("list", "list"), ("tuple", "tuple"), ("dict", "dict")]
def biD2 (n : String) : Option (List D → Mem → O) := if n = "sorted" then some sortedD else biD n
def tyD2 (n : String) : Option (List D → Mem → O) := if n = "dict" then some dictD else if n = "list" then some listD2 else tyD n
/-- the classes of isinstance -/
def clsOf (c : Cfg) : Expr → Option (List String)
  | .Name x _ => if c.glb x && c.bn x then (btTab.lookup x).map fun t => [t] else none
  | .Tuple [.Name x _, .Name y _] _ _ => if c.glb x && c.bn x && c.glb y && c.bn y then (match btTab.lookup x, btTab.lookup y with
    | some t, some u => some [t, u]
    | _, _ => none) else none
  | _ => none
/-- what is told of an error -/
def lawCls : List Str := ["InvalidComing", "InvalidMachine", "InvalidName", "InvalidNumber", "InvalidRow", "InvalidRule", "NoText", "NothingToUndo"]
def lawEx (x : Exc) : Option D := if x.d.isNone && lawCls.contains x.c then some (.tup [.str (x.c ++ " +")]) else none
def eLaw (f : E) : E := fun ρ μ => match f ρ μ with
  | .ok d μ' => .ok (.tup [.str "told", d]) μ'
  | .ex x μ' => match lawEx x with
    | some d => .ok d μ'
    | none => .er
  | .er => .er
/-- classes that are called -/
def initTab : List (Str × Str) := (("Yard" : Str), ("Yard.__init__" : Str)) :: (("Rule" : Str), ("Rule.__init__" : Str)) :: []
noncomputable def evCall (r : Rec) (c : Cfg) (x : Str) (a : Expr) (es : List Expr) : E :=
  if isStar a || badName x || es.any isStar then eEr
  else if visK (c.sc.names.lookup x) then (match slot c.N x with
    | some i => eCallV c.call i (evEs r c (a :: es))
    | none => eEr)
  else if c.glb x then
    if c.bn x then
      if x = ("isinstance" : Str) then (match es with
        | [k] => (match clsOf c k with
          | some ts => eUn (isiD ts) (r.e c a)
          | none => eEr)
        | _ => eEr)
      else match bfTab.lookup x with
        | some n => (match biD2 n with
          | some p => gE (eApp p (evEs r c (a :: es)))
          | none => eEr)
        | none => match ctTab.lookup x with
          | some n => (match tyD2 n with
            | some p => gE (eApp p (evEs r c (a :: es)))
            | none => eEr)
          | none => eEr
    else if c.law = some x then (match a, es with
      | .Lambda params body scope _, [] => if LamX.lamSB c.sc scope && params.posonlyargs.isEmpty && params.args.isEmpty && params.vararg.isNone && params.kwonlyargs.isEmpty && params.kw_defaults.isEmpty && params.kwarg.isNone && params.defaults.isEmpty then eLaw (r.e { c with sc := scope, st := [], law := none, lk := false } body) else eEr
      | _, _ => eEr)
    else match initTab.lookup x with
      | some y => (match c.call y with
        | some f => eMake x f (evEs r c (a :: es))
        | none => eEr)
      | none => if (mTab.lookup x).isSome then eEr else (match c.call x with
        | some f => eCall f (evEs r c (a :: es))
        | none => eEr)
  else eEr
/-- set(e) -/
def setArg : Expr → Option Expr
  | .Call (.Name y _) [b] [] _ => if y = ("set" : Str) then some b else none
  | _ => none
noncomputable def evCall1 (r : Rec) (c : Cfg) (x : Str) (a : Expr) (es : List Expr) : E := match es, setArg a with
  | [], some b => if x = ("sorted" : Str) ∧ (c.glb x && c.bn x && c.glb ("set" : Str) && c.bn ("set" : Str) && !isStar b) = true then eUn srtSetD (r.e c b) else eEr
  | _, _ => evCall r c x a es
def evMeth (r : Rec) (c : Cfg) (o : Expr) (m : Str) (a : Expr) (es : List Expr) : E :=
  if isStar a || es.any isStar || isCall0 o || decide (20 < es.length) then eEr
  else if m = ("append" : Str) then eMt "list" appendD (r.e c o) (evEs r c (a :: es))
  else if m = ("extend" : Str) then eMt "list" extendD (r.e c o) (evEs r c (a :: es))
  else if m = ("count" : Str) then eMt "str" countD (r.e c o) (evEs r c (a :: es))
  else if m = ("split" : Str) then eMt "str" splitD (r.e c o) (evEs r c (a :: es))
  else if m = ("index" : Str) then fun ρ μ => match r.e c o ρ μ with
    | .ok (.str _) _ => eMt "str" indexSD (r.e c o) (evEs r c (a :: es)) ρ μ
    | _ => eMt "list" indexLD (r.e c o) (evEs r c (a :: es)) ρ μ
  else if m = ("pop" : Str) then eMt "list" popD (r.e c o) (evEs r c (a :: es))
  else if m = ("get" : Str) then eMd getD' (r.e c o) (evEs r c (a :: es))
  else if m = ("setdefault" : Str) then eMd setdD (r.e c o) (evEs r c (a :: es))
  else if m = ("join" : Str) then eMt "str" joinD2 (r.e c o) (evEs r c (a :: es))
  else eEr
/-- methods without arguments -/
def evMeth0 (r : Rec) (c : Cfg) (o : Expr) (m : Str) : E :=
  if isCall0 o then eEr
  else if m = ("pop" : Str) then eMt "list" popD (r.e c o) esNil
  else if m = ("upper" : Str) then eMt "str" upperD (r.e c o) esNil
  else eEr
/-- min(e, key=lambda way: way[n]) -/
def evKey (r : Rec) (c : Cfg) (x : Str) (a : Expr) (k : Option Str) (ps : Arguments) (y : Str) (n : Int) (scope : Scope) : E := match ps with
  | ⟨[], [⟨w, _, _⟩], none, [], [], none, []⟩ => if c.lk && !isStar a && decide (x = ("min" : Str)) && decide (k = some ("key" : Str)) && decide (w = ("way" : Str)) && decide (y = ("way" : Str)) && keySB scope ("way" : Str) && c.glb x && c.bn x then eMinK n (r.e c a) else eEr
  | _ => eEr
/-- a comprehension's own names -/
def ownOf (N : List Str) (names : List (Str × NameKind)) : List (Str × Nat) := names.filterMap fun y => if locK (some y.2) then (slot N y.1).map fun i => (y.1, i) else none
def evLc (r : Rec) (c : Cfg) (elt tg iter : Expr) (ifs : List Expr) (scope : Scope) : E :=
  let own := ownOf c.N scope.names
  let c' : Cfg := { c with sc := relS scope c.sc, st := scope.names, law := none, lk := false }
  if blkC c.N c.sc scope own && !isSetE iter then match tgOf c' tg with
    | some t => (match ifs with
      | [] => eLc (evI r c tg iter) t tYesT (r.e c' elt) (own.map (·.2))
      | [k] => eLc (evI r c tg iter) t (r.t c' k) (r.e c' elt) (own.map (·.2))
      | _ => eEr)
    | none => eEr
  else eEr
noncomputable def stepE (r : Rec) (c : Cfg) : Expr → E
  | .Constant k _ _ => constE k
  | .Name x _ => match c.loc x with
    | some i => eVar i
    | none => if c.glb x then (match c.gv x with
      | some d => eK d
      | none => eEr) else eEr
  | .BoolOp _ [a] _ => r.e c a
  | .BoolOp .And (a :: b :: rest) pos => eAn (r.e c a) (r.e c (.BoolOp .And (b :: rest) pos))
  | .BoolOp .Or (a :: b :: rest) pos => eOr (r.e c a) (r.e c (.BoolOp .Or (b :: rest) pos))
  | .BinOp a op b _ => eBin (binD op) (r.e c a) (r.e c b)
  | .UnaryOp .Not a _ => eNo (r.e c a)
  | .UnaryOp .USub a _ => eUn negD (r.e c a)
  | .IfExp t a b _ => eIf (r.t c t) (r.e c a) (r.e c b)
  | .Compare a [op] [b] _ => if isSetE b then eEr else gE (eBin (cmpD op) (r.e c a) (r.e c b))
  | .Compare a [op, op'] [b, d] _ => if isSetE d then eEr else gE (eChain (cmpD op) (cmpD op') (r.e c a) (r.e c b) (r.e c d))
  | .Tuple es _ _ => eApp tupP (evEs r c es)
  | .List es _ => eApp lstP (evEs r c es)
  | .Dict [] [] _ => newD
  | .Dict [some a] [b] _ => eDct1 (r.e c a) (r.e c b)
  | .Subscript a (.Slice none none (some (.UnaryOp .USub (.Constant (.int 1) _ _) _)) _) _ => eUn revD (r.e c a)
  | .Subscript a (.Slice lo hi none _) _ => eSl (r.e c a) (evO r c lo) (evO r c hi)
  | .Subscript a b _ => if isSlice b then eEr else gE (eBin ixD (r.e c a) (r.e c b))
  | .ListComp elt [⟨tg, iter, ifs, 0⟩] scope _ => evLc r c elt tg iter ifs scope
  | .FormattedValue a (-1) none _ => eFmt (r.e c a)
  | .JoinedStr (a :: b :: rest) _ => eJoin (evL r c (a :: b :: rest))
  | .JoinedStr [a] _ => r.e c a
  | .Call (.Name x _) (a :: es) [] _ => evCall1 r c x a es
  | .Call (.Attribute o m apos) (a :: es) [] cpos => if apos.endLine == cpos.line then evMeth r c o m a es else eEr
  | .Call (.Attribute o m apos) [] [] cpos => if apos.endLine == cpos.line then evMeth0 r c o m else eEr
  | .Call (.Name x _) [a] [⟨k, .Lambda ps (.Subscript (.Name y _) (.Constant (.int n) _ _) _) scope _, _⟩] _ => evKey r c x a k ps y n scope
  | _ => eEr
noncomputable def stepT (r : Rec) (c : Cfg) : Expr → T
  | .UnaryOp .Not a _ => tNo (r.t c a)
  | .BoolOp _ [a] _ => r.t c a
  | .BoolOp .And (a :: b :: rest) pos => tAn (r.t c a) (r.t c (.BoolOp .And (b :: rest) pos))
  | .BoolOp .Or (a :: b :: rest) pos => tOr' (r.t c a) (r.t c (.BoolOp .Or (b :: rest) pos))
  | .BoolOp _ _ _ => tEr
  | .IfExp _ _ _ _ => tEr
  | .Compare a [op] [b] _ => if isSetE b then tEr else tBl (gE (eBin (cmpD op) (r.e c a) (r.e c b)))
  | .Compare a [op, op'] [b, d] _ => if isSetE d then tEr else tBl (gE (eChain (cmpD op) (cmpD op') (r.e c a) (r.e c b) (r.e c d)))
  | .Compare _ _ _ _ => tEr
  | e => tTru (r.e c e)
def evSs (r : Rec) (c : Cfg) : List Stmt → S
  | [] => sNx
  | s :: ss => sSeq (r.s c s) (evSs r c ss)
def isDisp : Expr → Bool
  | .Tuple _ _ _ => true | .List _ _ => true
  | _ => false
/-- whether a tuple's stores are exchanged -/
def swB (names : List (Str × NameKind)) (ts vs : List Expr) : Option (Option (List Str)) :=
  if (!(ts.length == 2 || ts.length == 3) || vs.length != ts.length) = true then some none
  else if (vs.any fun | .Starred .. => true | _ => false) = true then some none
  else
    let line := (ts.head?.map (·.pos.line)).getD 0
    let ns := ts.filterMap fun
      | .Name id pos => if (names.lookup id == some .local && pos.line == line) = true then some id else none
      | _ => none
    if (ns.length != ts.length || ns.eraseDups.length != ns.length) = true then some none
    else if vs.all (foldedForSure 8) = true then some none
    else if vs.all (constantsAlone 8) = true then none
    else some (some ns)
def swOk (c : Cfg) (ts : List Expr) : Expr → Bool
  | .Tuple vs _ _ => match swB c.sc.names ts vs with
    | some none => true
    | some (some ns) => (match ts, vs with
      | [.Name x _, .Name y _], [_, _] => decide (ns = [x, y] ∧ x ≠ y) && decide (c.sc.names.lookup x = some .local) && decide (c.sc.names.lookup y = some .local)
      | [.Name x _, .Name y _, .Name z _], [_, _, _] => decide (ns = [x, y, z] ∧ x ≠ y ∧ x ≠ z ∧ y ≠ z) && decide (c.sc.names.lookup x = some .local) && decide (c.sc.names.lookup y = some .local) && decide (c.sc.names.lookup z = some .local)
      | _, _ => false)
    | none => false
  | _ => true
def swOkN (c : Cfg) (ts : List Expr) : Expr → Bool
  | .Tuple vs _ _ => match swB c.sc.names ts vs with
    | some none => true
    | _ => false
  | _ => true
/-- targets that are names, subscripts -/
def tgXs (r : Rec) (c : Cfg) : List Expr → Option (List TgX)
  | [] => some []
  | .Name x _ :: es => match c.sto x, tgXs r c es with
    | some i, some ts => some (.nm i :: ts)
    | _, _ => none
  | .Subscript o i _ :: es => if isSlice i then none else match tgXs r c es with
    | some ts => some (.sb (r.e c o) (r.e c i) :: ts)
    | none => none
  | _ => none
def stepS (r : Rec) (c : Cfg) : Stmt → S
  | .Pass _ => sNx
  | .Break _ => sBk
  | .Continue _ => sCt
  | .Return none _ => sRetN
  | .Return (some e) _ => sRet (r.e c e)
  | .Expr e _ => if isComp e then sEr else sExpr (r.e c e)
  | .If t xs ys _ => sIf (r.t c t) (evSs r c xs) (evSs r c ys)
  | .While t xs [] _ => sWhile c.fuel (r.t c t) (evSs r c xs)
  | .For tg it xs [] _ => if isSetE it then sEr else (match tgOf c tg with
    | some t => sFor (evI r c tg it) t (evSs r c xs)
    | none => sEr)
  | .Raise (some (.Call (.Name x _) [.Constant (.str _) _ _] [] _)) none _ => if c.exc x && c.glb x then sRaise x else sEr
  | .Assign [.Name x p] e pos => (match tgOf c (.Name x p) with
    | some t => sSet t (r.e c e)
    | none => sEr)
  | .Assign [.Tuple ts k p] e pos => if swOk c ts e then (match tgOf c (.Tuple ts k p) with
    | some t => sSet t (r.e c e)
    | none => match tgXs r c ts with
      | some us => if swOkN c ts e then sSetX us (r.e c e) else sEr
      | none => sEr) else sEr
  | .Assign [.Subscript o i _] e _ => if isSlice i then sEr else sSub (r.e c o) (r.e c i) (r.e c e)
  | _ => sEr
noncomputable def recN : Nat → Rec
  | 0 => ⟨fun _ _ => eEr, fun _ _ => tEr, fun _ _ => sEr⟩
  | n + 1 => ⟨stepE (recN n), stepT (recN n), stepS (recN n)⟩
end Ev

set_option Elab.async false
set_option linter.all false
set_option maxRecDepth 100000
set_option maxHeartbeats 4000000
namespace Ev
open PySem PySem.Spec PyProof.Rows L2
/-- the rule of the law's own call -/
def LawOk (X : Cx) (T : TX) (W : WX) (k : Nat) (x : Str) : Prop :=
  ∀ (params : Arguments) (body : Expr) (scope : Scope) (f : E) (p lpos pos : Pos), LamX.lamSB X.env.scope scope = true → params.posonlyargs = [] → params.args = [] → params.vararg = none → params.kwonlyargs = [] → params.kw_defaults = [] → params.kwarg = none → params.defaults = [] → Gl X x →
    (∀ (Y : Cx) (V : WX), Y.prog = X.prog → Y.w = X.w → Y.K = X.K → Y.mg = X.mg → Y.base = X.base → Y.N = X.N → Y.env.scope = scope → Y.calm = true → Room k Y.A → L2N.Takes Y V → PassesOwn (model Y.prog Y.w) Y.A Y.env Y.xe → PE Y body (tE (gx Y T) V f)) →
    PE X (.Call (.Name x p) [.Lambda params body scope lpos] [] pos) (tE (gx X T) W (eLaw f))
structure XOk (X : Cx) (T : TX) (W : WX) (c : Cfg) (k : Nat) : Prop where
  N : X.N = c.N
  nd : X.N.Nodup
  sc : X.env.scope = c.sc
  fk : X.env.scope.kind = .function
  calm : X.calm = true
  room1 : Room (k + 1) X.A
  wt : T.w = X.w
  tk : L2N.Takes X W
  pass : PassesOwn (model X.prog X.w) X.A X.env X.xe
  st : ∀ x, locK (c.st.lookup x) = true → Loc X.env.scope x ∧ (X.fn x = true ∨ X.env.scope.names.lookup x = some .local)
  call : CallOk X.prog X.w X.K X.mg X.base T k c.call
  mn : ∀ x a, X.mg x = some (.ref a) → mTab.lookup x = none
  gv : ∀ x d, c.gv x = some d → ∃ u v, X.mg x = some u ∧ RelV v u ∧ ∀ ι H, RelD (gx X T) ι H d v
  bn : ∀ x, c.bn x = true → X.mg x = none
  exc : ∀ x, c.exc x = true → ExcOk X.K X.mg x
  law : ∀ x, c.law = some x → LawOk X T W (k + 1) x
  key : c.lk = true → KeyOk X T W
theorem XOk.room {X : Cx} {T : TX} {W : WX} {c : Cfg} {k : Nat} (ok : XOk X T W c k) : Room k X.A := ok.room1.mono (Nat.le_succ k)
structure RecOk (r : Rec) : Prop where
  e : ∀ X T W c k, XOk X T W c k → ∀ e, PE X e (tE (gx X T) W (r.e c e))
  t : ∀ X T W c k, XOk X T W c k → ∀ e, PT X e (tT (gx X T) W (r.t c e))
  s : ∀ X T W c k, XOk X T W c k → ∀ s, PS X s (tS (gx X T) W (r.s c s))
  w : ∀ X T W c k, XOk X T W c k → ∀ op es pos, PW X (.BoolOp op es pos) (tT (gx X T) W (r.t c (.BoolOp op es pos)))
section
variable {X : Cx} {T : TX} {W : WX} {c : Cfg} {k : Nat} {r : Rec}
theorem pe_er {e : Expr} : PE X e (tE (gx X T) W eEr) := ⟨fun _ _ _ _ _ _ ⟨_, _, _, _, _, q⟩ => q.elim⟩
theorem pt_er {e : Expr} : PT X e (tT (gx X T) W tEr) := ⟨fun _ _ _ _ _ _ ⟨_, _, _, _, _, q⟩ => q.elim⟩
theorem ps_er {s : Stmt} : PS X s (tS (gx X T) W sEr) := ⟨fun _ _ _ _ _ _ ⟨_, _, _, _, _, q⟩ => q.elim⟩
theorem pa_er {e : List Expr} : PA X e (tEs (gx X T) W fun _ _ => .er) := ⟨fun _ _ _ _ _ _ _ ⟨_, _, _, _, _, q⟩ => q.elim⟩
theorem pi_er {tg e : Expr} : PI X tg e (tI (gx X T) W fun _ _ => .er) := ⟨fun _ _ _ _ _ _ ⟨_, _, _, _, _, q⟩ => q.elim⟩
/-! ### syntax -/
theorem star_eq {e : Expr} {es : List Expr} {env : PySem.Env} (h : isStar e = false) : starEach (e :: es) env = (false, eval e env) :: starEach es env := by
  cases e <;> first | rfl | cases h
theorem star_any {es : List Expr} {env : PySem.Env} {pos : Pos} (h : es.any isStar = false) : (backTo pos (starEach es env)).any (·.1) = false := by
  induction es with
  | nil => rfl
  | cons e es ih =>
    rw [List.any_cons, Bool.or_eq_false_iff] at h
    rw [star_eq h.1]
    show ((false, _) :: backTo pos (starEach es env)).any (·.1) = false
    rw [List.any_cons, ih h.2]
    rfl
theorem star_all {es : List Expr} {env : PySem.Env} {pos : Pos} (h : es.any isStar = false) : (backTo pos (starEach es env)).all (fun x => !x.1) = true := by
  have := star_any (env := env) (pos := pos) h
  rw [List.all_eq_true]
  intro y hy
  rw [List.any_eq_false] at this
  have := this y hy
  simpa using this
theorem base_eq {o : Expr} {m : Str} {env : PySem.Env} {w : Sem Value} (h : isCall0 o = false) : attributeBase o m env w = w := by
  cases o with
  | Call f as ks pos =>
    cases f with
    | Name id p =>
      cases as with
      | nil =>
        cases ks with
        | nil => cases h
        | cons _ _ => rfl
      | cons _ _ => rfl
    | _ => rfl
  | _ => rfl
theorem set_eq {e : Expr} {env : PySem.Env} (h : isSetE e = false) : ∀ x, foldedSetIterable e env x = pure x := by
  intro x
  cases e <;> first | rfl | cases h
theorem marks_eq {e : Expr} {op : CmpOp} (h : isSetE e = false) : behindInMarks op e = false := by
  cases e <;> first | rfl | cases h
theorem marks2_eq {e b : Expr} {op op' : CmpOp} (h : isSetE e = false) : lastMarks [op, op'] [b, e] = false := by
  show behindInMarks op' e = false
  exact marks_eq h
theorem plainIx_eq {b : Expr} (h : isSlice b = false) : PlainIx b := by
  intro o i
  cases b <;> first | rfl | cases h
theorem asgn1_eq {tg : Expr} {env : PySem.Env} (h : isStar tg = false) : (assignEach [tg] env).map (·.2) = [assign tg env] := by
  cases tg <;> first | rfl | cases h
theorem slot_get : ∀ {N : List Str} {x : Str} {i : Nat}, slot N x = some i → N[i]? = some x
  | [], _, _, h => by cases h
  | y :: r, x, i, h => by
    unfold slot at h
    split at h
    · rename_i e
      cases h
      rw [e]
      rfl
    · cases e : slot r x with
      | none => rw [e] at h; cases h
      | some j =>
        rw [e] at h
        cases h
        show r[j]? = some x
        exact slot_get e
theorem bad_dbg {x : Str} (h : badName x = false) : (x == ("__debug__" : Str)) = false ∧ (x == ("__classdict__" : Str)) = false ∧ x ≠ "__name__" := by
  unfold badName at h
  rw [Bool.or_eq_false_iff, Bool.or_eq_false_iff] at h
  refine ⟨h.1.1, h.1.2, fun e => ?_⟩
  have := h.2
  rw [e] at this
  simp at this
theorem vis_of {sc : Scope} {x : Str} (h : visK (sc.names.lookup x) = true) : Vis sc x := by
  unfold visK at h
  split at h
  · exact .inl (by assumption)
  · exact .inr (.inl (by assumption))
  · exact .inr (.inr (by assumption))
  · cases h
theorem loc_of {c : Cfg} {x : Str} {i : Nat} (h : c.loc x = some i) : c.N[i]? = some x ∧ Vis c.sc x ∧ badName x = false := by
  unfold Cfg.loc at h
  split at h
  · rename_i e
    rw [Bool.and_eq_true, Bool.not_eq_true'] at e
    exact ⟨slot_get h, vis_of e.1, e.2⟩
  · cases h
theorem glb_of {c : Cfg} {x : Str} (h : c.glb x = true) : c.sc.names.lookup x = some .globalImplicit ∧ badName x = false := by
  unfold Cfg.glb at h
  rw [Bool.and_eq_true, Bool.not_eq_true', decide_eq_true_eq] at h
  exact h
variable (ok : XOk X T W c k) (R : RecOk r)
include ok R
theorem snd_es : ∀ es, PA X es (tEs (gx X T) W (evEs r c es))
  | [] => pa_nilE
  | e :: es => by
    unfold evEs
    split
    · exact pa_er
    · rename_i h
      exact pa_consE (R.e X T W c k ok e) (snd_es es) (star_eq (by simpa using h))
theorem snd_o : ∀ o, PO X o (tO (gx X T) W (evO r c o))
  | none => po_noE
  | some e => po_soE (R.e X T W c k ok e)
omit R in
theorem hu64 : X.A.units + 64 < cLine := ok.room.units
omit R in
theorem gl_of {x : Str} (h : c.glb x = true) : Gl X x := by
  show X.env.scope.names.lookup x = _
  rw [ok.sc]
  exact (glb_of h).1
omit R in
mutual
theorem snd_tg : ∀ {e : Expr} {t : Tg}, tgOf c e = some t → PG X e (gT X.K t)
  | .Name x p, t, h => by
    unfold tgOf at h
    cases e : c.sto x with
    | none => rw [e] at h; cases h
    | some i =>
      rw [e] at h
      cases h
      unfold Cfg.sto at e
      split at e
      · rename_i hl
        obtain ⟨h1, h2⟩ := ok.st x hl
        exact pg_name ok.nd (by rw [ok.N]; exact slot_get e) h1 h2
      · cases e
  | .Tuple es n p, t, h => by
    unfold tgOf at h
    cases e : tgsOf c es with
    | none => rw [e] at h; cases h
    | some ts =>
      rw [e] at h
      cases h
      obtain ⟨h1, h2, h3⟩ := snd_tgs e
      exact ⟨fun pins s σ H v u Q I r q => q.elim ((pg_tup ok.calm h1 h2 h3).run pins s σ H v u Q I r) ((pg_lst ok.calm h1 h2 h3).run pins s σ H v u Q I r)⟩
  | .BoolOp .., _, h => by cases h
  | .NamedExpr .., _, h => by cases h
  | .BinOp .., _, h => by cases h
  | .UnaryOp .., _, h => by cases h
  | .Lambda .., _, h => by cases h
  | .IfExp .., _, h => by cases h
  | .Dict .., _, h => by cases h
  | .Set .., _, h => by cases h
  | .ListComp .., _, h => by cases h
  | .SetComp .., _, h => by cases h
  | .DictComp .., _, h => by cases h
  | .GeneratorExp .., _, h => by cases h
  | .Await .., _, h => by cases h
  | .Yield .., _, h => by cases h
  | .YieldFrom .., _, h => by cases h
  | .Compare .., _, h => by cases h
  | .Call .., _, h => by cases h
  | .FormattedValue .., _, h => by cases h
  | .JoinedStr .., _, h => by cases h
  | .Constant .., _, h => by cases h
  | .Attribute .., _, h => by cases h
  | .Subscript .., _, h => by cases h
  | .Starred .., _, h => by cases h
  | .List .., _, h => by cases h
  | .Slice .., _, h => by cases h
theorem snd_tgs : ∀ {es : List Expr} {ts : List Tg}, tgsOf c es = some ts → PGs X es (gTs X.K ts) ∧ (assignEach es X.env).length = ts.length ∧ (assignEach es X.env).findIdx? (·.1) = none
  | [], ts, h => by
    cases h
    exact ⟨pgs_nil, rfl, rfl⟩
  | e :: es, ts, h => by
    unfold tgsOf at h
    split at h
    · cases h
    · rename_i hs
      split at h
      · rename_i t us e1 e2
        cases h
        obtain ⟨h1, h2, h3⟩ := snd_tgs e2
        have hs : isStar e = false := by simpa using hs
        have ha : assignEach (e :: es) X.env = (false, assign e X.env) :: assignEach es X.env := by cases e <;> first | rfl | cases hs
        refine ⟨pgs_cons (snd_tg e1) h1 (by rw [ha]; rfl), by rw [ha, List.length_cons, h2, List.length_cons], ?_⟩
        rw [ha, List.findIdx?_cons, h3]
        rfl
      · cases h
end
/-! ### what is walked -/
theorem snd_i (tg : Expr) : ∀ e, PI X tg e (tI (gx X T) W (evI r c tg e)) := by
  intro e
  unfold evI
  split
  · rename_i x p a pos
    split
    · exact pi_er
    · rename_i hs
      rw [Bool.or_eq_true, not_or, Bool.not_eq_true, Bool.not_eq_true] at hs
      split
      · rename_i h
        obtain ⟨rfl, h1, h2⟩ := h
        exact pi_rg1E (gl_of ok h1) (ok.bn _ h2) (snd_es ok R [a]) (star_eq hs.1)
      · split
        · rename_i h
          obtain ⟨rfl, h1, h2⟩ := h
          split
          · exact pi_enE (gl_of ok h1) (ok.bn _ h2) (snd_es ok R [a]) (star_eq hs.1)
          · exact pi_er
        · exact pi_seqE (R.e X T W c k ok _)
  · rename_i x p a b pos
    split
    · exact pi_er
    · rename_i hs
      rw [Bool.or_eq_true, not_or, Bool.not_eq_true, Bool.not_eq_true] at hs
      split
      · rename_i h
        obtain ⟨rfl, h1, h2⟩ := h
        exact pi_rg2E (gl_of ok h1) (ok.bn _ h2) (snd_es ok R [a, b]) (by rw [star_eq hs.1, star_eq hs.2]; rfl) (by rw [star_eq hs.2]; rfl)
      · split
        · rename_i h
          obtain ⟨rfl, h1, h2⟩ := h
          split
          · exact pi_zlE (gl_of ok h1) (ok.bn _ h2) (snd_es ok R [a, b]) (star_eq hs.1) (star_any (by rw [List.any_cons, hs.2]; rfl))
          · exact pi_er
        · exact pi_seqE (R.e X T W c k ok _)
  · rename_i e m apos cpos
    split
    · rename_i hm
      subst hm
      split
      · split
        · rename_i h
          rw [Bool.and_eq_true, Bool.not_eq_true'] at h
          exact pi_itE (R.e X T W c k ok e) (base_eq h.2) h.1
        · exact pi_er
      · exact pi_er
    · exact pi_seqE (R.e X T W c k ok _)
  · split
    · exact pi_er
    · exact pi_seqE (R.e X T W c k ok _)
end
end Ev

set_option Elab.async false
set_option linter.all false
set_option maxRecDepth 100000
set_option maxHeartbeats 4000000
namespace Ev
open PySem PySem.Spec PyProof.Rows L2
section
variable {X : Cx} {T : TX} {W : WX} {c : Cfg} {k : Nat} {r : Rec} {ι : List Addr} {H : Hp} {μ : Mem}
/-! ### isinstance -/
theorem ty_rel {K : PySem.W.Frag} {mg} {d : D} {v : V} {ty : String} (w : Wd ⟨K, mg, T⟩ ι μ H) (rd : RelD ⟨K, mg, T⟩ ι H d v) (h : tyOfD μ d = some ty) : TyX K H v (.type ty) := by
  cases rd with
  | non => cases h; exact .base .non
  | bl b => cases h; exact .base (.bl b)
  | int i => cases h; exact .base (.int i)
  | str x => cases h; exact .base (.str x)
  | tup h1 q =>
    cases h
    rcases h1 with (h1 | ⟨o, h1⟩) | ⟨o, its, n, h1, h2, _⟩
    · exact .base (.tup h1)
    · exact .fTuple h1
    · exact .kTuple h1 h2
  | fl h1 q =>
    cases h
    rcases h1.sq with (h1 | ⟨o, h1⟩) | ⟨o, its, n, h1, h2, _⟩
    · exact .base (.lst h1)
    · exact .base (.frz h1)
    · exact .kList h1 h2
  | loc e =>
    unfold tyOfD at h
    dsimp only at h
    split at h
    · rename_i xs e1
      cases h
      obtain ⟨a, vs, e2, _, l, _⟩ := w.lst (.loc e) (lstAt_some e1)
      cases e2
      exact .base (.lst l)
    · cases h
  | gl _ => cases h
  | rw _ => cases h
def tysL : List String := ["NoneType", "bool", "int", "str", "tuple", "list"]
def tysR : List String := ["int", "bool", "str", "list", "tuple"]
theorem kit_tab : ∀ a ∈ tysL, ∀ b ∈ tysR, kitB a b = some (isaB a b) := by decide +kernel
theorem ty_in {d : D} {ty : String} (h : tyOfD μ d = some ty) : ty ∈ tysL := by
  unfold tyOfD at h
  split at h <;> first
    | (cases h; simp [tysL]; done)
    | (split at h <;> first | (cases h; simp [tysL]; done) | cases h)
    | cases h
theorem bt_in {x : Str} {t : String} (h : btTab.lookup x = some t) : t ∈ tysR := by
  unfold btTab at h
  have := PySem.mem_of_lookup h
  simp only [List.mem_cons, Prod.mk.injEq, List.not_mem_nil, or_false] at this
  rcases this with ⟨_, rfl⟩ | ⟨_, rfl⟩ | ⟨_, rfl⟩ | ⟨_, rfl⟩ | ⟨_, rfl⟩ <;> simp [tysR]
theorem bt_boot {x : Str} {t : String} (h : btTab.lookup x = some t) : bootBuiltins x = some (.type t) := by
  unfold btTab at h
  have := PySem.mem_of_lookup h
  simp only [List.mem_cons, Prod.mk.injEq, List.not_mem_nil, or_false] at this
  rcases this with ⟨rfl, rfl⟩ | ⟨rfl, rfl⟩ | ⟨rfl, rfl⟩ | ⟨rfl, rfl⟩ | ⟨rfl, rfl⟩ <;> decide +kernel
theorem ct_boot {x : Str} {t : String} (h : ctTab.lookup x = some t) : bootBuiltins x = some (.type t) := by
  unfold ctTab at h
  have := PySem.mem_of_lookup h
  simp only [List.mem_cons, Prod.mk.injEq, List.not_mem_nil, or_false] at this
  rcases this with ⟨rfl, rfl⟩ | ⟨rfl, rfl⟩ | ⟨rfl, rfl⟩ | ⟨rfl, rfl⟩ | ⟨rfl, rfl⟩ | ⟨rfl, rfl⟩ <;> decide +kernel
theorem bf_boot {x : Str} {t : String} (h : bfTab.lookup x = some t) : bootBuiltins x = some (.builtin t) := by
  unfold bfTab at h
  have := PySem.mem_of_lookup h
  simp only [List.mem_cons, Prod.mk.injEq, List.not_mem_nil, or_false] at this
  rcases this with ⟨rfl, rfl⟩ | ⟨rfl, rfl⟩ | ⟨rfl, rfl⟩ | ⟨rfl, rfl⟩ | ⟨rfl, rfl⟩ | ⟨rfl, rfl⟩ | ⟨rfl, rfl⟩ | ⟨rfl, rfl⟩ <;> decide +kernel
theorem pe_tyname {x : Str} {t : String} {p : Pos} (hg : Gl X x) (hm : X.mg x = none) (h : btTab.lookup x = some t) (hb : badName x = false) : PE X (.Name x p) (tC (.ty t)) :=
  pe_bltn hg hm (bt_boot h) rfl (bad_dbg hb).2.2 (bad_dbg hb).1
theorem pe_isi1 {a : Expr} {fa : E} {x : Str} {t : String} {p q pos : Pos} (hg : Gl X "isinstance") (hm : X.mg "isinstance" = none) (hgx : Gl X x) (hmx : X.mg x = none) (h : btTab.lookup x = some t) (hb : badName x = false) (ha : PE X a (tE (gx X T) W fa)) (hs : isStar a = false) :
    PE X (.Call (.Name "isinstance" p) [a, .Name x q] [] pos) (tE (gx X T) W (eUn (isiD [t]) fa)) :=
  (pe_callB call_isi hg hm boot_isinstance (pa_cons ha (pa_cons (pe_tyname hgx hmx h hb) pa_nil rfl) (star_eq hs)) (by decide) (by decide) (star_eq hs) rfl).weak fun σ H Q hq => tE_mono (tE_un hq) fun y H1 ⟨d, μ, ι, w, rd, q⟩ => by
    unfold isiD at q
    cases e : tyOfD μ d with
    | none => rw [e] at q; exact q.elim
    | some ty =>
      rw [e] at q
      refine ⟨y, .ty t, .type ty, .type t, isaB ty t, rfl, .ty t, ty_rel w rd e, kit_ty (kit_tab ty (ty_in e) t (bt_in h)), ?_⟩
      have q : Don (gx X T) ι H1 Q (some (.bl ([t].any (isaB ty)), μ)) := q
      rw [List.any_cons, List.any_nil, Bool.or_false] at q
      exact Don.val w (.bl _) q
theorem pe_isi2 {a : Expr} {fa : E} {x y : Str} {t u : String} {kk : Nat} {p q q1 q2 pos : Pos} (hg : Gl X "isinstance") (hm : X.mg "isinstance" = none) (hgx : Gl X x) (hmx : X.mg x = none) (h : btTab.lookup x = some t) (hb : badName x = false) (hgy : Gl X y) (hmy : X.mg y = none) (hy : btTab.lookup y = some u) (hby : badName y = false) (ha : PE X a (tE (gx X T) W fa)) (hs : isStar a = false) :
    PE X (.Call (.Name "isinstance" p) [a, .Tuple [.Name x q1, .Name y q2] kk q] [] pos) (tE (gx X T) W (eUn (isiD [t, u]) fa)) :=
  (pe_callB call_isiT hg hm boot_isinstance (pa_cons ha (pa_cons (pe_tup (pa_cons (pe_tyname hgx hmx h hb) (pa_cons (pe_tyname hgy hmy hy hby) pa_nil rfl) rfl)) pa_nil rfl) (star_eq hs)) (by decide) (by decide) (star_eq hs) rfl).weak fun σ H Q hq => tE_mono (tE_un hq) fun z H1 ⟨d, μ, ι, w, rd, q⟩ => by
    refine ⟨by show 2 ≤ sizeLine; rw [sizeLine_eq]; decide, fun p hp => ?_⟩
    unfold isiD at q
    cases e : tyOfD μ d with
    | none => rw [e] at q; exact q.elim
    | some ty =>
      rw [e] at q
      have w2 := w.obj (o := .tup [.ty t, .ty u]) hp
      have g2 : Grow (gx X T) ι H1 ι (upd H1 p (.tup [.ty t, .ty u])) := .obj hp
      have q : Don (gx X T) ι H1 Q (some (.bl ([t, u].any (isaB ty)), μ)) := q
      refine ⟨z, p, [.ty t, .ty u], .type ty, [.type t, .type u], [t, u].any (isaB ty), rfl, upd_same, .cons (.ty t) (.cons (.ty u) .nil), ty_rel w2 (rd.grow w g2) e, ?_, Don.val w2 (.bl _) (q.grow g2)⟩
      have k1 := kit_ty (K := X.K) (kit_tab ty (ty_in e) t (bt_in h))
      have k2 := kit_ty (K := X.K) (kit_tab ty (ty_in e) u (bt_in hy))
      rw [List.any_cons, List.any_cons, List.any_nil, Bool.or_false]
      cases hb1 : isaB ty t with
      | true =>
        rw [hb1] at k1
        exact kitAny_cons k1 (fun z => by cases z) fun _ => rfl
      | false =>
        rw [hb1] at k1
        refine kitAny_cons k1 (fun _ => ?_) (fun z => by cases z)
        refine kitAny_cons k2 (fun z => ?_) fun z => ?_
        · rw [z]; exact kitAny_nil
        · rw [z]; rfl
/-! ### a comprehension's block -/
theorem blk_ok (ok : XOk X T W c k) {scope : Scope} {own : List (Str × Nat)} (b : BlkOk X.N X.env.scope scope own) (s : Shared) (H : Hp) (C : Addr) (cl : List (Str × Addr)) (fp : List Addr) :
    XOk (X.blk s H scope (compEnvC scope cl C X.env) fp) T (fun _ _ _ _ => False) { c with sc := relS scope c.sc, st := scope.names, law := none, lk := false } k where
  N := ok.N
  nd := ok.nd
  sc := by
    show relabel scope X.env = relS scope c.sc
    rw [← ok.sc]
    rfl
  fk := b.kind
  calm := ok.calm
  room1 := ok.room1
  wt := ok.wt
  mn := ok.mn
  tk := fun _ _ ⟨_, _, _, _, _, _, _, _, _, _, _, _, _, _, _, _, z⟩ => z.elim
  pass := PassesOwn.never
  st := fun x hx => by
    have hx : locK (scope.names.lookup x) = true := hx
    unfold locK at hx
    have keep : ∀ {kd : NameKind}, kd ≠ .free → scope.names.lookup x = some kd → (relabel scope X.env).names.lookup x = some kd := fun {kd} hk hl => lookup_relS_keep (sc := X.env.scope) hk hl
    split at hx
    · rename_i e
      exact ⟨.inl (keep (by decide) e), .inr (keep (by decide) e)⟩
    · rename_i e
      exact ⟨.inr (keep (by decide) e), .inl (by show (scope.names.lookup x == some NameKind.cell) = true; rw [e]; rfl)⟩
    · cases hx
  call := ok.call
  gv := ok.gv
  bn := ok.bn
  exc := ok.exc
  law := fun _ h => by cases h
  key := fun h => by cases h
variable (ok : XOk X T W c k) (R : RecOk r)
include ok R
theorem snd_lc (elt tg iter : Expr) (ifs : List Expr) (scope : Scope) (pos : Pos) : PE X (.ListComp elt [⟨tg, iter, ifs, 0⟩] scope pos) (tE (gx X T) W (evLc r c elt tg iter ifs scope)) := by
  unfold evLc
  dsimp only
  split
  · rename_i h
    rw [Bool.and_eq_true, Bool.not_eq_true'] at h
    have b : BlkOk X.N X.env.scope scope (ownOf c.N scope.names) := by
      rw [ok.N, ok.sc]
      exact blkOk_by h.1
    split
    · rename_i t e
      have K := fun s H C cl fp => blk_ok ok b s H C cl fp
      split
      · exact pe_lcE ok.calm ok.nd (snd_i ok R tg iter) b (fun s H C cl fp => snd_tg (K s H C cl fp) e) (fun s H C cl fp => pts_nilE) (fun s H C cl fp => R.e _ T _ _ k (K s H C cl fp) elt) (set_eq h.2)
      · exact pe_lcE ok.calm ok.nd (snd_i ok R tg iter) b (fun s H C cl fp => snd_tg (K s H C cl fp) e) (fun s H C cl fp => ⟨fun pins s σ H Q I hw => (pts_one (R.t _ T _ _ k (K _ _ _ _ _) _)).run pins s σ H Q I hw⟩) (fun s H C cl fp => R.e _ T _ _ k (K s H C cl fp) elt) (set_eq h.2)
      · exact pe_er
    · exact pe_er
  · exact pe_er
/-- y = [..] -/
theorem snd_asgLc {x : Str} {p spos : Pos} {t : Tg} (elt tg iter : Expr) (ifs : List Expr) (scope : Scope) (pos : Pos) (ht : tgOf c (.Name x p) = some t) (hsw : swapsWith (.ListComp elt [⟨tg, iter, ifs, 0⟩] scope pos) (some (.Name x p)) spos.line X.env = pure true) (hl : X.env.scope.names.lookup x = some .local) :
    PS X (.Assign [.Name x p] (.ListComp elt [⟨tg, iter, ifs, 0⟩] scope pos) spos) (tS (gx X T) W (sSet t (evLc r c elt tg iter ifs scope))) := by
  unfold tgOf at ht
  cases e0 : c.sto x with
  | none => rw [e0] at ht; cases ht
  | some i =>
    rw [e0] at ht
    cases ht
    unfold Cfg.sto at e0
    split at e0
    · have hi : X.N[i]? = some x := by rw [ok.N]; exact slot_get e0
      unfold evLc
      dsimp only
      split
      · rename_i h
        rw [Bool.and_eq_true, Bool.not_eq_true'] at h
        have b : BlkOk X.N X.env.scope scope (ownOf c.N scope.names) := by
          rw [ok.N, ok.sc]
          exact blkOk_by h.1
        split
        · rename_i t e
          have K := fun s H C cl fp => blk_ok ok b s H C cl fp
          split
          · exact ps_lcE ok.calm ok.nd hi hl hsw (snd_i ok R tg iter) b (fun s H C cl fp => snd_tg (K s H C cl fp) e) (fun s H C cl fp => pts_nilE) (fun s H C cl fp => R.e _ T _ _ k (K s H C cl fp) elt) (set_eq h.2)
          · exact ps_lcE ok.calm ok.nd hi hl hsw (snd_i ok R tg iter) b (fun s H C cl fp => snd_tg (K s H C cl fp) e) (fun s H C cl fp => ⟨fun pins s σ H Q I hw => (pts_one (R.t _ T _ _ k (K _ _ _ _ _) _)).run pins s σ H Q I hw⟩) (fun s H C cl fp => R.e _ T _ _ k (K s H C cl fp) elt) (set_eq h.2)
          · exact ⟨fun _ _ _ _ _ _ ⟨_, _, _, _, _, q⟩ => q.elim⟩
        · exact ⟨fun _ _ _ _ _ _ ⟨_, _, _, _, _, q⟩ => q.elim⟩
      · exact ⟨fun _ _ _ _ _ _ ⟨_, _, _, _, _, q⟩ => q.elim⟩
    · cases e0
end
end Ev

set_option Elab.async false
set_option linter.all false
set_option maxRecDepth 100000
set_option maxHeartbeats 4000000
namespace Ev
open PySem PySem.Spec PyProof.Rows L2
section
variable {X : Cx} {T : TX} {W : WX} {c : Cfg} {k : Nat} {r : Rec} {ι : List Addr} {H : Hp} {μ : Mem}
theorem bi_ok2 (hc : X.calm = true) (hu : X.A.units + 64 < cLine) {n : String} {p : List D → Mem → O} (h : biD2 n = some p) : CallR X (.builtin n) (rn (gx X T) p) := by
  unfold biD2 at h
  split at h
  · rename_i e
    subst e
    cases h
    exact sorted_ok hc hu
  · exact bi_ok hc h
theorem ty_ok2 (wt : T.w = X.w) (hc : X.calm = true) (hu : X.A.units + 64 < cLine) {n : String} {p : List D → Mem → O} (h : tyD2 n = some p) : CallR X (.type n) (rn (gx X T) p) := by
  unfold tyD2 at h
  split at h
  · rename_i e
    subst e
    cases h
    exact dict_ok wt hc hu
  · split at h
    · rename_i e
      subst e
      cases h
      exact listD_ok2 wt hc
    · exact ty_ok h
variable (ok : XOk X T W c k) (R : RecOk r)
include ok R
theorem snd_meth (o : Expr) (m : Str) (apos cpos : Pos) (a : Expr) (es : List Expr) (hline : (apos.endLine == cpos.line) = true) : PE X (.Call (.Attribute o m apos) (a :: es) [] cpos) (tE (gx X T) W (evMeth r c o m a es)) := by
  unfold evMeth
  split
  · exact pe_er
  · rename_i h
    simp only [Bool.or_eq_true, not_or, Bool.not_eq_true, decide_eq_true_eq] at h
    obtain ⟨⟨⟨h1, h2⟩, h3⟩, h4⟩ := h
    have hf : ((backTo cpos (starEach (a :: es) X.env)).all (fun x => !x.1) && (backToKw cpos (keywordEach [] X.env)).all (fun x => x.1.isSome)
      && decide ((a :: es).length + ([] : List Keyword).length + (if ([] : List Keyword).isEmpty then 0 else 1) < 30)) = true := by
      rw [star_all (by rw [List.any_cons, h1, h2]; rfl)]
      rw [show (backToKw cpos (keywordEach [] X.env)).all (fun x => x.1.isSome) = true from rfl]
      simp only [Bool.true_and, decide_eq_true_eq, List.length_cons, List.length_nil, List.isEmpty_nil, if_true]
      omega
    have ho := R.e X T W c k ok o
    have ha := snd_es ok R (a :: es)
    have b := base_eq (m := m) (env := X.env) (w := eval o X.env) h3
    split
    · rename_i e; subst e
      exact pe_mtE (.inl rfl) PySem.F.plainAttrs_list PySem.F.slot_list_append PySem.F.type_list_append append_ok ho ha b hf hline (star_eq h1) (star_any h2)
    · split
      · rename_i e; subst e
        exact pe_mtE (.inl rfl) PySem.F.plainAttrs_list PySem.F.slot_list_extend PySem.F.type_list_extend extend_ok ho ha b hf hline (star_eq h1) (star_any h2)
      · split
        · rename_i e; subst e
          exact pe_mtE (.inr rfl) PySem.F.plainAttrs_str PySem.F.slot_str_count PySem.F.type_str_count count_ok ho ha b hf hline (star_eq h1) (star_any h2)
        · split
          · rename_i e; subst e
            exact pe_mtE (.inr rfl) PySem.F.plainAttrs_str PySem.F.slot_str_split PySem.F.type_str_split split_ok ho ha b hf hline (star_eq h1) (star_any h2)
          · split
            · rename_i e; subst e
              refine ((pe_mtE (T₀ := T) (.inr rfl) PySem.F.plainAttrs_str PySem.F.slot_str_index PySem.F.type_str_index (indexS_ok ok.calm) ho ha b hf hline (star_eq h1) (star_any h2)).or (pe_mtE (T₀ := T) (.inl rfl) PySem.F.plainAttrs_list PySem.F.slot_list_index PySem.F.type_list_index indexL_ok ho ha b hf hline (star_eq h1) (star_any h2))).weak fun σ H Q ⟨ρ, μ, ι, w, ev, q⟩ => ?_
              dsimp only at q
              split at q
              · exact .inl ⟨ρ, μ, ι, w, ev, q⟩
              · exact .inr ⟨ρ, μ, ι, w, ev, q⟩
            · split
              · rename_i e; subst e
                exact pe_mtE (.inl rfl) PySem.F.plainAttrs_list PySem.F.slot_list_pop PySem.F.type_list_pop pop_ok ho ha b hf hline (star_eq h1) (star_any h2)
              · split
                · rename_i e; subst e
                  exact pe_mdE ok.wt PySem.F.slot_dict_get PySem.F.type_dict_get (get_ok ok.wt ok.room.units) ho ha b hf hline (star_eq h1) (star_any h2)
                · split
                  · rename_i e; subst e
                    exact pe_mdE ok.wt PySem.F.slot_dict_setdefault PySem.F.type_dict_setdefault (setd_ok ok.wt ok.room.units) ho ha b hf hline (star_eq h1) (star_any h2)
                  · split
                    · rename_i e; subst e
                      exact pe_mtE (.inr rfl) PySem.F.plainAttrs_str PySem.F.slot_str_join PySem.F.type_str_join join_ok ho ha b hf hline (star_eq h1) (star_any h2)
                    · exact pe_er
theorem snd_meth0 (o : Expr) (m : Str) (apos cpos : Pos) (hline : (apos.endLine == cpos.line) = true) : PE X (.Call (.Attribute o m apos) [] [] cpos) (tE (gx X T) W (evMeth0 r c o m)) := by
  unfold evMeth0
  split
  · exact pe_er
  · rename_i h
    have ho := R.e X T W c k ok o
    have b := base_eq (m := m) (env := X.env) (w := eval o X.env) (by simpa using h)
    split
    · rename_i e; subst e
      exact pe_mt0E (.inl rfl) PySem.F.plainAttrs_list PySem.F.slot_list_pop PySem.F.type_list_pop pop_ok ho b hline
    · split
      · rename_i e; subst e
        exact pe_mt0E (.inr rfl) PySem.F.plainAttrs_str PySem.F.slot_str_upper PySem.F.type_str_upper upper_ok ho b hline
      · exact pe_er
theorem snd_key (x : Str) (p p1 p2 p3 lpos kpos pos : Pos) (a : Expr) (kw : Option Str) (ps : Arguments) (y : Str) (n : Int) (kk : Nat) (scope : Scope) :
    PE X (.Call (.Name x p) [a] [⟨kw, .Lambda ps (.Subscript (.Name y p1) (.Constant (.int n) kk p2) p3) scope lpos, kpos⟩] pos) (tE (gx X T) W (evKey r c x a kw ps y n scope)) := by
  unfold evKey
  split
  · split
    · rename_i h
      simp only [Bool.and_eq_true, Bool.not_eq_true', decide_eq_true_eq] at h
      obtain ⟨⟨⟨⟨⟨⟨⟨⟨h1, h2⟩, h3⟩, h4⟩, h5⟩, h6⟩, h7⟩, h8⟩, h9⟩ := h
      subst h3 h4 h5 h6
      exact ok.key h1 a (r.e c a) _ _ p p1 p2 p3 lpos kpos pos scope n kk (R.e X T W c k ok a) (star_eq h2) h7 (gl_of ok h8) (ok.bn _ h9)
    · exact pe_er
  · exact pe_er
omit R in
theorem lam_ok {Y : Cx} {V : WX} {scope : Scope} (y1 : Y.prog = X.prog) (y2 : Y.w = X.w) (y3 : Y.K = X.K) (y4 : Y.mg = X.mg) (y5 : Y.base = X.base) (y6 : Y.N = X.N) (y7 : Y.env.scope = scope) (yk : scope.kind = .function) (y8 : Y.calm = true) (y10 : Room (k + 1) Y.A) (y11 : L2N.Takes Y V) (y12 : PassesOwn (model Y.prog Y.w) Y.A Y.env Y.xe) :
    XOk Y T V { c with sc := scope, st := [], law := none, lk := false } k where
  N := y6.trans ok.N
  nd := by rw [y6]; exact ok.nd
  sc := y7
  fk := by rw [y7]; exact yk
  calm := y8
  room1 := y10
  wt := by rw [y2]; exact ok.wt
  mn := fun x a h => ok.mn x a (by rw [← y4]; exact h)
  tk := y11
  pass := y12
  st := fun x h => by cases h
  call := by rw [y1, y2, y3, y4, y5]; exact ok.call
  gv := fun x d h => by
    obtain ⟨u, v, h1, h2, h3⟩ := ok.gv x d h
    exact ⟨u, v, by rw [y4]; exact h1, h2, fun ι H => by show RelD ⟨Y.K, Y.mg, T⟩ ι H d v; rw [y3, y4]; exact h3 ι H⟩
  bn := fun x h => by rw [y4]; exact ok.bn x h
  exc := fun x h => by rw [y3, y4]; exact ok.exc x h
  law := fun _ h => by cases h
  key := fun h => by cases h
omit ok R in
theorem init_key {x y : Str} (h : initTab.lookup x = some y) : mTab.lookup y = some (x, ("__init__" : Str)) := by
  unfold initTab at h
  rw [List.lookup_cons] at h
  split at h
  · rename_i e
    rw [eq_of_beq e]
    cases h
    rfl
  · rw [List.lookup_cons] at h
    split at h
    · rename_i e
      rw [eq_of_beq e]
      cases h
      rfl
    · cases h
theorem snd_call
    (x : Str) (p pos : Pos) (a : Expr) (es : List Expr) : PE X (.Call (.Name x p) (a :: es) [] pos) (tE (gx X T) W (evCall r c x a es)) := by
  unfold evCall
  split
  · exact pe_er
  · rename_i h
    simp only [Bool.or_eq_true, not_or, Bool.not_eq_true] at h
    obtain ⟨⟨h1, h2⟩, h3⟩ := h
    obtain ⟨d1, d2, d3⟩ := bad_dbg h2
    split
    · rename_i hv
      split
      · rename_i i e
        exact pe_callVE ok.mn ok.call ok.room ok.tk (by rw [ok.N]; exact slot_get e) (by rw [ok.sc]; exact vis_of hv) (snd_es ok R (a :: es)) d1 d2 (star_eq h1) (star_any h3)
      · exact pe_er
    · split
      · rename_i hg
        have hgl := gl_of ok hg
        split
        · rename_i hb
          split
          · rename_i e; subst e
            match es, h3 with
            | [kx], h3 =>
              dsimp only
              split
              · rename_i ts e1
                unfold clsOf at e1
                split at e1
                · rename_i y q
                  split at e1
                  · rename_i hy
                    rw [Bool.and_eq_true] at hy
                    cases e2 : btTab.lookup y with
                    | none => rw [e2] at e1; cases e1
                    | some t =>
                      rw [e2] at e1
                      cases e1
                      exact pe_isi1 hgl (ok.bn _ hb) (gl_of ok hy.1) (ok.bn _ hy.2) e2 (glb_of hy.1).2 (R.e X T W c k ok a) h1
                  · cases e1
                · rename_i y q1 z q2 kk q
                  split at e1
                  · rename_i hy
                    simp only [Bool.and_eq_true] at hy
                    split at e1
                    · rename_i t u e2 e3
                      cases e1
                      exact pe_isi2 hgl (ok.bn _ hb) (gl_of ok hy.1.1.1) (ok.bn _ hy.1.1.2) e2 (glb_of hy.1.1.1).2 (gl_of ok hy.1.2) (ok.bn _ hy.2) e3 (glb_of hy.1.2).2 (R.e X T W c k ok a) h1
                    · cases e1
                  · cases e1
                · cases e1
              · exact pe_er
            | [], h3 => exact pe_er
            | _ :: _ :: _, h3 => exact pe_er
          · split
            · rename_i n e
              split
              · rename_i p' e2
                exact (pe_bi (bi_ok2 ok.calm ok.room.units e2) hgl (ok.bn _ hb) (bf_boot e) (snd_es ok R (a :: es)) d3 d1 (star_eq h1) (star_any h3)).gc
              · exact pe_er
            · split
              · rename_i n e
                split
                · rename_i p' e2
                  exact (pe_ty (ty_ok2 ok.wt ok.calm ok.room.units e2) hgl (ok.bn _ hb) (ct_boot e) (snd_es ok R (a :: es)) d3 d1 (star_eq h1) (star_any h3)).gc
                · exact pe_er
              · exact pe_er
        · split
          · rename_i hl
            match a, es, h1, h3 with
            | .Lambda params body scope lp, [], h1, h3 =>
              dsimp only
              split
              · rename_i hh
                simp only [Bool.and_eq_true] at hh
                obtain ⟨⟨⟨⟨⟨⟨⟨g1, g2⟩, g3⟩, g4⟩, g5⟩, g6⟩, g7⟩, g8⟩ := hh
                refine ok.law x hl params body scope (r.e { c with sc := scope, st := [], law := none, lk := false } body) p lp pos (by rw [ok.sc]; exact g1) (List.isEmpty_iff.mp g2) (List.isEmpty_iff.mp g3) (Option.isNone_iff_eq_none.mp g4) (List.isEmpty_iff.mp g5) (List.isEmpty_iff.mp g6) (Option.isNone_iff_eq_none.mp g7) (List.isEmpty_iff.mp g8) hgl fun Y V y1 y2 y3 y4 y5 y6 y7 y8 y10 y11 y12 => ?_
                exact R.e Y T V _ k (lam_ok ok y1 y2 y3 y4 y5 y6 y7 (LamX.lamS_by g1).kind y8 y10 y11 y12) body
              · exact pe_er
            | .BoolOp .., _, _, _ => exact pe_er
            | .NamedExpr .., _, _, _ => exact pe_er
            | .BinOp .., _, _, _ => exact pe_er
            | .UnaryOp .., _, _, _ => exact pe_er
            | .IfExp .., _, _, _ => exact pe_er
            | .Dict .., _, _, _ => exact pe_er
            | .Set .., _, _, _ => exact pe_er
            | .ListComp .., _, _, _ => exact pe_er
            | .SetComp .., _, _, _ => exact pe_er
            | .DictComp .., _, _, _ => exact pe_er
            | .GeneratorExp .., _, _, _ => exact pe_er
            | .Await .., _, _, _ => exact pe_er
            | .Yield .., _, _, _ => exact pe_er
            | .YieldFrom .., _, _, _ => exact pe_er
            | .Compare .., _, _, _ => exact pe_er
            | .Call .., _, _, _ => exact pe_er
            | .FormattedValue .., _, _, _ => exact pe_er
            | .JoinedStr .., _, _, _ => exact pe_er
            | .Constant .., _, _, _ => exact pe_er
            | .Attribute .., _, _, _ => exact pe_er
            | .Subscript .., _, _, _ => exact pe_er
            | .Starred .., _, _, _ => exact pe_er
            | .Name .., _, _, _ => exact pe_er
            | .List .., _, _, _ => exact pe_er
            | .Tuple .., _, _, _ => exact pe_er
            | .Slice .., _, _, _ => exact pe_er
            | .Lambda .., _ :: _, _, _ => exact pe_er
          · split
            · rename_i y hy
              split
              · rename_i f e
                exact pe_makeD (init_key hy) (ok.call y f e) ok.room1 ok.tk hgl (snd_es ok R (a :: es)) d1 (star_eq h1) (star_any h3)
              · exact pe_er
            · split
              · exact pe_er
              · rename_i hx
                split
                · rename_i f e
                  exact pe_callD (Option.not_isSome_iff_eq_none.mp hx) (ok.call x f e) ok.room ok.tk hgl (snd_es ok R (a :: es)) d1 (star_eq h1) (star_any h3)
                · exact pe_er
      · exact pe_er
end
end Ev

set_option Elab.async false
set_option linter.all false
set_option maxRecDepth 100000
set_option maxHeartbeats 4000000
namespace Ev
open PySem PySem.Spec PyProof.Rows L2
section
variable {X : Cx} {T : TX} {W : WX} {c : Cfg} {k : Nat} {r : Rec} {ι : List Addr} {H : Hp} {μ : Mem}
/-! ### stores exchanged -/
theorem sw_eq {env : PySem.Env} {ts vs : List Expr} {k1 k2 : Nat} {p1 p2 : Pos} {res : Option (List Str)} (hb : env.scope.kind = .function) (h : swB env.scope.names ts vs = some res) : swappedStores [.Tuple ts k1 p1] (.Tuple vs k2 p2) env = pure res := by
  have hbk : env.blockKind = .function := by unfold Env.blockKind; rw [hb]; rfl
  unfold swB at h
  unfold swappedStores
  simp only [hbk]
  split at h
  · rename_i h1
    cases h
    have : (!(ts.length == 2 || ts.length == 3) || vs.length != ts.length || (ScopeKind.function != ScopeKind.function)) = true := by rw [h1]; rfl
    simp only [this, if_true]
  · rename_i h1
    have : (!(ts.length == 2 || ts.length == 3) || vs.length != ts.length || (ScopeKind.function != ScopeKind.function)) = false := by
      rw [Bool.not_eq_true] at h1
      rw [h1]; rfl
    simp only [this]
    rw [if_neg Bool.false_ne_true]
    split at h
    · rename_i h2; cases h; exact if_pos h2
    · rename_i h2
      refine (if_neg h2).trans ?_
      dsimp only at h
      split at h
      · rename_i h3; cases h; exact if_pos h3
      · rename_i h3
        refine (if_neg h3).trans ?_
        split at h
        · rename_i h4; cases h; exact if_pos h4
        · rename_i h4
          refine (if_neg h4).trans ?_
          split at h
          · cases h
          · rename_i h5
            cases h
            exact if_neg h5
theorem sw_none {env : PySem.Env} {ts : List Expr} {e : Expr} {k1 : Nat} {p1 : Pos} (h : ∀ vs k2 p2, e ≠ .Tuple vs k2 p2) : swappedStores [.Tuple ts k1 p1] e env = pure none := by
  cases e <;> first | rfl | exact absurd rfl (h _ _ _)
/-- a, b, c = x, y, z with plain local names -/
def tPar3 (i j l : Nat) (ta : TA) : TS := fun D σ H => ta σ H fun vs H1 => ∃ v w z, vs = [v, w, z] ∧ D.nx (((σ.set i (some v)).set j (some w)).set l (some z)) H1
theorem ps_par3 {i j l : Nat} {x y z : Str} {a b c : Expr} {ta : TA} {px py pz pt pos : Pos} {kt k2 pt2} (hc : X.calm = true) (hN : X.N.Nodup) (hi : X.N[i]? = some x) (hj : X.N[j]? = some y) (hl : X.N[l]? = some z) (hij : i ≠ j) (hil : i ≠ l) (hjl : j ≠ l)
    (hx : X.env.scope.names.lookup x = some .local) (hy : X.env.scope.names.lookup y = some .local) (hz : X.env.scope.names.lookup z = some .local) (ha : PA X [a, b, c] ta)
    (hw : swappedStores [.Tuple [.Name x px, .Name y py, .Name z pz] kt pt] (.Tuple [a, b, c] k2 pt2) X.env = pure (some [x, y, z]))
    (hs : swapsWithSole [.Tuple [.Name x px, .Name y py, .Name z pz] kt pt] (.Tuple [a, b, c] k2 pt2) pos.line X.env = pure false := by rfl) :
    PS X (.Assign [.Tuple [.Name x px, .Name y py, .Name z pz] kt pt] (.Tuple [a, b, c] k2 pt2) pos) (tPar3 i j l ta) := by
  refine ⟨fun pins s σ H D I h => ?_⟩
  rw [exec_Assign_arm]
  refine wpAny_bind (wpAny_standAt ?_)
  rw [hs]
  refine wpAny_bind (wpAny_pure ?_)
  rw [if_neg (by decide)]
  refine wpAny_bind (Tuple_ (thn (ha.run _ pins s σ H _ I h) fun us s1 ⟨vs, H1, I1, r1, q1⟩ => ?_))
  obtain ⟨v, w, zz, e1, q1⟩ := q1
  subst e1
  obtain ⟨u1, u2, u3, rfl, rv, rw', rz⟩ : ∃ u1 u2 u3, us = [u1, u2, u3] ∧ RelV v u1 ∧ RelV w u2 ∧ RelV zz u3 := by
    cases r1 with
    | cons p q =>
      cases q with
      | cons p' q' =>
        cases q' with
        | cons p'' q'' =>
          cases q''
          exact ⟨_, _, _, rfl, p, p', p''⟩
  refine wpAny_newObj_type ?_ (by show 3 ≤ sizeLine; decide)
  have I2 : L2.Inv X pins σ H1 { s1 with heap := s1.heap.push { cls := .type "tuple", data := .seq [u1, u2, u3].toArray } } := I1.kept (t' := s1.toks) fun b o e => Heap.get?_push_of_some _ e
  rw [hw]
  refine wpAny_bind (wpAny_pure ?_)
  show wpAny (model X.prog X.w) X.A (do rule "assign.swapped-stores"; let items ← unpackItems (.ref s1.heap.objs.size) 3 none; assignInOrder [fun v => bindName X.env z v, fun v => bindName X.env y v, fun v => bindName X.env x v] items.reverse; pure Flow.next) _ _ _
  refine wpAny_bind (wpAny_rule (wpAny_bind (unpackItems_tuple (items := #[u1, u2, u3]) (I.ok.hd hc) (IsTup.new s1.heap _) fun h' hx' => ?_)))
  have I3 := I2.kept (h' := h') (t' := s1.toks) fun b o e => hx' b o (Nat.ne_of_lt (Heap.lt_size e)) e
  show wpAny _ _ (assignInOrder [fun v => bindName X.env z v, fun v => bindName X.env y v, fun v => bindName X.env x v] [u3, u2, u1] >>= fun _ => pure Flow.next) _ _ _
  refine wpAny_bind (assignInOrder_cons (wpAny_bindName (store_ok I3 hN hl (.inl hz) rz (fun s2 I4 => ?_) (.inr hz))))
  refine assignInOrder_cons (wpAny_bindName (store_ok I4 hN hj (.inl hy) rw' (fun s3 I5 => ?_) (.inr hy)))
  refine assignInOrder_cons (wpAny_bindName (store_ok I5 hN hi (.inl hx) rv (fun s4 I6 => assignInOrder_nil (wpAny_pure ?_)) (.inr hx)))
  rw [List.set_comm _ _ (Ne.symm hij), List.set_comm _ _ (Ne.symm hil), List.set_comm _ _ (Ne.symm hjl)] at I6
  exact ⟨_, H1, I6, q1⟩
end
end Ev

set_option Elab.async false
set_option linter.all false
set_option maxRecDepth 100000
set_option maxHeartbeats 4000000
namespace Ev
open PySem PySem.Spec PyProof.Rows L2
section
variable {X : Cx} {T : TX} {W : WX} {c : Cfg} {k : Nat} {r : Rec} {ι : List Addr} {H : Hp} {μ : Mem} {G : Gc} {σ : St} {ρ : Env}
/-! ### f-strings -/
theorem pe_fmtE {a : Expr} {fa : E} {pos : Pos} (ha : PE X a (tE (gx X T) W fa)) : PE X (.FormattedValue a (-1) none pos) (tE (gx X T) W (eFmt fa)) := (pe_fmt ha).weak fun σ H Q h => tE_mono (tE_un h) fun x H1 ⟨d, μ, ι, w, r, q⟩ => by
  cases r with
  | str y =>
    have q : Don (gx X T) ι H1 Q (if y.length ≤ sizeLine then some (.str y, μ) else none) := q
    split at q
    · rename_i hz
      exact .inl ⟨y, rfl, hz, Don.val w (.str _) q⟩
    · exact q.elim
  | int i =>
    have q : Don (gx X T) ι H1 Q (match (if i.natAbs.log2 < 1920 then some (toString i : Str) else none) with | some y => if y.length ≤ sizeLine then some (.str y, μ) else none | none => none) := q
    split at q
    · rename_i y e
      split at e
      · rename_i hz
        cases e
        split at q
        · exact .inr ⟨i, rfl, hz, Don.val w (.str _) q⟩
        · exact q.elim
      · cases e
    · exact q.elim
  | _ => exact q.elim
/-- a text from parts -/
def PsY (G : Gc) (ι : List Addr) (H : Hp) (E : XK) (Q : Str → Hp → Prop) : R Str → Prop
  | .ok d μ' => ∀ H' ι', Grow G ι H ι' H' → Wd G ι' μ' H' → Q d H'
  | .ex x μ' => ∀ H' ι' cls od, Grow G ι H ι' H' → Wd G ι' μ' H' → ExR G x cls od H' → E cls od H'
  | .er => False
theorem PsY.grow {ι1 : List Addr} {H1 : Hp} {E₀ : XK} {Q : Str → Hp → Prop} {r : R Str} (g : Grow G ι H ι1 H1) (h : PsY G ι H E₀ Q r) : PsY G ι1 H1 E₀ Q r := by
  cases r with
  | ok d m => exact fun H' ι' g' w => h H' ι' (g.trans g') w
  | ex x m => exact fun H' ι' cls od g' w r => h H' ι' cls od (g.trans g') w r
  | er => exact h
theorem tJs_go : ∀ (fs : List E) (acc : Str) {ρ : Env} {μ : Mem} {ι : List Addr} {σ : St} {H : Hp} {Q : Str → Hp → Prop}, Wd G ι μ H → EnvR G ι H ρ σ → PsY G ι H (fun c d H' => W c d σ H') Q (joinGo fs acc ρ μ) → tJs (fs.map (tE G W)) acc σ H Q
  | [], acc, ρ, μ, ι, σ, H, Q, w, ev, h => h H ι .refl w
  | f :: fs, acc, ρ, μ, ι, σ, H, Q, w, ev, h => by
    refine ⟨ρ, μ, ι, w, ev, ?_⟩
    unfold joinGo at h
    cases hf : f ρ μ with
    | ex x m => rw [hf] at h; exact h
    | er => rw [hf] at h; exact h
    | ok d m =>
      rw [hf] at h
      intro v H' ι' g' w' rv
      cases rv with
      | str y =>
        have h : PsY G ι H (fun c d H' => W c d σ H') Q (if (acc ++ y).length ≤ sizeLine then joinGo fs (acc ++ y) ρ m else .er) := h
        split at h
        · rename_i hz
          exact ⟨y, rfl, hz, tJs_go fs (acc ++ y) w' (ev.grow w g') (PsY.grow g' h)⟩
        · exact h.elim
      | _ => exact h.elim
variable (ok : XOk X T W c k) (R : RecOk r)
include ok R
theorem snd_pj : ∀ es, PJ X es ((evL r c es).map (tE (gx X T) W))
  | [] => .nil
  | e :: es => .cons (R.e X T W c k ok e) (snd_pj es)
theorem snd_join (a b : Expr) (rest : List Expr) (pos : Pos) : PE X (.JoinedStr (a :: b :: rest) pos) (tE (gx X T) W (eJoin (evL r c (a :: b :: rest)))) := (pe_joined (snd_pj ok R (a :: b :: rest))).weak fun σ H Q ⟨ρ, μ, ι, w, ev, q⟩ => by
  refine tJs_go (G := gx X T) _ Str.empty w ev ?_
  unfold eJoin at q
  cases hf : joinGo (evL r c (a :: b :: rest)) Str.empty ρ μ with
  | ok y m => rw [hf] at q; exact fun H' ι' g' w' => q (.str y) H' ι' g' w' (.str y)
  | ex x m => rw [hf] at q; exact q
  | er => rw [hf] at q; exact q
omit ok R in
theorem setArg_some {a b : Expr} (h : setArg a = some b) : ∃ q pos, a = .Call (.Name "set" q) [b] [] pos := by
  unfold setArg at h
  split at h
  · split at h
    · rename_i e
      subst e
      cases h
      exact ⟨_, _, rfl⟩
    · cases h
  · cases h
theorem snd_call1 (x : Str) (p pos : Pos) (a : Expr) (es : List Expr) : PE X (.Call (.Name x p) (a :: es) [] pos) (tE (gx X T) W (evCall1 r c x a es)) := by
  unfold evCall1
  split
  · rename_i b e
    obtain ⟨q, pos', rfl⟩ := setArg_some e
    split
    · rename_i h
      obtain ⟨rfl, h⟩ := h
      simp only [Bool.and_eq_true, Bool.not_eq_true'] at h
      obtain ⟨⟨⟨⟨h1, h2⟩, h3⟩, h4⟩, h5⟩ := h
      exact pe_srtSet ok.calm (gl_of ok h1) (ok.bn _ h2) (gl_of ok h3) (ok.bn _ h4) (R.e X T W c k ok b) (star_eq h5)
    · exact pe_er
  · exact snd_call ok R _ _ _ _ _
/-! ### the steps -/
theorem snd_E
    (e : Expr) : PE X e (tE (gx X T) W (stepE r c e)) := by
  have hu := ok.room.units
  have re := fun e => R.e X T W c k ok e
  have rt := fun e => R.t X T W c k ok e
  unfold stepE
  split
  · -- constants
    rename_i kk _ _
    cases kk with
    | none => exact pe_k pe_non fun _ _ => .non
    | bool b => exact pe_k pe_bl fun _ _ => .bl b
    | int i => exact pe_k pe_int fun _ _ => .int i
    | str x => exact pe_k pe_str fun _ _ => .str x
    | _ => exact pe_er
  · -- names
    rename_i x p
    split
    · rename_i i h
      obtain ⟨h1, h2, h3⟩ := loc_of h
      exact pe_v (pe_var (by rw [ok.N]; exact h1) (by rw [ok.sc]; exact h2) (bad_dbg h3).1 (bad_dbg h3).2.1)
    · split
      · rename_i hg
        split
        · rename_i d hd
          obtain ⟨u, v, h1, h2, h3⟩ := ok.gv x d hd
          exact pe_k (pe_glob (gl_of ok hg) h1 h2 (bad_dbg (glb_of hg).2).1) h3
        · exact pe_er
      · exact pe_er
  · exact pe_one (re _)
  · exact pe_anE (re _) (re _)
  · exact pe_orE (re _) (re _)
  · exact pe_bin _ (re _) (re _)
  · exact pe_noE (re _)
  · exact pe_negE (re _)
  · exact pe_ifE (rt _) (re _) (re _)
  · split
    · exact pe_er
    · rename_i h
      exact (pe_cmpE ok.wt hu _ (re _) (re _) (marks_eq (by simpa using h))).gc
  · split
    · exact pe_er
    · rename_i h
      exact (pe_chainE ok.wt hu _ _ (re _) (re _) (re _) (marks2_eq (by simpa using h))).gc
  · exact pe_tupE (snd_es ok R _)
  · exact pe_lstE (snd_es ok R _)
  · exact pe_newD ok.wt
  · exact pe_dct1 ok.wt hu (re _) (re _)
  · exact pe_revE (re _)
  · exact pe_slE (re _) (snd_o ok R _) (snd_o ok R _)
  · split
    · exact pe_er
    · rename_i h
      exact (pe_ixE ok.wt hu (re _) (re _) (plainIx_eq (by simpa using h))).gc
  · exact snd_lc ok R _ _ _ _ _ _
  · exact pe_fmtE (re _)
  · exact snd_join ok R _ _ _ _
  · exact pe_joined1 (re _)
  · exact snd_call1 ok R _ _ _ _ _
  · split
    · rename_i h
      exact snd_meth ok R _ _ _ _ _ _ h
    · exact pe_er
  · split
    · rename_i h
      exact snd_meth0 ok R _ _ _ _ h
    · exact pe_er
  · exact snd_key ok R _ _ _ _ _ _ _ _ _ _ _ _ _ _ _
  · exact pe_er
theorem snd_W (op : BoolOp) (es : List Expr) (pos : Pos) : PW X (.BoolOp op es pos) (tT (gx X T) W (stepT r c (.BoolOp op es pos))) := by
  have rt := fun e => R.t X T W c k ok e
  have rw' := fun op es pos => R.w X T W c k ok op es pos
  match op, es with
  | .And, [] => exact ⟨fun _ _ _ _ _ _ _ ⟨_, _, _, _, _, q⟩ => q.elim⟩
  | .Or, [] => exact ⟨fun _ _ _ _ _ _ _ ⟨_, _, _, _, _, q⟩ => q.elim⟩
  | .And, [a] => exact pw_and1 (rt a)
  | .Or, [a] => exact pw_or1 (rt a)
  | .And, a :: b :: rest => exact pw_anE (rt a) (rw' .And (b :: rest) pos)
  | .Or, a :: b :: rest => exact pw_orE (rt a) (rw' .Or (b :: rest) pos)
theorem snd_T (e : Expr) : PT X e (tT (gx X T) W (stepT r c e)) := by
  have hu := ok.room.units
  have re := fun e => R.e X T W c k ok e
  have rt := fun e => R.t X T W c k ok e
  cases e with
  | BoolOp op es pos => exact (snd_W ok R op es pos).pt
  | UnaryOp op a pos =>
    cases op with
    | Not => exact pt_no (rt _)
    | _ => exact pt_tru (re _) fun _ => rfl
  | IfExp _ _ _ _ => exact pt_er
  | Compare a ops cs pos =>
    match ops, cs with
    | [op], [b] =>
      show PT X _ (tT (gx X T) W (if isSetE b then tEr else tBl (gE (eBin (cmpD op) (r.e c a) (r.e c b)))))
      split
      · exact pt_er
      · rename_i h
        exact pt_cmpG ok.wt hu _ (re _) (re _) (marks_eq (by simpa using h))
    | [op, op'], [b, d] =>
      show PT X _ (tT (gx X T) W (if isSetE d then tEr else tBl (gE (eChain (cmpD op) (cmpD op') (r.e c a) (r.e c b) (r.e c d)))))
      split
      · exact pt_er
      · rename_i h
        exact pt_chainG ok.wt hu _ _ (re _) (re _) (re _) (marks2_eq (by simpa using h))
    | [], [] => exact pt_er
    | [], _ :: _ => exact pt_er
    | [_], [] => exact pt_er
    | [_], _ :: _ :: _ => exact pt_er
    | [_, _], [] => exact pt_er
    | [_, _], [_] => exact pt_er
    | [_, _], _ :: _ :: _ :: _ => exact pt_er
    | _ :: _ :: _ :: _, [] => exact pt_er
    | _ :: _ :: _ :: _, [_] => exact pt_er
    | _ :: _ :: _ :: _, _ :: _ :: _ => exact pt_er
  | _ => exact pt_tru (re _) fun _ => rfl
theorem snd_Ss : ∀ ss, PSs X ss (tS (gx X T) W (evSs r c ss))
  | [] => pss_nilE
  | s :: ss => pss_consE (R.s X T W c k ok s) (snd_Ss ss)
omit R in
theorem tgName_inv {x : Str} {p : Pos} {t : Tg} (h : tgOf c (.Name x p) = some t) : ∃ i, t = .nm i ∧ X.N[i]? = some x := by
  unfold tgOf at h
  cases e : c.sto x with
  | none => rw [e] at h; cases h
  | some i =>
    rw [e] at h
    cases h
    unfold Cfg.sto at e
    split at e
    · exact ⟨i, rfl, by rw [ok.N]; exact slot_get e⟩
    · cases e
omit R in
theorem tgT2 {x y : Str} {px py p : Pos} {kk : Nat} {t : Tg} (h : tgOf c (.Tuple [.Name x px, .Name y py] kk p) = some t) : ∃ i j, t = .tp [.nm i, .nm j] ∧ X.N[i]? = some x ∧ X.N[j]? = some y := by
  unfold tgOf tgsOf tgsOf tgsOf at h
  cases e1 : tgOf c (.Name x px) with
  | none => simp [e1] at h
  | some t1 =>
    cases e2 : tgOf c (.Name y py) with
    | none => simp [e1, e2] at h
    | some t2 =>
      obtain ⟨i, rfl, hi⟩ := tgName_inv ok e1
      obtain ⟨j, rfl, hj⟩ := tgName_inv ok e2
      refine ⟨i, j, ?_, hi, hj⟩
      simp [e1, e2, isStar] at h
      exact h.symm
omit R in
theorem tgT3 {x y z : Str} {px py pz p : Pos} {kk : Nat} {t : Tg} (h : tgOf c (.Tuple [.Name x px, .Name y py, .Name z pz] kk p) = some t) : ∃ i j l, t = .tp [.nm i, .nm j, .nm l] ∧ X.N[i]? = some x ∧ X.N[j]? = some y ∧ X.N[l]? = some z := by
  unfold tgOf tgsOf tgsOf tgsOf tgsOf at h
  cases e1 : tgOf c (.Name x px) with
  | none => simp [e1] at h
  | some t1 =>
    cases e2 : tgOf c (.Name y py) with
    | none => simp [e1, e2] at h
    | some t2 =>
      cases e3 : tgOf c (.Name z pz) with
      | none => simp [e1, e2, e3] at h
      | some t3 =>
        obtain ⟨i, rfl, hi⟩ := tgName_inv ok e1
        obtain ⟨j, rfl, hj⟩ := tgName_inv ok e2
        obtain ⟨l, rfl, hl⟩ := tgName_inv ok e3
        refine ⟨i, j, l, ?_, hi, hj, hl⟩
        simp [e1, e2, e3, isStar] at h
        exact h.symm
omit ok R in
theorem par2_weak {i j : Nat} {fs : Es} {D : Ends} {σ : St} {H : Hp} (h : tS G W (sSet (.tp [.nm i, .nm j]) (eApp tupP fs)) D σ H) : tPar i j (tEs G W fs) D σ H := by
  obtain ⟨ρ, μ, ι, w, ev, q⟩ := h
  refine ⟨ρ, μ, ι, w, ev, ?_⟩
  unfold sSet eApp at q
  cases hf : fs ρ μ with
  | ex x m => rw [hf] at q; exact fun H' ι' cls od g' w' r => q σ H' ι' cls od g' w' (ev.grow w g') r
  | er => rw [hf] at q; exact q
  | ok ds m =>
    rw [hf] at q
    intro vs H' ι' g' w' r
    have q : PsS G ι H W D ((tupP ds m).r.st ρ fun d μ1 => match Tg.set μ1 (.tp [.nm i, .nm j]) d ρ with | some ρ' => .nx ρ' μ1 | none => .er) := q
    unfold tupP at q
    split at q
    · have q : PsS G ι H W D (match Tg.sets m [.nm i, .nm j] ds ρ with | some ρ' => .nx ρ' m | none => .er) := q
      split at q
      · rename_i ρ' e
        match ds, r, e with
        | [d1, d2], .cons r1 (.cons r2 .nil), e =>
          simp only [Tg.sets, Tg.set] at e
          split at e
          · rename_i ρ1 e1
            split at e1
            · cases e1
              split at e
              · rename_i ρ2 e2
                split at e2
                · cases e2
                  cases e
                  exact ⟨_, _, rfl, q _ H' ι' g' w' (((ev.grow w g').set r1 i).set r2 j)⟩
                · cases e2
              · cases e
            · cases e1
          · cases e
        | [], _, e => simp [Tg.sets] at e
        | [_], _, e => simp only [Tg.sets, Tg.set] at e; split at e <;> cases e
        | _ :: _ :: _ :: _, _, e =>
          simp only [Tg.sets, Tg.set] at e
          split at e
          · split at e <;> cases e
          · cases e
      · exact q.elim
    · exact q.elim
omit ok R in
theorem par3_weak {i j l : Nat} {fs : Es} {D : Ends} {σ : St} {H : Hp} (h : tS G W (sSet (.tp [.nm i, .nm j, .nm l]) (eApp tupP fs)) D σ H) : tPar3 i j l (tEs G W fs) D σ H := by
  obtain ⟨ρ, μ, ι, w, ev, q⟩ := h
  refine ⟨ρ, μ, ι, w, ev, ?_⟩
  unfold sSet eApp at q
  cases hf : fs ρ μ with
  | ex x m => rw [hf] at q; exact fun H' ι' cls od g' w' r => q σ H' ι' cls od g' w' (ev.grow w g') r
  | er => rw [hf] at q; exact q
  | ok ds m =>
    rw [hf] at q
    intro vs H' ι' g' w' r
    have q : PsS G ι H W D ((tupP ds m).r.st ρ fun d μ1 => match Tg.set μ1 (.tp [.nm i, .nm j, .nm l]) d ρ with | some ρ' => .nx ρ' μ1 | none => .er) := q
    unfold tupP at q
    split at q
    · have q : PsS G ι H W D (match Tg.sets m [.nm i, .nm j, .nm l] ds ρ with | some ρ' => .nx ρ' m | none => .er) := q
      split at q
      · rename_i ρ' e
        match ds, r, e with
        | [d1, d2, d3], .cons r1 (.cons r2 (.cons r3 .nil)), e =>
          simp only [Tg.sets, Tg.set] at e
          split at e
          · rename_i ρ1 e1
            split at e1
            · cases e1
              split at e
              · rename_i ρ2 e2
                split at e2
                · cases e2
                  split at e
                  · rename_i ρ3 e3
                    split at e3
                    · cases e3
                      cases e
                      exact ⟨_, _, _, rfl, q _ H' ι' g' w' ((((ev.grow w g').set r1 i).set r2 j).set r3 l)⟩
                    · cases e3
                  · cases e
                · cases e2
              · cases e
            · cases e1
          · cases e
        | [], _, e => simp [Tg.sets] at e
        | [_], _, e => simp only [Tg.sets, Tg.set] at e; split at e <;> cases e
        | [_, _], _, e =>
          simp only [Tg.sets, Tg.set] at e
          split at e
          · split at e <;> cases e
          · cases e
        | _ :: _ :: _ :: _ :: _, _, e =>
          simp only [Tg.sets, Tg.set] at e
          split at e
          · split at e
            · split at e <;> cases e
            · cases e
          · cases e
      · exact q.elim
    · exact q.elim
theorem snd_tgx : ∀ {es : List Expr} {ts : List TgX}, tgXs r c es = some ts → PGs X es (gXs X T W ts) ∧ (assignEach es X.env).length = ts.length ∧ (assignEach es X.env).findIdx? (·.1) = none
  | [], ts, h => by
    cases h
    exact ⟨pgs_nil, rfl, rfl⟩
  | e :: es, ts, h => by
    unfold tgXs at h
    split at h
    · rename_i e0
      cases e0
    · rename_i x p es' e0
      injection e0 with e1 e2
      subst e1 e2
      split at h
      · rename_i i us e1 e2
        cases h
        obtain ⟨h1, h2, h3⟩ := snd_tgx e2
        have hg : PG X (.Name x p) (gName i) := by
          unfold Cfg.sto at e1
          split at e1
          · rename_i hl
            obtain ⟨k1, k2⟩ := ok.st x hl
            exact pg_name ok.nd (by rw [ok.N]; exact slot_get e1) k1 k2
          · cases e1
        refine ⟨pgs_cons hg h1 rfl, by show (assignEach es X.env).length + 1 = us.length + 1; rw [h2], ?_⟩
        show List.findIdx? (·.1) ((false, _) :: assignEach es X.env) = none
        rw [List.findIdx?_cons, h3]
        rfl
      · cases h
    · rename_i o i p es' e0
      injection e0 with e1 e2
      subst e1 e2
      split at h
      · cases h
      · rename_i hi
        split at h
        · rename_i us e2
          cases h
          obtain ⟨h1, h2, h3⟩ := snd_tgx e2
          have hi : isSlice i = false := by simpa using hi
          have hg := pg_sub (R.e X T W c k ok o) (R.e X T W c k ok i) (put_ok (T₀ := T) ok.wt ok.room.units) (pos := p) (fun v => by cases i <;> first | rfl | cases hi)
          refine ⟨pgs_cons hg h1 rfl, by show (assignEach es X.env).length + 1 = us.length + 1; rw [h2], ?_⟩
          show List.findIdx? (·.1) ((false, _) :: assignEach es X.env) = none
          rw [List.findIdx?_cons, h3]
          rfl
        · cases h
    · cases h
theorem snd_S (hevlc : ∀ elt tg iter ifs scope pos, r.e c (.ListComp elt [⟨tg, iter, ifs, 0⟩] scope pos) = eEr ∨ ∃ r', RecOk r' ∧ r.e c (.ListComp elt [⟨tg, iter, ifs, 0⟩] scope pos) = evLc r' c elt tg iter ifs scope) (hevx : ∀ e, isComp e = true → (∀ elt tg iter ifs scope pos, e ≠ .ListComp elt [⟨tg, iter, ifs, 0⟩] scope pos) → r.e c e = eEr)
    (hevt : ∀ ts n p, r.e c (.Tuple ts n p) = eEr ∨ ∃ r', RecOk r' ∧ r.e c (.Tuple ts n p) = eApp tupP (evEs r' c ts)) (s : Stmt) : PS X s (tS (gx X T) W (stepS r c s)) := by
  have re := fun e => R.e X T W c k ok e
  have rt := fun e => R.t X T W c k ok e
  have noLc : ∀ {e : Expr} {st : Stmt} {t : Tg}, r.e c e = eEr → PS X st (tS (gx X T) W (sSet t (r.e c e))) := fun {e st t} h => by
    rw [h]
    exact ⟨fun _ _ _ _ _ _ ⟨_, _, _, _, _, q⟩ => q.elim⟩
  have nolc2 : ∀ {e : Expr} {t : Option Expr} {l : Nat}, isComp e = false → swapsWith e t l X.env = pure false := fun {e t l} h => by
    cases e <;> first | rfl | cases h
  unfold stepS
  split
  · exact ps_passE
  · exact ps_bkE
  · exact ps_ctE
  · exact ps_retNE
  · exact ps_retE (re _)
  · split
    · exact ps_er
    · rename_i h
      exact ps_exprE (re _) (nolc2 (by simpa using h))
  · exact ps_ifE (rt _) (snd_Ss ok R _) (snd_Ss ok R _)
  · exact ps_whileE ok.pass (rt _) (snd_Ss ok R _)
  · split
    · exact ps_er
    · rename_i h
      split
      · rename_i t ht
        exact ps_forE ok.pass ok.calm (snd_i ok R _ _) (snd_tg ok ht) (snd_Ss ok R _) (set_eq (by simpa using h))
      · exact ps_er
  · split
    · rename_i h
      rw [Bool.and_eq_true] at h
      exact ps_raiseE ok.calm ok.tk (ok.exc _ h.1) (gl_of ok h.2) (bad_dbg (glb_of h.2).2).1
    · exact ps_er
  · -- x = e
    rename_i x p e pos
    split
    · rename_i t ht
      by_cases hc : isComp e = true
      · by_cases hl : ∃ elt tg iter ifs scope pos, e = .ListComp elt [⟨tg, iter, ifs, 0⟩] scope pos
        · obtain ⟨elt, tg, iter, ifs, scope, p2, rfl⟩ := hl
          rcases hevlc elt tg iter ifs scope p2 with h | ⟨r', R', h⟩
          · exact noLc h
          · have hbk : X.env.blockKind = .function := by unfold Env.blockKind; rw [ok.fk]; rfl
            rw [h]
            cases hsw : (X.env.blockKind == .function && X.env.kindOf x == some .local && p.line == p2.line && !(scope.names.any fun (n, k) => n == x && (k == .local || k == .cell))) with
            | true =>
              have hsw' : swapsWith (.ListComp elt [⟨tg, iter, ifs, 0⟩] scope p2) (some (.Name x p)) pos.line X.env = pure true := by
                rw [← hsw]; rfl
              have hlo : X.env.scope.names.lookup x = some .local := by
                simp only [Bool.and_eq_true] at hsw
                exact eq_of_beq hsw.1.1.2
              exact snd_asgLc ok R' elt tg iter ifs scope p2 ht hsw' hlo
            | false =>
              have hsw' : swapsWith (.ListComp elt [⟨tg, iter, ifs, 0⟩] scope p2) (some (.Name x p)) pos.line X.env = pure false := by
                rw [← hsw]; rfl
              exact ps_setE (snd_lc ok R' elt tg iter ifs scope p2) (snd_tg ok ht) hsw' (by rfl) (by rfl)
        · exact noLc (hevx e hc fun elt tg iter ifs scope p2 h => hl ⟨elt, tg, iter, ifs, scope, p2, h⟩)
      · exact ps_setE (re e) (snd_tg ok ht) (show swapsWith e (some (.Name x p)) pos.line X.env = pure false from nolc2 (by simpa using hc)) (by cases e <;> rfl) (by rfl)
    · exact ps_er
  · -- a, b = e
    rename_i ts kk p e pos
    split
    · rename_i hsw
      split
      · rename_i t ht
        have hs1 : swapsWithSole [.Tuple ts kk p] e pos.line X.env = pure false := by
          show swapsWith e (some (.Tuple ts kk p)) pos.line X.env = pure false
          cases e <;> rfl
        by_cases he : ∃ vs k2 p2, e = .Tuple vs k2 p2
        · obtain ⟨vs, k2, p2, rfl⟩ := he
          unfold swOk at hsw
          dsimp only at hsw
          split at hsw
          · rename_i h
            rw [← ok.sc] at h
            exact ps_setE (re _) (snd_tg ok ht) hs1 (sw_eq ok.fk h) (by rfl)
          · rename_i ns h
            rw [← ok.sc] at h
            have hw := sw_eq (k1 := kk) (p1 := p) (k2 := k2) (p2 := p2) ok.fk h
            rcases hevt vs k2 p2 with h0 | ⟨r', R', h0⟩
            · exact noLc h0
            · rw [h0]
              split at hsw
              · rename_i x px y py a b
                simp only [Bool.and_eq_true, decide_eq_true_eq] at hsw
                obtain ⟨⟨⟨rfl, nxy⟩, hx⟩, hy⟩ := hsw
                obtain ⟨i, j, rfl, hi, hj⟩ := tgT2 ok ht
                have hij : i ≠ j := fun e => nxy (by rw [e, hj] at hi; cases hi; rfl)
                rw [← ok.sc] at hx hy
                exact (ps_par ok.calm ok.nd hi hj hij hx hy (snd_es ok R' [a, b]) hw).weak fun D σ H hh => par2_weak hh
              · rename_i x px y py z pz a b d
                simp only [Bool.and_eq_true, decide_eq_true_eq] at hsw
                obtain ⟨⟨⟨⟨rfl, nxy, nxz, nyz⟩, hx⟩, hy⟩, hz⟩ := hsw
                obtain ⟨i, j, l, rfl, hi, hj, hl⟩ := tgT3 ok ht
                have hij : i ≠ j := fun e => nxy (by rw [e, hj] at hi; cases hi; rfl)
                have hil : i ≠ l := fun e => nxz (by rw [e, hl] at hi; cases hi; rfl)
                have hjl : j ≠ l := fun e => nyz (by rw [e, hl] at hj; cases hj; rfl)
                rw [← ok.sc] at hx hy hz
                exact (ps_par3 ok.calm ok.nd hi hj hl hij hil hjl hx hy hz (snd_es ok R' [a, b, d]) hw).weak fun D σ H hh => par3_weak hh
              · cases hsw
          · cases hsw
        · exact ps_setE (re e) (snd_tg ok ht) hs1 (sw_none fun vs k2 p2 h => he ⟨vs, k2, p2, h⟩) (by rfl)
      · split
        · rename_i us hu
          have hs1 : swapsWithSole [.Tuple ts kk p] e pos.line X.env = pure false := by
            show swapsWith e (some (.Tuple ts kk p)) pos.line X.env = pure false
            cases e <;> rfl
          obtain ⟨q1, q2, q3⟩ := snd_tgx ok R hu
          split
          · rename_i hsn
            by_cases he : ∃ vs k2 p2, e = .Tuple vs k2 p2
            · obtain ⟨vs, k2, p2, rfl⟩ := he
              unfold swOkN at hsn
              dsimp only at hsn
              split at hsn
              · rename_i h
                rw [← ok.sc] at h
                exact ps_setX ok.calm (re _) q1 q2 q3 hs1 (sw_eq ok.fk h) (by rfl)
              · cases hsn
            · exact ps_setX ok.calm (re e) q1 q2 q3 hs1 (sw_none fun vs k2 p2 h => he ⟨vs, k2, p2, h⟩) (by rfl)
          · exact ps_er
        · exact ps_er
    · exact ps_er
  · -- o[i] = e
    rename_i o i tp e pos
    split
    · exact ps_er
    · rename_i h
      have h : isSlice i = false := by simpa using h
      exact ps_subE ok.wt ok.room.units (re o) (re i) (re e) (by show swapsWith e (some (.Subscript o i tp)) pos.line X.env = pure false; cases e <;> rfl) (by cases e <;> rfl) (fun v => by cases i <;> first | rfl | cases h) (by rfl)
  · exact ps_er
end
theorem rec_ok : ∀ n, RecOk (recN n)
  | 0 => ⟨fun _ _ _ _ _ _ _ => pe_er, fun _ _ _ _ _ _ _ => pt_er, fun _ _ _ _ _ _ _ => ps_er, fun _ _ _ _ _ _ _ _ _ => ⟨fun _ _ _ _ _ _ _ ⟨_, _, _, _, _, q⟩ => q.elim⟩⟩
  | n + 1 => by
    have R := rec_ok n
    refine ⟨fun X T W c k ok e => snd_E ok R e, fun X T W c k ok e => snd_T ok R e, fun X T W c k ok s => ?_, fun X T W c k ok op es pos => snd_W ok R op es pos⟩
    refine snd_S ok R (fun elt tg iter ifs scope pos => ?_) (fun e h1 h2 => ?_) (fun ts k p => ?_) s
    · cases n with
      | zero => exact .inl rfl
      | succ m => exact .inr ⟨recN m, rec_ok m, rfl⟩
    · cases n with
      | zero => rfl
      | succ m =>
        show stepE (recN m) c e = eEr
        unfold stepE
        split <;> first
          | rfl
          | (cases h1; done)
          | exact absurd rfl (h2 _ _ _ _ _ _)
    · cases n with
      | zero => exact .inl rfl
      | succ m => exact .inr ⟨recN m, rec_ok m, rfl⟩
end Ev

set_option Elab.async false
set_option linter.all false
set_option maxRecDepth 100000
set_option maxHeartbeats 4000000
namespace Ev
open PySem PySem.Spec PyProof.Rows L2 HotX
/-! ### the ends of iterators while an exception is handled -/
section
variable {prog : Program} {w : World} {A : Around} {E : Value → Shared → Prop} {s : Shared}
theorem HotAt.ne {x1 b : Addr} {o : Obj} {h : Heap} (hot : HotAt A x1 h) (e : h.get? b = some o) (n : ∀ vs : Array Value, o.data = .fields vs → vs[2]? ≠ some .none) : x1 ≠ b := fun z => by
  obtain ⟨_, o1, vs, h1, d1, c1⟩ := hot
  rw [z, e] at h1
  cases h1
  exact n vs d1 c1
theorem HotAt.to {x1 it : Addr} {h h' : Heap} (hot : HotAt A x1 h) (ne : x1 ≠ it) (k : Heap.ExtBut it h h') : HotAt A x1 h' := by
  obtain ⟨hh, o1, vs, h1, d1, c1⟩ := hot
  exact ⟨hh, o1, vs, k _ _ ne h1, d1, c1⟩
theorem newStop_hot {α : Type} {x1 : Addr} {Q : α → Shared → Prop} (hot : HotAt A x1 s.heap)
    (hE : ∀ h' e, (∀ b o, s.heap.get? b = some o → h'.get? b = some o) → (∃ o, h'.get? e = some o ∧ o.cls = .type "StopIteration") → E (.ref e) { s with heap := h' }) :
    wpAny (model prog w) A (newExc (.type "StopIteration") [] >>= fun e => (raiseNew e : Sem α)) Q E s := by
  obtain ⟨hh, o1, vs1, h1, d1, c1⟩ := hot
  refine wpAny_bind ?_
  simp only [newExc, newTuple]
  refine wpAny_bind (wpAny_newObj_type ?_ (by size_fits))
  refine wpAny_bind (m := firstArgMember _ _) (wpAny_of_eq (a := Value.none) (by first | rfl | (simp only [firstArgMember]; rfl)) ?_)
  refine wpAny_newObj_type ?_ (by size_fits)
  refine raiseNew_hot ⟨hh, o1, vs1, Heap.get?_push_of_some _ (Heap.get?_push_of_some _ h1), d1, c1⟩ (Nat.ne_of_lt (Heap.lt_size (Heap.get?_push_of_some _ h1))) (Heap.get?_push_size _ rfl) rfl (by first | (simp; done) | (simp; omega) | (simp only [Array.size_append]; simp; omega)) ?_
  refine hE _ _ (fun b o e => ?_) ⟨_, Heap.get?_update_self _ (Heap.get?_push_size _ rfl) rfl, rfl⟩
  rw [Heap.get?_update_other _ _ (Nat.ne_of_gt (Heap.lt_size (Heap.get?_push_of_some _ e)))]
  exact Heap.get?_push_of_some _ (Heap.get?_push_of_some _ e)
theorem nextOf_list_end_hot {it l x1 : Addr} {i : Nat} {items} {Q : Value → Shared → Prop} (hot : HotAt A x1 s.heap)
    (hit : s.heap.IsListIter it l i) (hl : s.heap.IsList l items) (hx : items[i]? = none)
    (hE : ∀ h' e, Heap.ExtBut it s.heap h' → (∃ o, h'.get? e = some o ∧ o.cls = .type "StopIteration") → E (.ref e) { s with heap := h' }) :
    wpAny (model prog w) A (Builtin.SmallTypes.nextOf (.ref it)) Q E s := by
  obtain ⟨o, ho, hc, hd⟩ := id hit
  obtain ⟨ol, hol, _, nl, hdl⟩ := hl
  have hne : x1 ≠ it := HotAt.ne hot ho fun vs e => by
    rw [hd] at e
    cases e
    simp
  obtain ⟨hh, o1, vs1, h1, d1, c1⟩ := hot
  unfold Builtin.SmallTypes.nextOf
  refine wpAny_bind (wpAny_callSpecial?_slot (name := Str.ofString "__next__") hit.typeIs slot_listiter_next
    (wpAny_call_entry slot_listiter_next hit.typeIs entry_listiter_next ?_ (args_listiter_next _)))
  show wpAny _ _ (field (.ref it) 0 >>= _) _ _ s
  refine wpAny_bind (wpAny_field ho hd (x := .ref l) rfl ?_)
  show wpAny _ _ (if (Value.ref l == Value.none) = true then _ else _) _ _ s
  rw [if_neg (show ¬ ((Value.ref l == Value.none) = true) from Bool.false_ne_true)]
  show wpAny _ _ (field (.ref it) 1 >>= _) _ _ s
  refine wpAny_bind (wpAny_field ho hd (x := .int i 0) rfl ?_)
  show wpAny _ _ (seqItems? (.ref l) >>= _) _ _ s
  refine wpAny_bind (wpAny_seqItems hol hdl ?_)
  simp only [Int.toNat_natCast, hx]
  refine wpAny_bind (wpAny_rule (wpAny_bind (wpAny_setField ho hd (by simp) ?_)))
  have hs' := Heap.SameBut.update (h := s.heap) (a := it) (f := Obj.mapFields (·.setIfInBounds 0 Value.none))
  exact newStop_hot (HotAt.to ⟨hh, o1, vs1, h1, d1, c1⟩ hne hs'.extBut) fun h' e k he => hE h' e (fun b o hb q => k b o (hs'.extBut b o hb q)) he
theorem zip_next_end_hot {z TI TO i1 i2 l1 l2 x1 : Addr} {k1 k2 : Nat} {xs ys : Array Value} {a b : Value} {Q : Fin → Shared → Prop} (hot : HotAt A x1 s.heap) (D : ZipApart z TI TO i1 i2 l1 l2)
    (hz : IsZip s.heap z TI TO .none) (hTI : IsPair s.heap TI (.ref i1) (.ref i2)) (hTO : IsPair s.heap TO a b)
    (h1 : s.heap.IsListIter i1 l1 k1) (h2 : s.heap.IsListIter i2 l2 k2) (hl1 : s.heap.IsList l1 xs) (hl2 : s.heap.IsList l2 ys) (hend : xs[k1]? = none ∨ ys[k2]? = none)
    (hE : ∀ h' e, (∀ c o, c ≠ z → c ≠ TO → c ≠ i1 → c ≠ i2 → s.heap.get? c = some o → h'.get? c = some o) → (∃ o, h'.get? e = some o ∧ o.cls = .type "StopIteration") → E (.ref e) { s with heap := h' }) :
    wpAny (model prog w) A (Builtin.«zip.__next__» ⟨[.ref z], []⟩) Q E s := by
  have nz : x1 ≠ z := HotAt.ne hot hz fun vs e => by cases e; simp
  have nTO : x1 ≠ TO := HotAt.ne hot hTO fun vs e => by cases e
  have n1 : x1 ≠ i1 := by
    obtain ⟨o, e, _, d⟩ := id h1
    exact HotAt.ne hot e fun vs e => by rw [d] at e; cases e; simp
  show wpAny _ _ (field (.ref z) 2 >>= _) _ _ _
  refine wpAny_bind (wpAny_field hz rfl (x := .bool false) rfl ?_)
  show wpAny _ _ (field (.ref z) 3 >>= _) _ _ _
  refine wpAny_bind (wpAny_field hz rfl (x := .ref TI) rfl ?_)
  refine wpAny_bind (wpAny_seqItems hTI rfl ?_)
  show wpAny _ _ (Builtin.SmallTypes.ownedTupleIsFree (.ref z) >>= _) _ _ _
  refine wpAny_bind ?_
  unfold Builtin.SmallTypes.ownedTupleIsFree
  refine wpAny_bind (wpAny_field hz rfl (x := .none) rfl (wpAny_pure ?_))
  simp only [if_true]
  refine wpAny_bind (wpAny_rule ?_)
  refine wpAny_bind (wpAny_field hz rfl (x := .ref TO) rfl ?_)
  refine wpAny_bind (wpAny_setField_rec hz (by simp) fun h₁ hz₁ hs₁ => ?_)
  replace hz₁ : IsZip h₁ z TI TO .ellipsis := hz₁
  have hot₁ : HotAt A x1 h₁ := HotAt.to hot nz hs₁.extBut
  refine wpAny_bind ?_
  simp only [List.zipIdx_cons, List.zipIdx_nil, List.forIn_cons, List.forIn_nil]
  refine wpAny_bind (wpAny_bind (wpAny_onRaise ?_))
  show wpAny _ _ (Builtin.SmallTypes.nextOf (.ref i1) >>= _) _ _ _
  cases hx : xs[k1]? with
  | none =>
    refine wpAny_bind (nextOf_list_end_hot hot₁ (h1.extBut hs₁.extBut D.i1z) (hl1.extBut hs₁.extBut D.l1z) hx fun h₂ e hs₂ he => ?_)
    obtain ⟨oe, hoe, hce⟩ := he
    have hz₂ : IsZip h₂ z TI TO .ellipsis := hs₂ _ _ D.i1z.symm hz₁
    have hez : e ≠ z := fun x => by subst x; rw [hz₂] at hoe; cases hoe; simp at hce
    refine wpAny_setField_rec hz₂ (by simp) fun h₃ _ hs₃ => hE h₃ e (fun c o c1 _ c3 _ x => hs₃.extBut _ _ c1 (hs₂ _ _ c3 (hs₁.extBut _ _ c1 x))) ⟨oe, hs₃.extBut _ _ hez hoe, hce⟩
  | some x =>
    have hy : ys[k2]? = none := by rcases hend with h | h; rw [hx] at h; cases h; exact h
    refine wpAny_bind (wpAny_nextOf_list_item (h1.extBut hs₁.extBut D.i1z) (hl1.extBut hs₁.extBut D.l1z) hx fun h₂ h1₂ hs₂ => wpAny_pure ?_)
    have hTO₂ : IsPair h₂ TO a b := hs₂.extBut _ _ D.TOi1 (hs₁.extBut _ _ D.TOz hTO)
    refine wpAny_bind (wpAny_seqItems hTO₂ rfl ?_)
    refine wpAny_bind (wpAny_updateSeq_pair hTO₂ fun h₃ hTO₃ hs₃ => ?_)
    refine wpAny_bind (wpAny_letGo (wpAny_pure ?_))
    refine wpAny_bind (wpAny_bind (wpAny_onRaise ?_))
    have hot₃ : HotAt A x1 h₃ := HotAt.to (HotAt.to hot₁ n1 hs₂.extBut) nTO hs₃.extBut
    show wpAny _ _ (Builtin.SmallTypes.nextOf (.ref i2) >>= _) _ _ _
    refine wpAny_bind (nextOf_list_end_hot hot₃ (((h2.extBut hs₁.extBut D.i2z).extBut hs₂.extBut D.i12.symm).extBut hs₃.extBut D.TOi2.symm)
      (((hl2.extBut hs₁.extBut D.l2z).extBut hs₂.extBut D.l2i1).extBut hs₃.extBut D.l2TO) hy fun h₄ e hs₄ he => ?_)
    obtain ⟨oe, hoe, hce⟩ := he
    have hz₄ : IsZip h₄ z TI TO .ellipsis := hs₄ _ _ D.i2z.symm (hs₃.extBut _ _ D.TOz.symm (hs₂.extBut _ _ D.i1z.symm hz₁))
    have hez : e ≠ z := fun x => by subst x; rw [hz₄] at hoe; cases hoe; simp at hce
    refine wpAny_setField_rec hz₄ (by simp) fun h₅ _ hs₅ => hE h₅ e (fun c o c1 c2 c3 c4 x => hs₅.extBut _ _ c1 (hs₄ _ _ c4 (hs₃.extBut _ _ c2 (hs₂.extBut _ _ c3 (hs₁.extBut _ _ c1 x))))) ⟨oe, hs₅.extBut _ _ hez hoe, hce⟩
theorem pyNext_zip_end_hot {z TI TO i1 i2 l1 l2 x1 : Addr} {k1 k2 : Nat} {xs ys : Array Value} {a b : Value} {Q : Option Value → Shared → Prop} (hot : HotAt A x1 s.heap) (D : ZipApart z TI TO i1 i2 l1 l2)
    (hz : IsZip s.heap z TI TO .none) (hTI : IsPair s.heap TI (.ref i1) (.ref i2)) (hTO : IsPair s.heap TO a b)
    (h1 : s.heap.IsListIter i1 l1 k1) (h2 : s.heap.IsListIter i2 l2 k2) (hl1 : s.heap.IsList l1 xs) (hl2 : s.heap.IsList l2 ys) (hend : xs[k1]? = none ∨ ys[k2]? = none)
    (hQ : ∀ h', (∀ c o, c ≠ z → c ≠ TO → c ≠ i1 → c ≠ i2 → s.heap.get? c = some o → h'.get? c = some o) → Q none { s with heap := h' }) : wpAny (model prog w) A (pyNext (.ref z)) Q E s := by
  have hT : s.TypeIs (.ref z) "zip" := ⟨_, hz, rfl⟩
  unfold pyNext
  refine wpAny_bind (wpAny_attempt (wpAny_callSpecial?_slot (name := Str.ofString "__next__") hT F.slot_zip_next
    (wpAny_call_entry F.slot_zip_next hT F.entry_zip_next (zip_next_end_hot hot D hz hTI hTO h1 h2 hl1 hl2 hend fun h' e hk he => ?_) (F.args_zip_next_1 _))))
  obtain ⟨o, ho, hc⟩ := he
  refine wpAny_bind (wpAny_isInstance (T := "StopIteration") (b := true) ⟨o, ho, hc⟩ isSubtype_stop ?_)
  exact wpAny_pure (hQ _ hk)
/-! ### a tuple taken apart -/
theorem next_tuple_end_hot {it t x1 : Addr} {i : Nat} {items} {Q : Option Value → Shared → Prop} (hot : HotAt A x1 s.heap)
    (hit : IsTupIter s.heap it t i) (ht : IsTup s.heap t items) (hx : items[i]? = none)
    (hQ : ∀ h', Heap.ExtBut it s.heap h' → Q none { s with heap := h' }) : wpAny (model prog w) A (pyNext (.ref it)) Q E s := by
  obtain ⟨o, ho, hc, hd⟩ := id hit
  obtain ⟨ol, hol, _, nl, hdl⟩ := ht
  have hne : x1 ≠ it := HotAt.ne hot ho fun vs e => by
    rw [hd] at e
    cases e
    simp
  obtain ⟨hh, o1, vs1, h1, d1, c1⟩ := hot
  unfold pyNext
  refine wpAny_bind (wpAny_attempt (wpAny_callSpecial?_slot (name := Str.ofString "__next__") hit.typeIs slot_tupleiter_next
    (wpAny_call_entry slot_tupleiter_next hit.typeIs entry_tupleiter_next ?_ (args_tupleiter_next _))))
  show wpAny _ _ (field (.ref it) 0 >>= _) _ _ s
  refine wpAny_bind (wpAny_field ho hd (x := .ref t) rfl ?_)
  show wpAny _ _ (if (Value.ref t == Value.none) = true then _ else _) _ _ s
  rw [if_neg (show ¬ ((Value.ref t == Value.none) = true) from Bool.false_ne_true)]
  show wpAny _ _ (field (.ref it) 1 >>= _) _ _ s
  refine wpAny_bind (wpAny_field ho hd (x := .int i 0) rfl ?_)
  show wpAny _ _ (seqItems? (.ref t) >>= _) _ _ s
  refine wpAny_bind (wpAny_seqItems hol hdl ?_)
  simp only [Int.toNat_natCast, hx]
  refine wpAny_bind (wpAny_rule (wpAny_bind (wpAny_setField ho hd (by simp) ?_)))
  have hs' := Heap.SameBut.update (h := s.heap) (a := it) (f := Obj.mapFields (·.setIfInBounds 0 Value.none))
  refine newStop_hot (HotAt.to ⟨hh, o1, vs1, h1, d1, c1⟩ hne hs'.extBut) fun h' e k ⟨oe, h1, h2⟩ => ?_
  refine wpAny_bind (wpAny_isInstance (T := "StopIteration") (b := true) ⟨oe, h1, h2⟩ isSubtype_stop ?_)
  exact wpAny_pure (hQ _ fun b o hb q => k b o (hs'.extBut b o hb q))
theorem next_list_end_hot {it l x1 : Addr} {i : Nat} {items} {Q : Option Value → Shared → Prop} (hot : HotAt A x1 s.heap)
    (hit : s.heap.IsListIter it l i) (hl : s.heap.IsList l items) (hx : items[i]? = none)
    (hQ : ∀ h', Heap.ExtBut it s.heap h' → Q none { s with heap := h' }) : wpAny (model prog w) A (pyNext (.ref it)) Q E s := by
  obtain ⟨o, ho, hc, hd⟩ := id hit
  obtain ⟨ol, hol, _, nl, hdl⟩ := hl
  have hne : x1 ≠ it := HotAt.ne hot ho fun vs e => by
    rw [hd] at e
    cases e
    simp
  obtain ⟨hh, o1, vs1, h1, d1, c1⟩ := hot
  unfold pyNext
  refine wpAny_bind (wpAny_attempt (wpAny_callSpecial?_slot (name := Str.ofString "__next__") hit.typeIs slot_listiter_next
    (wpAny_call_entry slot_listiter_next hit.typeIs entry_listiter_next ?_ (args_listiter_next _))))
  show wpAny _ _ (field (.ref it) 0 >>= _) _ _ s
  refine wpAny_bind (wpAny_field ho hd (x := .ref l) rfl ?_)
  show wpAny _ _ (if (Value.ref l == Value.none) = true then _ else _) _ _ s
  rw [if_neg (show ¬ ((Value.ref l == Value.none) = true) from Bool.false_ne_true)]
  show wpAny _ _ (field (.ref it) 1 >>= _) _ _ s
  refine wpAny_bind (wpAny_field ho hd (x := .int i 0) rfl ?_)
  show wpAny _ _ (seqItems? (.ref l) >>= _) _ _ s
  refine wpAny_bind (wpAny_seqItems hol hdl ?_)
  simp only [Int.toNat_natCast, hx]
  refine wpAny_bind (wpAny_rule (wpAny_bind (wpAny_setField ho hd (by simp) ?_)))
  have hs' := Heap.SameBut.update (h := s.heap) (a := it) (f := Obj.mapFields (·.setIfInBounds 0 Value.none))
  refine newStop_hot (HotAt.to ⟨hh, o1, vs1, h1, d1, c1⟩ hne hs'.extBut) fun h' e k ⟨oe, h1, h2⟩ => ?_
  refine wpAny_bind (wpAny_isInstance (T := "StopIteration") (b := true) ⟨oe, h1, h2⟩ isSubtype_stop ?_)
  exact wpAny_pure (hQ _ fun b o hb q => k b o (hs'.extBut b o hb q))
theorem unpackItems_list_hot {t x1 : Addr} {items : Array Value} {Q : List Value → Shared → Prop} (hot : HotAt A x1 s.heap) (ht : s.heap.IsList t items)
    (hQ : ∀ h', Heap.ExtBut s.heap.objs.size s.heap h' → Q items.toList { s with heap := h' }) : wpAny (model prog w) A (unpackItems (.ref t) items.size none) Q E s := by
  have hlt : t ≠ s.heap.objs.size := by obtain ⟨o, ho, _⟩ := ht; exact Nat.ne_of_lt (Heap.lt_size ho)
  have hx1 : x1 ≠ s.heap.objs.size := by obtain ⟨_, o, _, ho, _⟩ := hot; exact Nat.ne_of_lt (Heap.lt_size ho)
  unfold unpackItems
  refine wpAny_bind ?_
  · unfold notIterableAtAll
    refine wpAny_bind (wpAny_specialOf ht.typeIs slot_list_iter.lookup ?_)
    refine wpAny_pure ?_
    simp only [Bool.false_eq_true, if_false]
    refine wpAny_bind (wpAny_holding (wpAny_pyIter_list ht ?_))
    refine wpAny_bind (wpAny_holding (PySem.W.kun_draw hlt items.size 0 _ _ ⟨_, Heap.get?_push_size _ rfl, rfl, rfl⟩ (ht.push _) (by omega) fun h₁ hit₁ hs₁ => ?_))
    have hall : List.take items.size (List.drop 0 items.toList) = items.toList := by
      rw [List.drop_zero]; exact List.take_of_length_le (by simp)
    rw [hall]
    rw [if_neg (by simp)]
    have ht₁ : h₁.IsList t items := (ht.push _).extBut hs₁.extBut hlt
    have hot₁ : HotAt A x1 h₁ := HotAt.to hot hx1 fun b o hb e => hs₁.extBut b o hb (Heap.get?_push_of_some _ e)
    refine wpAny_bind (wpAny_holding (next_list_end_hot hot₁ hit₁ ht₁ (by simp) fun h₂ he₂ => ?_))
    simp only [Option.isSome_none, Bool.false_eq_true, if_false]
    refine wpAny_pure (hQ h₂ fun b o hb e => he₂ b o hb (hs₁.extBut b o hb (Heap.get?_push_of_some _ e)))
theorem assign_Tuple_list_hot {env : PySem.Env} {elts : List Expr} {x1} {pos : Pos} {t x : Addr} {items : Array Value} {Q : Unit → Shared → Prop} (hot : HotAt A x s.heap) (ht : s.heap.IsList t items)
    (hn : (assignEach elts env).length = items.size) (hstar : (assignEach elts env).findIdx? (·.1) = none)
    (h : ∀ h', Heap.ExtBut s.heap.objs.size s.heap h' → wpAny (model prog w) A (assignInOrder ((assignEach elts env).map (·.2)) items.toList) Q E { s with heap := h' }) :
    wpAny (model prog w) A (assign (.Tuple elts x1 pos) env (.ref t)) Q E s := by
  rw [assign_Tuple]
  refine wpAny_bind (wpAny_standAt ?_)
  unfold unpack
  rw [hn, hstar]
  exact wpAny_bind (wpAny_holding (unpackItems_list_hot hot ht h))
theorem unpackItems_tuple_hot {t x1 : Addr} {items : Array Value} {Q : List Value → Shared → Prop} (hot : HotAt A x1 s.heap) (ht : IsTup s.heap t items)
    (hQ : ∀ h', Heap.ExtBut s.heap.objs.size s.heap h' → Q items.toList { s with heap := h' }) : wpAny (model prog w) A (unpackItems (.ref t) items.size none) Q E s := by
  have hlt : t ≠ s.heap.objs.size := by obtain ⟨o, ho, _⟩ := ht; exact Nat.ne_of_lt (Heap.lt_size ho)
  have hx1 : x1 ≠ s.heap.objs.size := by obtain ⟨_, o, _, ho, _⟩ := hot; exact Nat.ne_of_lt (Heap.lt_size ho)
  unfold unpackItems
  refine wpAny_bind ?_
  · unfold notIterableAtAll
    refine wpAny_bind (wpAny_specialOf ht.typeIs slot_tuple_iter.lookup ?_)
    refine wpAny_pure ?_
    simp only [Bool.false_eq_true, if_false]
    refine wpAny_bind (wpAny_holding (iter_tuple ht ?_))
    refine wpAny_bind (wpAny_holding (draw_tuple hlt items.size 0 _ _ ⟨_, Heap.get?_push_size _ rfl, rfl, rfl⟩ (ht.push _) (by omega) fun h₁ hit₁ hs₁ => ?_))
    have hall : List.take items.size (List.drop 0 items.toList) = items.toList := by
      rw [List.drop_zero]; exact List.take_of_length_le (by simp)
    rw [hall]
    rw [if_neg (by simp)]
    have ht₁ : IsTup h₁ t items := (ht.push _).extBut hs₁.extBut hlt
    have hot₁ : HotAt A x1 h₁ := HotAt.to hot hx1 fun b o hb e => hs₁.extBut b o hb (Heap.get?_push_of_some _ e)
    refine wpAny_bind (wpAny_holding (next_tuple_end_hot hot₁ hit₁ ht₁ (by simp) fun h₂ he₂ => ?_))
    simp only [Option.isSome_none, Bool.false_eq_true, if_false]
    refine wpAny_pure (hQ h₂ fun b o hb e => he₂ b o hb (hs₁.extBut b o hb (Heap.get?_push_of_some _ e)))
theorem assign_Tuple_tuple_hot {env : PySem.Env} {elts : List Expr} {x1} {pos : Pos} {t x : Addr} {items : Array Value} {Q : Unit → Shared → Prop} (hot : HotAt A x s.heap) (ht : IsTup s.heap t items)
    (hn : (assignEach elts env).length = items.size) (hstar : (assignEach elts env).findIdx? (·.1) = none)
    (h : ∀ h', Heap.ExtBut s.heap.objs.size s.heap h' → wpAny (model prog w) A (assignInOrder ((assignEach elts env).map (·.2)) items.toList) Q E { s with heap := h' }) :
    wpAny (model prog w) A (assign (.Tuple elts x1 pos) env (.ref t)) Q E s := by
  rw [assign_Tuple]
  refine wpAny_bind (wpAny_standAt ?_)
  unfold unpack
  rw [hn, hstar]
  exact wpAny_bind (wpAny_holding (unpackItems_tuple_hot hot ht h))
end
/-! ### the same for the rules: hotness as a premise at the state -/
def Hot (A : Around) (pins : List (Addr × Obj)) : Prop := ∃ p ∈ pins, L2H.Hot1 A p
theorem Hot.at {X : Cx} {pins : List (Addr × Obj)} {σ : St} {H : Hp} {s : Shared} (c : Hot X.A (X.pn ++ pins)) (I : Inv X pins σ H s) : ∃ x1, HotAt X.A x1 s.heap := by
  obtain ⟨p, hp, hh, v1, e1, c1⟩ := c
  exact ⟨p.1, hh, p.2, v1, (I.pin p hp).1, e1, c1⟩
theorem Hot.mono {A : Around} {l l' : List (Addr × Obj)} (h : Hot A l) (k : ∀ p ∈ l, p ∈ l') : Hot A l' := let ⟨p, hp, q⟩ := h; ⟨p, k p hp, q⟩
structure PGH (X : Cx) (tg : Expr) (t : TG) : Prop where
  run : ∀ (pins : List (Addr × Obj)) (s : Shared) (σ : St) (H : Hp) (v : V) (u : Value) (Q : St → Hp → Prop), Hot X.A (X.pn ++ pins) → Inv X pins σ H s → RelV v u → t v σ H Q →
    wpAny (model X.prog X.w) X.A (assign tg X.env u) (fun _ s' => ∃ σ' H', Inv X pins σ' H' s' ∧ Q σ' H') X.xe s
theorem pgH_tup {X : Cx} {es : List Expr} {k : Nat} {t : TGs} {n : Nat} {pos : Pos} (h : PGs X es t)
    (hn : (assignEach es X.env).length = n) (hst : (assignEach es X.env).findIdx? (·.1) = none) : PGH X (.Tuple es k pos) (gTup X.K n t) := by
  refine ⟨fun pins s σ H v u Q hot I r hw => ?_⟩
  obtain ⟨a, xs, e1, hq, hl, hw⟩ := hw
  subst e1
  cases r
  obtain ⟨its, rv, ht, hz⟩ := I.tuple hq
  obtain ⟨x1, ha⟩ := hot.at I
  refine assign_Tuple_tuple_hot ha ht (by simp [hn, ← hl, rv.length]) hst fun h' hx => ?_
  have I1 : Inv X pins σ H { s with heap := h' } := I.kept (t' := s.toks) fun b o e => hx b o (Nat.ne_of_lt (Heap.lt_size e)) e
  exact h.run pins _ σ H xs _ Q I1 (by simpa using rv) hw
theorem pgH_lst {X : Cx} {es : List Expr} {k : Nat} {t : TGs} {n : Nat} {pos : Pos} (h : PGs X es t)
    (hn : (assignEach es X.env).length = n) (hst : (assignEach es X.env).findIdx? (·.1) = none) : PGH X (.Tuple es k pos) (gLst X.K n t) := by
  refine ⟨fun pins s σ H v u Q hot I r hw => ?_⟩
  obtain ⟨a, xs, e1, hq, hl, hw⟩ := hw
  subst e1
  cases r
  obtain ⟨its, rv, pl, hz⟩ := I.list hq
  obtain ⟨x1, ha⟩ := hot.at I
  refine assign_Tuple_list_hot ha pl.isList (by simp [hn, ← hl, rv.length]) hst fun h' hx => ?_
  have I1 : Inv X pins σ H { s with heap := h' } := I.kept (t' := s.toks) fun b o e => hx b o (Nat.ne_of_lt (Heap.lt_size e)) e
  exact h.run pins _ σ H xs _ Q I1 (by simpa using rv) hw
theorem PGH.or {X : Cx} {tg : Expr} {t u : TG} (h : PGH X tg t) (h' : PGH X tg u) : PGH X tg (fun v σ H Q => t v σ H Q ∨ u v σ H Q) := ⟨fun pins s σ H v w Q hot I r q => q.elim (h.run pins s σ H v w Q hot I r) (h'.run pins s σ H v w Q hot I r)⟩
end Ev

set_option Elab.async false
set_option linter.all false
set_option maxRecDepth 100000
set_option maxHeartbeats 4000000
namespace Ev
open PySem PySem.Spec PyProof.Rows L2 HotX
structure TurnZ (P : Program) (w : World) (K : PySem.W.Frag) (tg : Expr) (J : It) (fp : List Addr) (it : Addr) (tn : Nat → Heap → Prop) : Prop where
  mem : it ∈ fp
  obj : ∀ i h, tn i h → ∀ b ∈ fp, ∃ o, h.get? b = some o ∧ ∀ v, o.data ≠ .cell v
  keep : ∀ i h h', tn i h → (∀ b ∈ fp, ∀ o, h.get? b = some o → h'.get? b = some o) → tn i h'
  item : ∀ (X : Cx), X.prog = P → X.w = w → X.K = K → ∀ (i : Nat) (pins : List (Addr × Obj)) (s : Shared) (σ : St) (H : Hp) (E : Value → Shared → Prop), Inv X pins σ H s → (∀ b ∈ fp, FpOk X pins H b) → tn i s.heap → J.go i H →
    wpAny (model P w) X.A (pyNext (.ref it)) (fun r s1 => ∃ u, r = some u ∧
      wpAny (model P w) X.A (letOwnedTupleGo tg (.ref it) u) (fun _ s2 => ∃ x H', Inv X pins σ H' s2 ∧ RelV x u ∧ J.yld i H x H' ∧ tn (i + 1) s2.heap ∧ ∀ b ∈ fp, H' b = none) E s1) E s
  done : ∀ (X : Cx), X.prog = P → X.w = w → X.K = K → ∀ (i : Nat) (pins : List (Addr × Obj)) (s : Shared) (σ : St) (H : Hp) (E : Value → Shared → Prop), (∃ x1, HotAt X.A x1 s.heap) → Inv X pins σ H s → (∀ b ∈ fp, FpOk X pins H b) → tn i s.heap → J.stop i H →
    wpAny (model P w) X.A (pyNext (.ref it)) (fun r s1 => r = none ∧ Inv X pins σ H s1) E s
  self : ∀ (A : Around) (i : Nat) (s : Shared) (Q : Value → Shared → Prop) (E : Value → Shared → Prop), tn i s.heap → Q (.ref it) s → wpAny (model P w) A (pyIter (.ref it)) Q E s
theorem turn_zipZ {P : Program} {w : World} {K : PySem.W.Frag} {elts : List Expr} {kk : Nat} {tpos : Pos} {a b z TI TO i1 i2 : Addr} (D : ZipApart z TI TO i1 i2 a b) :
    TurnZ P w K (.Tuple elts kk tpos) (Itz K a b) [z, TI, TO, i1, i2] z (fun i h => IsZip h z TI TO .none ∧ IsPair h TI (.ref i1) (.ref i2) ∧ (∃ x y, IsPair h TO x y) ∧ h.IsListIter i1 a i ∧ h.IsListIter i2 b i) where
  mem := by simp
  obj := fun i h st c hc => by
    obtain ⟨hz, hTI, ⟨x, y, hTO⟩, ⟨o1, e1, _, d1⟩, ⟨o2, e2, _, d2⟩⟩ := st
    have e' : c = z ∨ c = TI ∨ c = TO ∨ c = i1 ∨ c = i2 := by simpa using hc
    rcases e' with q | q | q | q | q
    · rw [q]; exact ⟨_, hz, fun v q => nomatch q⟩
    · rw [q]; exact ⟨_, hTI, fun v q => nomatch q⟩
    · rw [q]; exact ⟨_, hTO, fun v q => nomatch q⟩
    · rw [q]; exact ⟨o1, e1, fun v q => by rw [d1] at q; cases q⟩
    · rw [q]; exact ⟨o2, e2, fun v q => by rw [d2] at q; cases q⟩
  keep := fun i h h' st k => by
    obtain ⟨hz, hTI, ⟨x, y, hTO⟩, h1, h2⟩ := st
    exact ⟨k z (by simp) _ hz, k TI (by simp) _ hTI, ⟨x, y, k TO (by simp) _ hTO⟩, h1.at fun o q => k i1 (by simp) o q, h2.at fun o q => k i2 (by simp) o q⟩
  item := by
    intro X hP hw hK i pins s σ H E I hf st hg
    subst hP hw hK
    obtain ⟨hz, hTI, ⟨x0, y0, hTO⟩, h1, h2⟩ := st
    obtain ⟨xs, ys, x, y, hqx, hqy, hx, hy⟩ := hg
    obtain ⟨its, rv, p, _⟩ := I.list hqx
    obtain ⟨its2, rv2, p2, _⟩ := I.list hqy
    obtain ⟨u, hu, ru⟩ := rv.get hx
    obtain ⟨u2, hu2, ru2⟩ := rv2.get hy
    have hzl : z < s.heap.objs.size := Heap.lt_size hz
    refine wpAny_pyNext_zip_item D hz hTI hTO h1 h2 p.isList p2.isList (x := u) (y := u2) (by simpa using hu) (by simpa using hu2) fun h' z' TO' h1' h2' hT hsz hk => ?_
    refine ⟨_, rfl, wpAny_letOwnedTupleGo_zip (s := { s with heap := h' }) z' fun h'' z'' sb => ?_⟩
    have hT2 : h''.get? s.heap.objs.size = some { cls := .type "tuple", data := .seq #[u, u2] } := (sb.2 _ (Nat.ne_of_gt hzl)).trans hT
    have new : ObjOk X.prog X.w (upd H s.heap.objs.size (.tup [x, y])) h'' s.heap.objs.size (.tup [x, y]) :=
      ⟨by show 2 ≤ sizeLine; decide, [u, u2], .cons ru (.cons ru2 .nil), ⟨_, hT2, rfl, _, rfl⟩⟩
    have I1 : Inv X pins σ (upd H s.heap.objs.size (.tup [x, y])) { s with heap := h'' } :=
      I.turnedNew (t' := s.toks) (ch := [z, TI, TO, i1, i2]) (fun c o hb q => (sb.2 c (fun q' => hb (by simp [q']))).trans (hk c o (fun q' => hb (by simp [q'])) (fun q' => hb (by simp [q'])) (fun q' => hb (by simp [q'])) (fun q' => hb (by simp [q'])) q)) hf (Nat.le_refl _) new
    refine ⟨.ref s.heap.objs.size, _, I1, rfl, ⟨_, x, y, rfl, I.hok.fresh (Nat.le_refl _), rfl, fun l hl => by rw [I.list_inj hl hqx]; exact hx, fun l hl => by rw [I.list_inj hl hqy]; exact hy⟩, ⟨z'', ?_, ⟨u, u2, ?_⟩, ?_, ?_⟩, fun c hcm => ?_⟩
    · exact (sb.2 _ D.TIz).trans (hk _ _ D.TIz D.TITO D.TIi1 D.TIi2 hTI)
    · exact (sb.2 _ D.TOz).trans TO'
    · exact h1'.at fun o q => (sb.2 _ D.i1z).trans q
    · exact h2'.at fun o q => (sb.2 _ D.i2z).trans q
    · have hlt : c < s.heap.objs.size := by
        have e' : c = z ∨ c = TI ∨ c = TO ∨ c = i1 ∨ c = i2 := by simpa using hcm
        rcases e' with q | q | q | q | q
        · rw [q]; exact hzl
        · rw [q]; exact Heap.lt_size hTI
        · rw [q]; exact Heap.lt_size hTO
        · rw [q]; obtain ⟨_, e1, _⟩ := h1; exact Heap.lt_size e1
        · rw [q]; obtain ⟨_, e2, _⟩ := h2; exact Heap.lt_size e2
      rw [upd_ne (Nat.ne_of_lt hlt)]
      exact (hf c hcm).1
  done := by
    intro X hP hw hK i pins s σ H E hot I hf st hg
    obtain ⟨x1, hot⟩ := hot
    subst hP hw hK
    obtain ⟨hz, hTI, ⟨x0, y0, hTO⟩, h1, h2⟩ := st
    obtain ⟨xs, ys, hqx, hqy, hend⟩ := hg
    obtain ⟨its, rv, p, _⟩ := I.list hqx
    obtain ⟨its2, rv2, p2, _⟩ := I.list hqy
    have l1 := rv.length
    have l2 := rv2.length
    have he : its.toArray[i]? = none ∨ its2.toArray[i]? = none := by
      rcases hend with q | q
      · exact .inl (by simp; omega)
      · exact .inr (by simp; omega)
    exact pyNext_zip_end_hot hot D hz hTI hTO h1 h2 p.isList p2.isList he fun h' hk => ⟨rfl, I.turnedL (t' := s.toks) (ch := [z, TI, TO, i1, i2]) (fun c o hb q =>
      hk c o (fun q' => hb (by simp [q'])) (fun q' => hb (by simp [q'])) (fun q' => hb (by simp [q'])) (fun q' => hb (by simp [q'])) q) hf⟩
  self := fun A i s Q E st h => wpAny_pyIter_zip st.1 h
def PIEZ (X : Cx) (pins : List (Addr × Obj)) (σ : St) (tg : Expr) (R : It → Hp → Prop) (itv : Value) (s2 : Shared) : Prop :=
  ∃ (it : Addr) (fp : List Addr) (tn : Nat → Heap → Prop) (J : It) (H' : Hp), itv = .ref it ∧ Inv X pins σ H' s2 ∧ TurnZ X.prog X.w X.K tg J fp it tn ∧ tn 0 s2.heap ∧ (∀ b ∈ fp, FpOk X pins H' b) ∧ R J H'
structure PIZ (X : Cx) (tg iter : Expr) (wi : TI) : Prop where
  run : ∀ (pins : List (Addr × Obj)) (s : Shared) (σ : St) (H : Hp) (R : It → Hp → Prop), Inv X pins σ H s → wi σ H R →
    wpAny (model X.prog X.w) X.A (eval iter X.env) (fun v s1 => wpAny (model X.prog X.w) X.A (pyIter v) (PIEZ X pins σ tg R) X.xe s1) X.xe s
theorem piZ_zip {X : Cx} {e e2 : Expr} {ta : TA} {p pos tpos : Pos} {elts : List Expr} {kk : Nat} (hg : Gl X "zip") (hm : X.mg "zip" = none) (ha : PA X [e, e2] ta)
    (hs : starEach [e, e2] X.env = (false, eval e X.env) :: starEach [e2] X.env) (hpl : (backTo pos (starEach [e2] X.env)).any (·.1) = false) :
    PIZ X (.Tuple elts kk tpos) (.Call (.Name "zip" p) [e, e2] [] pos) (iZip X.K ta) := by
  refine ⟨fun pins s σ H R I h => ?_⟩
  refine Call_ (ld_blt I hg hm PyProof.Rows.boot_zip (PyProof.Rows.callWith_type1 (thn (ha.run pos pins s σ H _ I h) fun us s1 ⟨vs, H1, I1, r1, q1⟩ => ?_) hs hpl))
  obtain ⟨a, b, xs, ys, ex, hqx, hqy, q⟩ := q1
  subst ex
  cases r1 with
  | cons r rr =>
    cases rr with
    | cons r' rr =>
      cases rr
      cases r
      cases r'
      obtain ⟨its, rv, p1, _⟩ := I1.list hqx
      obtain ⟨its2, rv2, p2, _⟩ := I1.list hqy
      have la : a < s1.heap.objs.size := p1.lt
      have lb : b < s1.heap.objs.size := p2.lt
      refine call_zip_2 p1.isList p2.isList fun h' hz hTI hTO h1 h2 hsz hk => wpAny_pyIter_zip hz ?_
      have I2 : Inv X pins σ H1 { s1 with heap := h' } := I1.kept (t' := s1.toks) hk
      refine ⟨s1.heap.objs.size + 4, [s1.heap.objs.size + 4, s1.heap.objs.size + 2, s1.heap.objs.size + 3, s1.heap.objs.size, s1.heap.objs.size + 1], _, _, H1, rfl, I2, turn_zipZ (PySem.W.ktu_apart s1.heap.objs.size a b la lb), ⟨hz, hTI, ⟨_, _, hTO⟩, h1, h2⟩, fun c hcm => ?_, q⟩
      have e' : c = s1.heap.objs.size + 4 ∨ c = s1.heap.objs.size + 2 ∨ c = s1.heap.objs.size + 3 ∨ c = s1.heap.objs.size ∨ c = s1.heap.objs.size + 1 := by simpa using hcm
      have hle : s1.heap.objs.size ≤ c := by
        rcases e' with z | z | z | z | z
        · rw [z]; exact Nat.le_add_right _ _
        · rw [z]; exact Nat.le_add_right _ _
        · rw [z]; exact Nat.le_add_right _ _
        · rw [z]; exact Nat.le_refl _
        · rw [z]; exact Nat.le_add_right _ _
      exact I1.fpOk hle (I1.hok.fresh hle)
theorem lcZ_core {X : Cx} {pins : List (Addr × Obj)} {s : Shared} {σ : St} {H : Hp} {Q : VK} {elt tg iter : Expr} {ifs : List Expr} {scope : Scope} {own : List (Str × Nat)} {pos pos' : Pos} {wi : TI} {g : TG} {tt : TT} {te : TE} {use : Option (Value → Sem Unit)} {Qf : Value → Shared → Prop}
    (hc : L2H.HotC X) (hN : X.N.Nodup) (I : Inv X pins σ H s) (hi : PIZ X tg iter wi) (ok : BlkOk X.N X.env.scope scope own)
    (hg : ∀ (s : Shared) (H : Hp) (C : Addr) (cl : List (Str × Addr)) (fp : List Addr), PGH (X.blk s H scope (compEnvC scope cl C X.env) fp) tg g) (ht : ∀ (s : Shared) (H : Hp) (C : Addr) (cl : List (Str × Addr)) (fp : List Addr), PTs (X.blk s H scope (compEnvC scope cl C X.env) fp) ifs tt)
    (he : ∀ (s : Shared) (H : Hp) (C : Addr) (cl : List (Str × Addr)) (fp : List Addr), PE (X.blk s H scope (compEnvC scope cl C X.env) fp) elt te) (hs : ∀ x, foldedSetIterable iter X.env x = pure x)
    (h : tLc wi g tt te (own.map (·.2)) σ H Q)
    (hRR : ∀ D C s' m H', Inv X pins σ H' s' → Q (.ref D) H' → s'.heap.Ns C m → FpOk X pins H' C → compPost (model X.prog X.w) X.A X.xe use Qf (.ref D) C (.ok .next) s') :
    wpAny (model X.prog X.w) X.A (comprehension (.ListComp elt [⟨tg, iter, ifs, 0⟩] scope pos) scope X.env pos' (newList []) false (eval iter X.env) use) Qf X.xe s := by
  have hfree : ∀ y ∈ scope.names, y.2 = .free → ∃ c, X.env.cells.lookup y.1 = some c := fun y hy e => by
    rcases ok.free y hy e with k | k
    · exact I.ok.has _ (.inl k)
    · exact I.ok.has _ (.inr k)
  refine wpAny_comprehension_free (use := use) rfl hs (closure_ok hfree) ok.kind (fun y hy e => by rw [ok.uniq y hy, e])
    (thn (hi.run pins s σ H _ I h) fun xv s1 hx => thn hx fun itv s2 h2 => ?_)
  obtain ⟨it, fp, tn, J, H2, e, I2, T, st2, f2, q⟩ := h2
  subst e
  refine wpAny_newObj_type (newEnv_comp ?_) (by show 0 ≤ sizeLine; decide)
  generalize hD : s2.heap.objs.size = D
  have hDn : H2 D = none := I2.hok.fresh (Nat.le_of_eq hD)
  obtain ⟨W, ⟨m0, w0⟩, turn⟩ := q D hDn
  -- the new list
  generalize hs3 : ({ s2 with heap := s2.heap.push { cls := .type "list", data := .seq ([] : List Value).toArray } } : Shared) = s3
  have I3 : Inv X pins σ (upd H2 D (.lst [])) s3 := by
    rw [← hs3]
    refine I2.laid (t' := s2.toks) (fun b o e => Heap.get?_push_of_some _ e) (Nat.le_of_eq hD) ⟨Nat.zero_le _, [], 0, .nil, ?_⟩
    rw [← hD]
    exact Heap.get?_push_size _ rfl
  have h3 : s3.heap = s2.heap.push { cls := .type "list", data := .seq ([] : List Value).toArray } := by rw [← hs3]
  have sz : ∀ b ∈ fp, b < s2.heap.objs.size := fun b hb => by
    obtain ⟨o, e, _⟩ := T.obj _ _ st2 b hb
    exact Heap.lt_size e
  have f3 : ∀ b ∈ fp, FpOk X pins (upd H2 D (.lst [])) b ∧ b < s3.heap.objs.size := fun b hb => by
    have hlt := sz b hb
    refine ⟨⟨?_, (f2 b hb).2⟩, by rw [h3, Heap.size_push]; exact Nat.lt_succ_of_lt hlt⟩
    rw [upd_ne (by rw [← hD]; exact Nat.ne_of_lt hlt)]
    exact (f2 b hb).1
  have st3 : tn 0 s3.heap := T.keep _ _ _ st2 fun b _ o e => by rw [h3]; exact Heap.get?_push_of_some _ e
  have I4 := block_start I3 ok hN f3
  obtain ⟨p, hot1, hpn⟩ := hc
  have pg := hg s3 (upd H2 D (.lst [])) s3.heap.objs.size (cellsFrom (s3.heap.objs.size + 1) scope.names (cloFrom X.env.cells scope.names [])) fp
  have pt := ht s3 (upd H2 D (.lst [])) s3.heap.objs.size (cellsFrom (s3.heap.objs.size + 1) scope.names (cloFrom X.env.cells scope.names [])) fp
  have pe := he s3 (upd H2 D (.lst [])) s3.heap.objs.size (cellsFrom (s3.heap.objs.size + 1) scope.names (cloFrom X.env.cells scope.names [])) fp
  show codeAny _ _ (.compStart (.ListComp elt [⟨tg, iter, ifs, 0⟩] scope pos) 0 (.ref it) (.ref D) (compEnvC scope (cellsFrom (s3.heap.objs.size + 1) scope.names (cloFrom X.env.cells scope.names [])) s3.heap.objs.size X.env)) (compPost (model X.prog X.w) X.A X.xe use Qf (.ref D) s3.heap.objs.size) { s3 with heap := pushCells (s3.heap.push { cls := .type "dict", data := .dict #[] }) scope.names }
  have nfp : ∀ b ∈ fp, (upd H2 D (.lst [])) b = none := fun b hb => (f3 b hb).1.1
  generalize hce : compEnvC scope (cellsFrom (s3.heap.objs.size + 1) scope.names (cloFrom X.env.cells scope.names [])) s3.heap.objs.size X.env = ce at I4 pg pt pe ⊢
  have cL : ce.locals = s3.heap.objs.size := by subst hce; rfl
  generalize hH3 : upd H2 D (.lst []) = H3 at I3 I4 pg pt pe w0 nfp f3
  generalize hs4 : ({ s3 with heap := pushCells (s3.heap.push { cls := .type "dict", data := .dict #[] }) scope.names } : Shared) = s4 at I4 ⊢
  have st4 : tn 0 s4.heap := T.keep _ _ _ st3 fun b _ o e => by rw [← hs4]; exact pushCells_keeps _ _ _ _ (Heap.get?_push_of_some _ e)
  have P3 := I3.pin p (List.mem_append_left _ hpn)
  have I4p : Inv (X.blk s3 H3 scope ce fp) [p] (wipe σ (own.map (·.2))) H3 s4 := I4.pins_of fun q hq => by
    have eq : q = p := by simpa using (show q ∈ ([] : List (Addr × Obj)) ++ [p] from hq)
    rw [eq]
    refine ⟨by rw [← hs4]; exact pushCells_keeps _ _ _ _ (Heap.get?_push_of_some _ P3.1), P3.2.1, ?_, ?_, P3.2.2.2.2⟩
    · show p.1 ≠ ce.locals
      rw [cL]
      exact Nat.ne_of_lt (Heap.lt_size P3.1)
    · exact fun hm => (List.mem_cons.mp (I3.stkSub p.1 hm)).elim P3.2.2.1 P3.2.2.2.1
  have stat : ∀ {σ' : St} {H' : Hp} {s' : Shared}, Inv (X.blk s3 H3 scope ce fp) [p] σ' H' s' → (∀ b ∈ fp, H' b = none) → ∀ b ∈ fp, FpOk (X.blk s3 H3 scope ce fp) [p] H' b := fun {σ' H' s'} I' hn b hb =>
    ⟨hn b hb, (I'.ok.exf b hb).1, I'.ok.exfs b hb, .inl hb, fun x c e => (I'.ok.exf b hb).2 x c e, fun q hq => by
      have eq : q = p := by simpa using (show q ∈ ([] : List (Addr × Obj)) ++ [p] from hq)
      rw [eq]
      exact (f3 b hb).1.2.2.2.2.2 p (List.mem_append_left _ hpn)⟩
  have loop : codeAny (model X.prog X.w) X.A (.compLoop (.ListComp elt [⟨tg, iter, ifs, 0⟩] scope pos) 0 (.ref it) (.ref D) ce) (compPost (model X.prog X.w) X.A X.xe use Qf (.ref D) s3.heap.objs.size) s4 := by
    refine compLoop_any (fun n s' => ∃ i H', Inv (X.blk s3 H3 scope ce fp) [p] (wipe σ (own.map (·.2))) H' s' ∧ tn i s'.heap ∧ (∀ b ∈ fp, H' b = none) ∧ W i n H') ?_ m0 ⟨0, H3, I4p, st4, nfp, w0⟩
    rintro n s5 ⟨i, H5, I5, st5, n5, w5⟩
    rcases turn i n H5 w5 with ⟨stop, qq⟩ | ⟨go, Nx, hNx, step⟩
    · have td := T.done (X.blk s3 H3 scope ce fp) rfl rfl rfl i [p] s5 _ H5 (fun _ _ => False) (Hot.at (X := X.blk s3 H3 scope ce fp) (pins := [p]) ⟨p, List.mem_append_right _ (List.mem_singleton.mpr rfl), hot1⟩ I5) I5 (stat I5 n5) st5 stop
      refine thnF td fun r s6 ⟨hr, I6⟩ => ?_
      subst hr
      -- back in the def's context
      have I7 : Inv X pins σ H5 s6 := I3.call' (ch := fp) I6.os I6.base I6.hok I6.bare fun b hb => ⟨(f3 b hb).1.2.2.2.1, (f3 b hb).1.2.1, (f3 b hb).1.2.2.2.2.1, (f3 b hb).1.2.2.2.2.2⟩
      have nC : H5 s3.heap.objs.size = none := by
        have z : H5 ce.locals = none := I6.free
        rw [cL] at z
        exact z
      obtain ⟨m, hn, _⟩ := I6.loc
      have hn : s6.heap.Ns ce.locals m := hn
      rw [cL] at hn
      exact hRR D s3.heap.objs.size s6 m H5 I7 qq hn (I3.fpOk (Nat.le_refl _) nC)
    · have ti := T.item (X.blk s3 H3 scope ce fp) rfl rfl rfl i [p] s5 _ H5 (fun _ _ => False) I5 (stat I5 n5) st5 go
      refine thnF ti fun r s6 ⟨u, hr, h6⟩ => ?_
      subst hr
      refine thnF h6 fun _ s7 ⟨x, H7, I7, r7, y7, st7, n7⟩ => ?_
      have I7' := I7.pinned (stat I7 n7) (T.obj _ _ st7)
      refine thnF (pg.run _ s7 _ H7 x u _ ⟨p, List.mem_append_right _ (List.mem_append_left _ (List.mem_singleton.mpr rfl)), hot1⟩ I7' r7 (step x H7 y7)) fun _ s8 ⟨σ8, H8, I8, hw8, q8⟩ => ?_
      refine thnF (pt.run _ s8 σ8 H8 _ I8 q8) fun b s9 ⟨H9, I9, q9⟩ => ?_
      -- the turn's end
      have fin : ∀ {s' : Shared} {H' : Hp}, Inv (X.blk s3 H3 scope ce fp) ([p] ++ pinsAt fp s7.heap) σ8 H' s' → Nx H' → ∃ m, m < n ∧ ∃ i H', Inv (X.blk s3 H3 scope ce fp) [p] (wipe σ (own.map (·.2))) H' s' ∧ tn i s'.heap ∧ (∀ b ∈ fp, H' b = none) ∧ W i m H' := fun {s' H'} I' nx => by
        obtain ⟨m', hm, w'⟩ := hNx H' nx
        have pin' : ∀ b ∈ fp, ∀ o, s7.heap.get? b = some o → s'.heap.get? b = some o ∧ H' b = none := fun b hb o e =>
          let z := I'.pin (b, o) (List.mem_append_right _ (List.mem_append_right _ (mem_pinsAt hb e)))
          ⟨z.1, z.2.1⟩
        have hl : (wipe σ (own.map (·.2))).length = σ8.length := by rw [← hw8, wipe_length]
        refine ⟨m', hm, i + 1, H', (I'.unpinned (pins := [p])).weak hl (fun j v e => ?_), T.keep _ _ _ st7 fun b hb o e => (pin' b hb o e).1, fun b hb => ?_, w'⟩
        · rw [← hw8] at e
          exact (wipe_some e).1
        · obtain ⟨o, e, _⟩ := T.obj _ _ st7 b hb
          exact (pin' b hb o e).2
      cases b with
      | false =>
        simp only [Bool.false_eq_true, if_false] at q9 ⊢
        exact fin I9 q9
      | true =>
        simp only [if_true] at q9 ⊢
        refine thnF (pe.run _ s9 σ8 H9 _ I9 q9) fun z s10 ⟨yv, H10, I10, r10, acc, hD10, hz10, nx⟩ => ?_
        exact app_ok (X := X.blk s3 H3 scope ce fp) I10 hD10 hz10 r10 fun s11 I11 => fin I11 nx
  exact codeAny_compStart_list loop (T.self X.A 0 _ _ _ st4 loop)
theorem peZ_lc {X : Cx} {elt tg iter : Expr} {ifs : List Expr} {scope : Scope} {own : List (Str × Nat)} {pos : Pos} {wi : TI} {g : TG} {tt : TT} {te : TE} (hc : L2H.HotC X) (hN : X.N.Nodup) (hi : PIZ X tg iter wi) (ok : BlkOk X.N X.env.scope scope own)
    (hg : ∀ (s : Shared) (H : Hp) (C : Addr) (cl : List (Str × Addr)) (fp : List Addr), PGH (X.blk s H scope (compEnvC scope cl C X.env) fp) tg g) (ht : ∀ (s : Shared) (H : Hp) (C : Addr) (cl : List (Str × Addr)) (fp : List Addr), PTs (X.blk s H scope (compEnvC scope cl C X.env) fp) ifs tt)
    (he : ∀ (s : Shared) (H : Hp) (C : Addr) (cl : List (Str × Addr)) (fp : List Addr), PE (X.blk s H scope (compEnvC scope cl C X.env) fp) elt te) (hs : ∀ x, foldedSetIterable iter X.env x = pure x) :
    PE X (.ListComp elt [⟨tg, iter, ifs, 0⟩] scope pos) (tLc wi g tt te (own.map (·.2))) := by
  refine ⟨fun pins s σ H Q I h => ?_⟩
  rw [eval_ListComp]
  refine lcZ_core hc hN I hi ok hg ht he hs h fun D C s' m H' I' q hn f => ⟨m, hn, fun h'' sb => ?_⟩
  obtain ⟨f0, f1, f2, f3, f4, f5⟩ := f
  exact ⟨.ref D, H', I'.turned (t' := s'.toks) (fun b o hb e => (sb.2 b hb).trans e) f0 f1 f3 f4 f5, rfl, q⟩
end Ev

set_option Elab.async false
set_option linter.all false
set_option maxRecDepth 100000
set_option maxHeartbeats 4000000
namespace Ev
open PySem PySem.Spec PyProof.Rows L2 HotX
/-! ### " ".join(a list of texts) -/
def joinD (sep : Str) : D → Mem → O := fun d μ => match d with
  | .loc n => match lstAt μ n with
    | some xs => match strsD xs with
      | some ys => if (ys.map (·.length)).sum + ys.length * sep.length ≤ 16777216 then some (.str (Txt.join sep ys), μ) else none
      | none => none
    | none => none
  | _ => none
section
variable {X : Cx} {T : TX} {W : WX}
theorem pe_joinE {o e : Expr} {sep : Str} {fe : E} {apos pos : Pos} (ho : PE X o (tC (.str sep))) (he : PE X e (tE (gx X T) W fe)) (hs : starEach [e] X.env = [(false, eval e X.env)]) (hbase : attributeBase o "join" X.env (eval o X.env) = eval o X.env) (hline : (apos.endLine == pos.line) = true) :
    PE X (.Call (.Attribute o "join" apos) [e] [] pos) (tE (gx X T) W (eUn (joinD sep) fe)) :=
  (pe_join ho he hs hbase hline).weak fun σ H Q h => ⟨⟨sep, rfl⟩, tE_mono (tE_un h) fun y H1 ⟨d, μ, ι, w, rd, q⟩ => by
    unfold joinD at q
    split at q
    · rename_i n
      split at q
      · rename_i xs e1
        split at q
        · rename_i ys e2
          split at q
          · rename_i hz
            obtain ⟨a, vs, rfl, e4, l, rr⟩ := w.lst rd (lstAt_some e1)
            exact ⟨sep, a, ys, rfl, rfl, .inl (by rw [← strsD_rel rr e2]; exact SqL.of l), hz, Don.val w (.str _) q⟩
          · exact q.elim
        · exact q.elim
      · exact q.elim
    · exact q.elim⟩
end
/-! ### isinstance of the exception at hand -/
def excE (i : Nat) (b : Bool) : E := fun ρ μ => match ρ[i]? with
  | some (some (.rw 0)) => .ok (.bl b) μ
  | _ => .er
theorem call_isEp {X : Cx} {p : Addr × Obj} {D : Addr} (hp : p ∈ X.pn) (C : ExcC X.K D) (hz : Zc (.ref D) none p.2) (hf : ∃ vs, p.2.data = .fields vs) : CallR X (.builtin "isinstance") (rIsE X.K D p.1) := by
  intro pins s σ H xs us Q I r h
  obtain ⟨c, cv, b, rfl, hcv, e, q⟩ := h
  cases r with
  | cons rx rr =>
    cases rr with
    | cons rt rr =>
      cases rr
      cases rx
      have ec := hcv _ rt
      subst ec
      obtain ⟨hget, _⟩ := I.pin p (List.mem_append_left _ hp)
      obtain ⟨vs, hv⟩ := hf
      have J : PySem.W.InstAt s.heap p.1 p.2 D none := by
        obtain ⟨a, oe⟩ := p
        obtain ⟨oc, od, oda, osl⟩ := oe
        obtain ⟨h1, h2⟩ := hz
        dsimp only at h1 h2 hv
        subst h1 h2 hv
        exact ⟨hget, rfl, rfl, trivial⟩
      exact PySem.W.kia_one (PySem.W.handS_kitx_exc C.hg C.hk C.hs C.hd C.ha C.hn C.ht C.hm) I.kIn J e (fun z => nomatch z) fun tk => ⟨.bl b, H, I.kept (t' := tk) fun _ _ z => z, rfl, q⟩
/-- what the name y is, and what isinstance says of D by it -/
def IsxOk (K : PySem.W.Frag) (mg : Str → Option Value) (D : Addr) (y : Str) (b : Bool) : Prop :=
  (∃ C : Addr, mg y = some (.ref C) ∧ PySem.W.kitOne K (.ref D) (.ref C) = some b) ∨ (∃ t : String, mg y = none ∧ bootBuiltins y = some (.type t) ∧ PySem.W.kitOne K (.ref D) (.type t) = some b)
theorem pe_isx {X : Cx} {T : TX} {W : WX} {p : Addr × Obj} {D : Addr} {i : Nat} {e y : Str} {b : Bool} {p1 p2 p3 pos : Pos} (ht : T.x 0 = some p.1) (hp : p ∈ X.pn) (C : ExcC X.K D) (hz : Zc (.ref D) none p.2) (hf : ∃ vs, p.2.data = .fields vs) (hy : IsxOk X.K X.mg D y b)
    (hg : Gl X "isinstance") (hm : X.mg "isinstance" = none) (he : PE X (.Name e p2) (tVar i)) (hgy : Gl X y) (hb : badName y = false) :
    PE X (.Call (.Name "isinstance" p1) [.Name e p2, .Name y p3] [] pos) (tE (gx X T) W (excE i b)) := by
  have key : ∀ {c : V} {cv : Value}, PE X (.Name y p3) (tC c) → (∀ u, RelV c u → u = cv) → PySem.W.kitOne X.K (.ref D) cv = some b → PE X (.Call (.Name "isinstance" p1) [.Name e p2, .Name y p3] [] pos) (tE (gx X T) W (excE i b)) := fun {c cv} h1 h2 h3 =>
    (pe_callB (call_isEp hp C hz hf) hg hm boot_isinstance (pa_cons he (pa_cons h1 pa_nil rfl) rfl) (by decide) (by decide) rfl rfl).weak fun σ H Q ⟨ρ, μ, ι, w, ev, q⟩ => by
      unfold excE at q
      split at q
      · rename_i ha
        obtain ⟨v, h4, r⟩ := ev.2 i _ ha
        cases r with
        | rw h =>
          have e0 := h.symm.trans ht
          cases e0
          exact ⟨_, h4, c, cv, b, rfl, h2, h3, Pst.here w (.bl b) q⟩
      · exact q.elim
  rcases hy with ⟨C', h1, h2⟩ | ⟨t, h1, h2, h3⟩
  · exact key (pe_glob (v := .ref C') hgy h1 rfl (bad_dbg hb).1) (fun u r => r) h2
  · exact key (pe_bltn (v := .ty t) hgy h1 h2 rfl (bad_dbg hb).2.2 (bad_dbg hb).1) (fun u r => r) h3
end Ev

set_option Elab.async false
set_option linter.all false
set_option maxRecDepth 100000
set_option maxHeartbeats 4000000
namespace Ev
open PySem PySem.Spec PyProof.Rows L2 HotX
/-! ### a small evaluator for a def called while an exception is handled -/
structure HC where
  N : List Str
  sc : Scope
  isx : Str → Option Bool
def HC.cfg (h : HC) : Cfg := { N := h.N, sc := h.sc, st := h.sc.names, call := fun _ => none, gv := fun _ => none, bn := fun _ => false, exc := fun _ => false, law := none, fuel := 0 }
def hEs (f : Expr → E) : List Expr → Es
  | [] => esNil
  | e :: es => if isStar e then fun _ _ => .er else esCons (f e) (hEs f es)
/-- [w for x, y in zip(u, v) if t] -/
def hLc (h : HC) (w x y u v t z : Str) (scope : Scope) : E :=
  let own := ownOf h.N scope.names
  let c' : Cfg := { h.cfg with sc := relS scope h.sc, st := scope.names }
  if blkC h.N h.sc scope own && h.cfg.glb z && decide (z = "zip") then (match h.cfg.loc u, h.cfg.loc v, c'.sto x, c'.sto y, c'.loc w, c'.loc t with
    | some iu, some iv, some ix, some iy, some iw, some it => eLc (iZl0 (esCons (eVar iu) (esCons (eVar iv) esNil))) (.tp [.nm ix, .nm iy]) (tTru (eVar it)) (eVar iw) (own.map (·.2))
    | _, _, _, _, _, _ => eEr)
  else eEr
def hE (h : HC) : Nat → Expr → E
  | 0, _ => eEr
  | n + 1, e => match e with
    | .Constant k _ _ => constE k
    | .Name x _ => match h.cfg.loc x with
      | some i => eVar i
      | none => eEr
    | .BinOp x op y _ => eBin (binD op) (hE h n x) (hE h n y)
    | .List es _ => eApp lstP (hEs (hE h n) es)
    | .Call (.Name f _) [.Name e _, .Name k _] [] _ => if h.cfg.glb f && decide (f = "isinstance") && h.cfg.glb k then (match h.cfg.loc e, h.isx k with
      | some i, some b => excE i b
      | _, _ => eEr) else eEr
    | .Call (.Attribute (.Constant (.str sep) _ _) m apos) [.ListComp (.Name w _) [⟨.Tuple [.Name x _, .Name y _] _ _, .Call (.Name z _) [.Name u _, .Name v _] [] _, [.Name t _], 0⟩] scope _] [] cpos =>
      if m = ("join" : Str) ∧ (apos.endLine == cpos.line) = true then eUn (joinD sep) (hLc h w x y u v t z scope) else eEr
    | _ => eEr
def hS (h : HC) (n : Nat) : Stmt → S
  | .Assign [.Name x _] e _ => if isComp e then sEr else match h.cfg.sto x with
    | some i => sSet (.nm i) (hE h n e)
    | none => sEr
  | .Expr (.Call (.Attribute (.Name o _) m apos) [e] [] cpos) _ => if m = ("append" : Str) ∧ (apos.endLine == cpos.line) = true ∧ isStar e = false then (match h.cfg.loc o with
    | some i => sExpr (eMt "list" appendD (eVar i) (esCons (hE h n e) esNil))
    | none => sEr) else sEr
  | .Return (some e) _ => sRet (hE h n e)
  | _ => sEr
def hSs (h : HC) (n : Nat) : List Stmt → S
  | [] => sNx
  | s :: ss => sSeq (hS h n s) (hSs h n ss)
structure XH (X : Cx) (T : TX) (h : HC) (p : Addr × Obj) (D : Addr) : Prop where
  N : X.N = h.N
  nd : X.N.Nodup
  sc : X.env.scope = h.sc
  st : ∀ x, locK (h.sc.names.lookup x) = true → Loc X.env.scope x ∧ (X.fn x = true ∨ X.env.scope.names.lookup x = some .local)
  ht : T.x 0 = some p.1
  hp : p ∈ X.pn
  hot : L2H.Hot1 X.A p
  C : ExcC X.K D
  hz : Zc (.ref D) none p.2
  hf : ∃ vs, p.2.data = .fields vs
  isx : ∀ y b, h.isx y = some b → IsxOk X.K X.mg D y b
  bz : X.mg "zip" = none
  bi : X.mg "isinstance" = none
section
variable {X : Cx} {T : TX} {W : WX} {h : HC} {p : Addr × Obj} {D : Addr}
theorem pe_loc {x : Str} {i : Nat} {pos : Pos} {c : Cfg} (hN : X.N = c.N) (hsc : X.env.scope = c.sc) (e : c.loc x = some i) : PE X (.Name x pos) (tVar i) := by
  obtain ⟨h1, h2, h3⟩ := loc_of e
  exact pe_var (by rw [hN]; exact h1) (by rw [hsc]; exact h2) (bad_dbg h3).1 (bad_dbg h3).2.1
theorem sto_of {c : Cfg} {x : Str} {i : Nat} (e : c.sto x = some i) : locK (c.st.lookup x) = true ∧ c.N[i]? = some x := by
  unfold Cfg.sto at e
  split at e
  · rename_i hl
    exact ⟨hl, slot_get e⟩
  · cases e
theorem gl_of' {X : Cx} {c : Cfg} {x : Str} (hsc : X.env.scope = c.sc) (e : c.glb x = true) : Gl X x := by
  show X.env.scope.names.lookup x = _
  rw [hsc]
  exact (glb_of e).1
theorem piZ_zlE {a b : Expr} {fs : Es} {pos p tpos : Pos} {elts : List Expr} {kk : Nat} (hg : Gl X "zip") (hm : X.mg "zip" = none) (ha : PA X [a, b] (tEs (gx X T) W fs)) (hs : starEach [a, b] X.env = (false, eval a X.env) :: starEach [b] X.env) (hpl : (backTo pos (starEach [b] X.env)).any (·.1) = false) : PIZ X (.Tuple elts kk tpos) (.Call (.Name "zip" p) [a, b] [] pos) (tI (gx X T) W (iZl0 fs)) :=
  ⟨fun pins s σ H R I q => (piZ_zip hg hm ha hs hpl).run pins s σ H R I (tEs_mono (tEs_src q) fun vs H1 ⟨ds, μ, ι, w, r, q⟩ => by
    split at q
    · rename_i n m
      obtain ⟨v, u, rfl, rv, ru⟩ := RelDs.two r
      split at q
      · rename_i xs ys e e'
        obtain ⟨p, ws, rfl, e2, l, q1⟩ := w.lst rv (lstAt_some e)
        obtain ⟨p', ws', rfl, e2', l', q1'⟩ := w.lst ru (lstAt_some e')
        exact ⟨p, p', ws, ws', rfl, SqL.of l, SqL.of l', PsI.here w (src_zll e2 e2') q⟩
      · exact q.elim
    · exact q.elim)⟩
variable (ok : XH X T h p D)
include ok
theorem hsnd_lc (w x y u v t z : Str) (scope : Scope) {p1 p2 p3 p4 p5 p6 p7 p8 p9 p10 : Pos} {kk : Nat} : PE X (.ListComp (.Name w p1) [⟨.Tuple [.Name x p2, .Name y p3] kk p4, .Call (.Name z p5) [.Name u p6, .Name v p7] [] p8, [.Name t p9], 0⟩] scope p10) (tE (gx X T) W (hLc h w x y u v t z scope)) := by
  unfold hLc
  dsimp only
  split
  · rename_i hh
    simp only [Bool.and_eq_true, decide_eq_true_eq] at hh
    obtain ⟨⟨hb, hgz⟩, hz⟩ := hh
    subst hz
    have b : BlkOk X.N X.env.scope scope (ownOf h.N scope.names) := by
      rw [ok.N, ok.sc]
      exact blkOk_by hb
    split
    · rename_i iu iv ix iy iw it e1 e2 e3 e4 e5 e6
      have hsc : ∀ C cl, (compEnvC scope cl C X.env).scope = relS scope h.sc := fun C cl => by
        show relabel scope X.env = relS scope h.sc
        rw [← ok.sc]
        rfl
      have st : ∀ {x : Str} {i : Nat} (s : Shared) (H : Hp) (C : Addr) (cl : List (Str × Addr)) (fp : List Addr) (pos : Pos), ({ h.cfg with sc := relS scope h.sc, st := scope.names } : Cfg).sto x = some i → PG (X.blk s H scope (compEnvC scope cl C X.env) fp) (.Name x pos) (gName i) := fun {x i} s H C cl fp pos e => by
        obtain ⟨hx, hi⟩ := sto_of e
        have hx : locK (scope.names.lookup x) = true := hx
        have hi : h.N[i]? = some x := hi
        unfold locK at hx
        have keep : ∀ {kd : NameKind}, kd ≠ .free → scope.names.lookup x = some kd → (relabel scope X.env).names.lookup x = some kd := fun {kd} hk hl => lookup_relS_keep (sc := X.env.scope) hk hl
        split at hx
        · rename_i e
          exact pg_name ok.nd (by show X.N[i]? = _; rw [ok.N]; exact hi) (.inl (keep (by decide) e)) (.inr (keep (by decide) e))
        · rename_i e
          exact pg_name ok.nd (by show X.N[i]? = _; rw [ok.N]; exact hi) (.inr (keep (by decide) e)) (.inl (by show (scope.names.lookup x == some NameKind.cell) = true; rw [e]; rfl))
        · cases hx
      refine (peZ_lc ⟨p, ok.hot, ok.hp⟩ ok.nd (piZ_zlE (T := T) (W := W) (gl_of' ok.sc hgz) ok.bz (pa_consE (pe_v (pe_loc ok.N ok.sc e1)) (pa_consE (pe_v (pe_loc ok.N ok.sc e2)) pa_nilE rfl) rfl) rfl rfl) b
        (g := gT X.K (.tp [.nm ix, .nm iy])) (tt := tT (gx X T) (fun _ _ _ _ => False) (tTru (eVar it))) (te := tE (gx X T) (fun _ _ _ _ => False) (eVar iw))
        (fun s H C cl fp => (pgH_tup (t := gCons (gName ix) (gCons (gName iy) gNil)) (pgs_cons (st s H C cl fp _ e3) (pgs_cons (st s H C cl fp _ e4) pgs_nil rfl) rfl) rfl rfl).or (pgH_lst (t := gCons (gName ix) (gCons (gName iy) gNil)) (pgs_cons (st s H C cl fp _ e3) (pgs_cons (st s H C cl fp _ e4) pgs_nil rfl) rfl) rfl rfl))
        (fun s H C cl fp => ⟨fun pins s' σ H' Q I hw => (pts_one (pt_tru (pe_v (pe_loc (X := X.blk s H scope (compEnvC scope cl C X.env) fp) (c := { h.cfg with sc := relS scope h.sc, st := scope.names }) ok.N (hsc _ _) e6)) (fun _ => rfl))).run pins s' σ H' Q I hw⟩)
        (fun s H C cl fp => pe_v (pe_loc (X := X.blk s H scope (compEnvC scope cl C X.env) fp) (c := { h.cfg with sc := relS scope h.sc, st := scope.names }) ok.N (hsc _ _) e5)) (fun _ => rfl)).weak fun σ H Q h => tE_lc h
    · exact pe_er
  · exact pe_er
theorem hsnd_E : ∀ n e, PE X e (tE (gx X T) W (hE h n e))
  | 0, e => pe_er
  | n + 1, e => by
    have ih := hsnd_E n
    have ihs : ∀ es, PA X es (tEs (gx X T) W (hEs (hE h n) es)) := fun es => by
      induction es with
      | nil => exact pa_nilE
      | cons e es ih2 =>
        unfold hEs
        split
        · exact pa_er
        · rename_i hs
          exact pa_consE (ih e) ih2 (star_eq (by simpa using hs))
    unfold hE
    split
    · rename_i k _ _
      unfold constE
      split
      · exact pe_k pe_non fun _ _ => .non
      · exact pe_k pe_bl fun _ _ => .bl _
      · exact pe_k pe_int fun _ _ => .int _
      · exact pe_k pe_str fun _ _ => .str _
      · exact pe_er
    · split
      · rename_i i e
        exact pe_v (pe_loc ok.N ok.sc e)
      · exact pe_er
    · exact pe_bin _ (ih _) (ih _)
    · exact pe_lstE (ihs _)
    · split
      · rename_i hh
        simp only [Bool.and_eq_true, decide_eq_true_eq] at hh
        obtain ⟨⟨h1, h2⟩, h3⟩ := hh
        subst h2
        split
        · rename_i i b e1 e2
          exact pe_isx ok.ht ok.hp ok.C ok.hz ok.hf (ok.isx _ _ e2) (gl_of' ok.sc h1) ok.bi (pe_loc ok.N ok.sc e1) (gl_of' ok.sc h3) (glb_of h3).2
        · exact pe_er
      · exact pe_er
    · split
      · rename_i hh
        obtain ⟨rfl, hl⟩ := hh
        exact pe_joinE pe_str (hsnd_lc ok _ _ _ _ _ _ _ _) rfl rfl hl
      · exact pe_er
    · exact pe_er
theorem hsnd_S (n : Nat) (s : Stmt) : PS X s (tS (gx X T) W (hS h n s)) := by
  unfold hS
  split
  · split
    · exact ps_er
    · rename_i hc
      split
      · rename_i x p1 e pos _ i hi
        obtain ⟨h1, h2⟩ := sto_of hi
        obtain ⟨h3, h4⟩ := ok.st x h1
        refine ps_setE (hsnd_E ok n e) (show PG X (.Name x p1) (gT X.K (.nm i)) from pg_name ok.nd (by rw [ok.N]; exact h2) h3 h4) ?_ ?_ rfl
        · have hc : isComp e = false := by simpa using hc
          show swapsWith e (some (.Name x p1)) pos.line X.env = pure false
          cases e <;> first | rfl | cases hc
        · cases e <;> rfl
      · exact ps_er
  · split
    · rename_i hh
      obtain ⟨rfl, hl, hst⟩ := hh
      split
      · rename_i i hi
        exact ps_exprE (pe_mtE (.inl rfl) PySem.F.plainAttrs_list PySem.F.slot_list_append PySem.F.type_list_append append_ok (pe_v (pe_loc ok.N ok.sc hi)) (pa_consE (hsnd_E ok n _) pa_nilE (star_eq hst)) rfl
          (by rw [star_all (by rw [List.any_cons, hst]; rfl)]; rfl) hl (star_eq hst) rfl) rfl
      · exact ps_er
    · exact ps_er
  · exact ps_retE (hsnd_E ok n _)
  · exact ps_er
theorem hsnd_Ss (n : Nat) : ∀ ss, PSs X ss (tS (gx X T) W (hSs h n ss))
  | [] => pss_nilE
  | s :: ss => pss_consE (hsnd_S ok n s) (hsnd_Ss n ss)
end
end Ev

set_option Elab.async false
set_option linter.all false
set_option maxRecDepth 100000
set_option maxHeartbeats 4000000
namespace Ev
open PySem PySem.Spec PyProof.Rows L2 LamX
/-! ### a lambda made, and called -/
theorem lam_make3 {X : Cx} {pins : List (Addr × Obj)} {σ : L2.St} {H : Hp} {s : Shared} {T : List (Addr × Str)} {c P : Addr} {params : Arguments} {body : Expr} {scope : Scope} {pos : Pos} {E : Value → Shared → Prop} {Q : Value → Shared → Prop} (I : Inv X pins σ H s) (TB : TabB X.base X.mg c P) (hcode : X.env.code = .ref c)
    (hm : (P, X.env.qual ++ "<lambda>") ∈ T) (hu : ∀ p ∈ T, p.1 = P → p.2 = X.env.qual ++ "<lambda>") (hT : Tabs T H) (hdef : defaultsOf params X.env = ([], [])) (hfree : ∀ y ∈ scope.names, y.2 = .free → ∃ c, X.env.cells.lookup y.1 = some c)
    (h : ∀ (f c' : Addr) (pm ctv : Value) (H1 : Hp) (s' : Shared), Inv X pins σ H1 s' → ExtN H H1 → (∀ b ps, H b = some (.tbl ps) → ∃ ps', H1 b = some (.tbl ps')) → Tabs T H1 →
      s'.heap.get? f = some (PySem.W.kla_obj "<lambda>" (X.env.qual ++ "<lambda>") params body scope (cloFrom X.env.cells scope.names []) pm c' ctv) → H1 f = none → f ∉ frs X.stack → H1 c' = some (CodeO c' (X.env.qual ++ "<lambda>")) → Q (.ref f) s') :
    wpAny (model X.prog X.w) X.A (eval (.Lambda params body scope pos) X.env) Q E s := by
  obtain ⟨ps, hP, ht, ha⟩ := hT _ hm
  refine PySem.W.kla_eval hdef ?_
  have bP : s.heap.BuiltinsAt X.mg P := TB.bm.keeps I.bk
  have hP' : s.heap.get? P = some { cls := .none, data := .fields ps } := I.hok P _ hP
  have nofr : ∀ f, s.heap.objs.size ≤ f → f ∉ frs X.stack := fun f hf z => by
    rcases List.mem_cons.mp (I.stkSub _ z) with e | e
    · have h1 := I.lt
      rw [← e] at h1
      exact Nat.lt_irrefl _ (Nat.lt_of_lt_of_le h1 hf)
    · exact I.nofs hf e
  cases hc : codeAmong pos ps.toList with
  | none =>
    refine PySem.W.kla_makeFunction (mg := X.mg) (c := c) (P := P) (ps := ps) (closure_ok hfree) I.ok.glob (I.mod.glob.keeps I.bk) hcode (TB.code.keeps I.bk) hP' ht hc TB.gP bP fun c' ctv h' tk hx hge hlt hrec htb => ?_
    obtain ⟨c2, oc, vs, t, e2, hoc, hd, hv⟩ := hrec
    cases e2
    have hsz : s.heap.objs.size ≤ h'.objs.size := Nat.le_trans hge (Nat.le_of_lt hlt)
    have nC : H c' = none := I.hok.fresh hge
    have I1 := inv_table (t' := tk) (more := #[rawInt pos.line, rawInt pos.col, .ref c']) (h' := h'.push (PySem.W.kla_obj "<lambda>" (X.env.qual ++ "<lambda>") params body scope (cloFrom X.env.cells scope.names []) ((X.mg "__name__").getD .none) c' ctv)) I hP
      (fun b o hb e => Heap.get?_push_of_some _ (hx b o hb e)) (Heap.get?_push_of_some _ htb) hge ⟨oc, vs, t, Heap.get?_push_of_some _ hoc, hd, hv⟩
    have hE : ExtN H (upd (upd H P (.tbl (ps ++ #[rawInt pos.line, rawInt pos.col, .ref c']))) c' (CodeO c' (X.env.qual ++ "<lambda>"))) := fun b o e n => by
      rw [upd_ne (ne_of_none e nC), upd_ne (fun z => n ps (Option.some.inj (e.symm.trans (by rw [z]; exact hP))))]
      exact e
    have eL : (ps ++ #[rawInt pos.line, rawInt pos.col, .ref c']).toList = ps.toList ++ [rawInt pos.line, rawInt pos.col, .ref c'] := by simp
    refine h h'.objs.size c' ((X.mg "__name__").getD .none) ctv _ _ I1 hE (fun b ps' e => ?_) (fun p hp => ?_) (Heap.get?_push_size _ rfl) ?_ (nofr _ hsz) upd_same
    · by_cases hb : b = P
      · rw [hb]
        exact ⟨_, by rw [upd_ne (ne_of_none hP nC), upd_same]⟩
      · exact ⟨ps', by rw [upd_ne (ne_of_none e nC), upd_ne hb]; exact e⟩
    · by_cases hb : p.1 = P
      · rw [hu p hp hb, hb]
        refine ⟨_, by rw [upd_ne (ne_of_none hP nC), upd_same], by rw [eL]; exact PySem.TriplesOk_snoc _ _ _ _ ht, fun p' cv hcv => ?_⟩
        rw [eL] at hcv
        rcases among_app _ ht hcv with z | z
        · obtain ⟨c0, e1, e2⟩ := ha p' cv z
          exact ⟨c0, e1, hE _ _ e2 codeO_ne⟩
        · exact ⟨c', z, upd_same⟩
      · obtain ⟨ps', a1, a2, a3⟩ := hT p hp
        refine ⟨ps', by rw [upd_ne (ne_of_none a1 nC), upd_ne hb]; exact a1, a2, fun p' cv hcv => ?_⟩
        obtain ⟨c0, e1, e2⟩ := a3 p' cv hcv
        exact ⟨c0, e1, hE _ _ e2 codeO_ne⟩
    · have n1 : h'.objs.size ≠ c' := Nat.ne_of_gt hlt
      have n2 : h'.objs.size ≠ P := Nat.ne_of_gt (Nat.lt_of_lt_of_le (Heap.lt_size hP') hsz)
      rw [upd_ne n1, upd_ne n2]
      exact I.hok.fresh hsz
  | some cv =>
    obtain ⟨c', e, hco⟩ := ha pos cv hc
    subst e
    refine PySem.W.kla_makeFunctionHit (mg := X.mg) (c := c) (P := P) (ps := ps) (closure_ok hfree) I.ok.glob (I.mod.glob.keeps I.bk) hcode (TB.code.keeps I.bk) hP' ht hc bP fun ctv h' tk hx hsz => ?_
    have I1 : Inv X pins σ H { s with heap := h'.push (PySem.W.kla_obj "<lambda>" (X.env.qual ++ "<lambda>") params body scope (cloFrom X.env.cells scope.names []) ((X.mg "__name__").getD .none) c' ctv), toks := tk } := I.kept fun b o e => Heap.get?_push_of_some _ (hx b o e)
    exact h h'.objs.size c' ((X.mg "__name__").getD .none) ctv H _ I1 (ExtN.refl H) (fun b ps e => ⟨ps, e⟩) hT (Heap.get?_push_size _ rfl) (I.hok.fresh hsz) (nofr _ hsz) hco
/-- the context of the lambda's body -/
abbrev lamCxN (X : Cx) (A : Around) (outer : List PySem.Env) (s : Shared) (H : Hp) (E : XK) (scope : Scope) (f c' : Addr) : Cx :=
  (lamCx X A outer s H (fun _ _ _ => False) scope f c').tr [] fun e s' => wpAny (model X.prog X.w) (A.deeper (lamEnv X scope s.heap.objs.size f c')) (leaving (lamEnv X scope s.heap.objs.size f c') e) (fun _ s'' => L2N.CX X.prog X.w outer H s E e s'') (fun e' s'' => L2N.CX X.prog X.w outer H s E e' s'') s'
theorem pe_actN {X : Cx} {pins : List (Addr × Obj)} {σ : L2.St} {H : Hp} {s : Shared} {Eg : XK} {Ng : List Str} {qg : Str} {sg : Scope} {g f c' : Addr} {cdg pm ctv : Value} {params : Arguments} {body : Expr} {scope : Scope} {k i : Nat} {a : Str} {pn : List (Addr × Obj)} {xe : Value → Shared → Prop} {W : WX} {tb : XK → TE} {p1 p2 : Pos}
    (I : Inv X pins σ H s) (L : LamS X.env.scope scope) (hf : s.heap.get? f = some (PySem.W.kla_obj "<lambda>" (X.env.qual ++ "<lambda>") params body scope (cloFrom X.env.cells scope.names []) pm c' ctv)) (hfn : H f = none) (hfr : f ∉ frs X.stack)
    (hbind : bindArgs (PySem.W.kla_fn "<lambda>" (X.env.qual ++ "<lambda>") params body scope (cloFrom X.env.cells scope.names []) pm (.ref c') ctv) ⟨[], []⟩ = pure [])
    (tk : L2N.Takes ((cxOf (L2N.CX X.prog X.w) X.prog X.w X.K X.mg X.base Ng qg sg g cdg X.A X.stack s H Eg).tr pn xe) W) (hr : Room (k + 1) (X.A.deeper (envOfC qg sg s.heap.objs.size g cdg)))
    (hbody : ∀ (A : Around) (outer : List PySem.Env) (s : Shared) (H : Hp) (E : XK), Room k (A.deeper (lamEnv X scope s.heap.objs.size f c')) → PE (lamCxN X A outer s H E scope f c') body (tb E))
    (hN : Ng[i]? = some a) (hv : Vis sg a) (hd : (a == ("__debug__" : Str)) = false := by decide) (hcd : (a == ("__classdict__" : Str)) = false := by decide) :
    PE ((cxOf (L2N.CX X.prog X.w) X.prog X.w X.K X.mg X.base Ng qg sg g cdg X.A X.stack s H Eg).tr pn xe) (.Call (.Name a p1) [] [] p2)
      (fun σZ HZ Q => σZ[i]? = some (some (.ref f)) ∧ HZ c' = some (CodeO c' (X.env.qual ++ "<lambda>")) ∧ tb (fun cls d H' => W cls d σZ H') σ HZ Q) := by
  refine ⟨fun pinsZ sZ σZ HZ Q IZ h => ?_⟩
  obtain ⟨hs, hc, ht⟩ := h
  refine wpAny_Call_Name_kw (thn ((pe_var (pos := p1) (i := i) hN hv hd hcd).run pinsZ sZ σZ HZ (fun v H1 => v = .ref f ∧ H1 = HZ) IZ ⟨.ref f, hs, rfl, rfl⟩) fun u s1 ⟨v, H1, I1, r1, q1⟩ => ?_)
  obtain ⟨ev, eH⟩ := q1
  subst ev
  rw [eH] at I1
  obtain rfl : u = Value.ref f := r1
  have of1 : s1.heap.get? f = some (PySem.W.kla_obj "<lambda>" (X.env.qual ++ "<lambda>") params body scope (cloFrom X.env.cells scope.names []) pm c' ctv) := I1.base.keep f _ hf hfn hfr (fun z => nomatch (show f ∈ ([] : List Addr) from z))
  refine PySem.W.callWith_F0 ⟨_, _, _, _, of1⟩ ?_
  have un : Un (frs X.stack) [] H HZ s.heap s1.heap := I1.base
  obtain ⟨⟨oc, vs, t, hoc, hdc, hvc⟩, _, _⟩ := I1.hok c' _ hc
  have rc : codeAny (model X.prog X.w) (X.A.deeper (envOfC qg sg s.heap.objs.size g cdg)) (.call (.ref f) ⟨[], []⟩) (CR (L2N.CX X.prog X.w) (envOfC qg sg s.heap.objs.size g cdg :: X.stack) X.prog X.w HZ s1 Q (fun cls d H' => W cls d σZ H')) s1 := by
    refine PySem.W.kla_callFunE hr.depth of1 rfl L.co L.gen rfl ⟨c', oc, vs, t, rfl, hoc, hdc, hvc⟩ ?_
    rw [hbind]
    refine wpAny_pure (wpAny_newFunctionEnv (fun y hy => (L.own y hy).2) (fun y hy => absurd hy (by simp)) (fun h₁ hns hsb => ⟨I1.nolimit.fresh _ hsb, ?_⟩) L.kind)
    show codeAny _ _ (.expr body (lamEnv X scope s1.heap.objs.size f c')) _ _
    have kp : ∀ b o, s1.heap.get? b = some o → h₁.get? b = some o := fun b o e => hsb.extBut b o (Nat.ne_of_lt (Heap.lt_size e)) (Heap.get?_push_of_some _ e)
    have J : Inv (lamCxN X (X.A.deeper (envOfC qg sg s.heap.objs.size g cdg)) (envOfC qg sg s.heap.objs.size g cdg :: X.stack) s1 HZ (fun cls d H' => W cls d σZ H') scope f c') [] σ HZ { s1 with heap := h₁, toks := s1.toks + ([] : List (Str × Value)).length } :=
      (lam_start2 (E := fun _ _ _ => False) I L I1.env0 hr.hd un hns kp).toTry _
    refine PySem.W.kla_codeExpr (wpAny_mono ((hbody _ _ s1 HZ _ (hr.deeper _)).run [] _ _ HZ Q J ht) (fun v s' hq => ?_) fun e s' hq => hq)
    obtain ⟨w', H', J', rv, q⟩ := hq
    exact ⟨w', H', J'.os, J'.bare, J'.base, J'.hok, rv, q⟩
  have hx := L2N.passAt tk σZ
  refine wpAny_call (codeAny_mono rc fun r s' hq => ?_)
  cases r with
  | error e => exact hx pinsZ HZ s1 e s' I1 hq
  | ok fl =>
    cases fl with
    | ret u => exact I1.after hq
    | next => exact False.elim hq
    | brk => exact False.elim hq
    | cont => exact False.elim hq
end Ev

set_option Elab.async false
set_option linter.all false
set_option maxRecDepth 100000
set_option maxHeartbeats 4000000
namespace Ev
open PySem PySem.Spec PyProof.Rows L2
/-! ### try with several clauses, each with a name -/
def wManyA (K : PySem.W.Frag) (Wout : WX) (D : Ends) : List (Value × Nat × (Addr → Value → Option Addr → TS)) → WX
  | [] => Wout
  | (c, i, ts) :: r => fun cls d σ H => ∃ b, PySem.W.exmOne K cls c = some b ∧ (b = true → ∀ a, H a = none → ts a cls d { nx := fun σ' H' => D.nx (σ'.set i none) H', rt := D.rt, bk := fun σ' H' => D.bk (σ'.set i none) H', ct := fun σ' H' => D.ct (σ'.set i none) H' } (σ.set i (some (.ref a))) H) ∧
    (b = false → wManyA K Wout D r cls d σ H)
inductive HdsA (X : Cx) : List ExceptHandler → List (Value × Nat × (Addr → Value → Option Addr → TS)) → Prop
  | nil : HdsA X [] []
  | cons {x n : Str} {c : Value} {i : Nat} {ts : Addr → Value → Option Addr → TS} {b₀ : Stmt} {suite : List Stmt} {np pos' : Pos} {hds : List ExceptHandler} {l : List (Value × Nat × (Addr → Value → Option Addr → TS))} (hc : Names X x c)
      (hi : X.N[i]? = some n) (hln : X.env.kindOf n = some .local)
      (hsu : ∀ (a : Addr) (oe : Obj) (cls : Value) (d : Option Addr) (pn : List (Addr × Obj)), L2N.Zn cls d oe → (∃ vs, oe.data = .fields vs) → PSs (X.suite a ((a, oe) :: pn)) (b₀ :: suite) (ts a cls d)) (r : HdsA X hds l) :
      HdsA X (.ExceptHandler (some (.Name x np)) (some n) (b₀ :: suite) pos' :: hds) ((c, i, ts) :: l)
section
variable {X : Cx} {body : List Stmt} {h₀ : ExceptHandler} {hds : List ExceptHandler} {l : List (Value × Nat × (Addr → Value → Option Addr → TS))} {pos : Pos} {tb : WX → TS} {Wout : WX}
theorem ps_try_manyA (hs : X.stack = X.env :: X.outer) (hf : X.env.frame = some X.env.locals) (hN : X.N.Nodup) (tk : L2N.Takes X Wout)
    (hb : ∀ (W : WX) (pn : List (Addr × Obj)) (xe : Value → Shared → Prop), L2N.Takes (X.tr pn xe) W → PassesOwn (model X.prog X.w) X.A X.env xe → PSs (X.tr pn xe) body (tb W))
    (hh : HdsA X (h₀ :: hds) l) : PS X (.Try body (h₀ :: hds) [] [] pos) (fun D σ H => tb (wManyA X.K Wout D l) D σ H) := by
  refine ⟨fun pins s σ H D I h => ?_⟩
  have ok := I.ok
  have hfr : X.A.frames = some (X.env :: X.outer) := by rw [ok.frames, hs]
  refine wpAny_Try_except ?_
  refine wpAny_mono ((hb (wManyA X.K Wout D l) (X.pn ++ pins) (fun e s₁ => wpAny (model X.prog X.w) X.A (noteFrame e X.env) (fun _ s₂ => wpAny (model X.prog X.w) X.A (setFlight e none) (fun _ s₃ =>
    wpAny (model X.prog X.w) X.A (handleBy e X.env (h₀ :: hds)) (SP X pins D) X.xe s₃) X.xe s₂) X.xe s₁) (fun u s' xx => ?_) PassesOwn.looking).run [] s σ H D (I.toTry _) h) (fun f s1 hsp => ?_) (fun e s1 he => he)
  · -- the catch
    obtain ⟨a, B, sI, pins', σ', H', cls, d, rfl, J', nb, up, sky, na, os, ag, w⟩ := xx
    have J : Inv X pins σ' H' sI := J'.ofTry ok
    have sky' : Sky B (X.env :: X.outer) a (L2N.Zn cls d) X.env.locals s'.heap := by rw [← hs]; exact sky
    show wpAny (model X.prog X.w) X.A (noteFrame (.ref a) X.env) _ _ _
    refine L2N.Sky.land L2N.Zn.steady hfr hf sky' fun h3 fl3 up3 => ?_
    have J3 : Inv X pins σ' H' { s' with heap := h3 } := J.landed nb fl3.1 (up.trans up3) os ag
    obtain ⟨oe3, vs3, he3, hz3, hd3⟩ := fl3.there
    have notFr : ∀ {h : Heap} {o : Obj} {vs : Array Value}, h.FunFrames B (X.env :: X.outer) → h.get? a = some o → o.data = .fields vs → a ∉ frs (X.env :: X.outer) := fun {h o vs} ff e dd hm => by
      obtain ⟨_, o', e', hnf⟩ := ff.mem hm
      rw [e] at e'; cases e'
      exact hnf _ dd
    have nfr := notFr fl3.2.2.1 he3 hd3
    have nL : a ≠ X.env.locals := fun z => nfr (List.mem_filterMap.mpr ⟨X.env, List.mem_cons_self, by rw [hf, z]⟩)
    have nF : a ∉ X.fs := fun hm => by
      obtain ⟨e, he, q⟩ := List.mem_filterMap.mp hm
      exact nfr (List.mem_filterMap.mpr ⟨e, List.mem_cons_of_mem _ he, q⟩)
    have S3 := J3.suite he3 hd3 na nL nF
    have go : ∀ {hds' : List ExceptHandler} {l' : List (Value × Nat × (Addr → Value → Option Addr → TS))}, HdsA X hds' l' → wManyA X.K Wout D l' cls d σ' H' →
        wpAny (model X.prog X.w) X.A (handleBy (.ref a) X.env hds') (SP X pins D) X.xe { s' with heap := h3 } := by
      intro hds' l' hk
      induction hk with
      | nil =>
        intro w
        refine wpAny_handleBy_nil ?_
        obtain ⟨k1, k2, k3, oe, vs, T, oT, ts', he, hz, hd, h1, hr⟩ := id fl3
        unfold PySem.passOn
        refine wpAny_bind (wpAny_field he hd h1 ?_)
        rw [if_neg (show ¬ ((Value.ref T == Value.none) = true) from by simp)]
        have fin : wpAny (model X.prog X.w) X.A (setFlight (.ref a) X.env.frame) (fun _ s4 => wpAny (model X.prog X.w) X.A (throw (.ref a) : Sem Flow) (SP X pins D) X.xe s4) X.xe { s' with heap := h3 } := by
          rw [hf]
          refine HandSPX.setFlight_upZ fl3 fun h4 hh4 up4 => wpAny_throw (tk _ _ ?_)
          exact ⟨a, B, sI, pins, σ', H', cls, d, rfl, J, nb, (up.trans up3).trans up4, .inr (.inr (by rw [hs]; exact hh4)), na, os, ag, w⟩
        first
          | exact wpAny_bind (wpAny_pure (wpAny_bind fin))
          | exact wpAny_bind fin
      | @cons x n c i ts b₀ suite np pos' hds2 l2 hc hi hln hsu r ih =>
        intro w
        obtain ⟨b, hb1, hyes, hno⟩ := w
        refine wpAny_handleBy_cons (codeAny_handlers_test ?_) (by intro q; cases q)
        have LT : PySem.W.Looks (model X.prog X.w) h3 (typeOf (.ref a)) cls := fun A Q E s k q => wpAny_typeOf_ref (k _ _ he3) (by rw [hz3.1]; exact q)
        have LM := PySem.W.exm_one (M := model X.prog X.w) (J3.kIn) LT hb1
        have test : ∀ {Q : Value → Shared → Prop} {E : Value → Shared → Prop}, Q c { s' with heap := h3 } → wpAny (model X.prog X.w) (X.A.mark (some (.ref a))) (eval (.Name x np) X.env) Q E { s' with heap := h3 } := fun {Q E} q => by
          obtain ⟨hg, hdbg, hm | ⟨hm, hv, hnn⟩⟩ := hc
          · exact ld_glob (X := X.suite a ((a, oe3) :: (X.pn ++ pins))) S3 hg hm q hdbg
          · exact ld_blt (X := X.suite a ((a, oe3) :: (X.pn ++ pins))) S3 hg hm hv q hnn hdbg
        refine test (LM.here ?_)
        cases b with
        | true =>
          refine codeAny_handlers_suite_as ?_
          refine HandSPX.lands_againZ fl3 fun h4 fl4 up4 => ?_
          have J4 : Inv X pins σ' H' { s' with heap := h4 } := J.landed nb fl4.1 ((up.trans up3).trans up4) os ag
          obtain ⟨oe4, vs4, he4, hz4, hd4⟩ := fl4.there
          have S4 := J4.suite he4 hd4 na nL nF
          refine store_ok (X := X.suite a ((a, oe4) :: (X.pn ++ pins))) (v := .ref a) S4 hN hi (.inl hln) rfl (fun s5 S5 => ?_) (.inr hln)
          refine wpAny_mono ((hsu a oe4 cls d (X.pn ++ pins) hz4 ⟨_, hd4⟩).run [] s5 _ H' _ S5 (hyes rfl a na)) (fun f s6 hsp => ?_) (fun _ _ z => False.elim z)
          have end_ : ∀ {σ6 : L2.St} {H6 : Hp} {Q : Shared → Prop}, Inv (X.suite a ((a, oe4) :: (X.pn ++ pins))) [] σ6 H6 s6 → (∀ s7, Inv X pins (σ6.set i none) H6 s7 → Q s7) →
              wpAny (model X.prog X.w) X.A (do bindName X.env n .none; unbindBehindTheSuite X.env n pos') (fun _ s7 => Q s7) X.xe s6 := fun {σ6 H6 Q} S6 hq => gone_ok (S6.unsuite ok) hN hi hln hq
          cases f with
          | next =>
            obtain ⟨σ6, H6, S6, q6⟩ := hsp
            exact end_ S6 fun s7 J7 => ⟨_, _, J7, q6⟩
          | brk =>
            obtain ⟨σ6, H6, S6, q6⟩ := hsp
            exact end_ S6 fun s7 J7 => ⟨_, _, J7, q6⟩
          | cont =>
            obtain ⟨σ6, H6, S6, q6⟩ := hsp
            exact end_ S6 fun s7 J7 => ⟨_, _, J7, q6⟩
          | ret u =>
            obtain ⟨v6, σ6, H6, S6, r6, q6⟩ := hsp
            exact end_ S6 fun s7 J7 => ⟨_, _, _, J7, r6, q6⟩
        | false =>
          show wpAny _ X.A (handleBy (.ref a) X.env hds2) _ _ _
          exact ih (hno rfl)
    exact go hh w
  · cases f with
    | next =>
      obtain ⟨σ', H', J', q⟩ := hsp
      exact wpAny_execs_nil ⟨σ', H', J'.ofTry ok, q⟩
    | brk =>
      obtain ⟨σ', H', J', q⟩ := hsp
      exact ⟨σ', H', J'.ofTry ok, q⟩
    | cont =>
      obtain ⟨σ', H', J', q⟩ := hsp
      exact ⟨σ', H', J'.ofTry ok, q⟩
    | ret u =>
      obtain ⟨v, σ', H', J', r, q⟩ := hsp
      exact ⟨v, σ', H', J'.ofTry ok, r, q⟩
end
end Ev

set_option Elab.async false
set_option linter.all false
set_option maxRecDepth 100000
set_option maxHeartbeats 4000000
namespace Ev
open PySem PySem.Spec PyProof.Rows L2 LamX C8
structure DefX (K : PySem.W.Frag) (mg : Str → Option Value) (x : Str) (st : Stmt) (N ps : List Str) : Prop where
  exb : ∃ (f : Addr) (fd : FuncData), C8.Def K mg x st f fd ∧ ∀ us : List Value, us.length = ps.length → bindArgs fd ⟨us, []⟩ = pure (ps.zip us)
  S : FnScope N ps (fnScope st)
theorem DefX.ex {K : PySem.W.Frag} {mg : Str → Option Value} {x : Str} {st : Stmt} {N ps : List Str} (d : DefX K mg x st N ps) : ∃ (f : Addr) (fd : FuncData), C8.Def K mg x st f fd ∧ L2.Binds K fd ps [] :=
  let ⟨f, fd, F, h⟩ := d.exb; ⟨f, fd, F, .all h⟩
theorem run_H {P : Program} {w : World} {K : PySem.W.Frag} {mg : Str → Option Value} {base : Heap} {k : Nat} {f : Addr} {x : Str} {st : Stmt} {fd : FuncData} {N ps : List Str} (F : C8.Fun K x x st f fd) (S : FnScope N ps (fnScope st))
    {A : Around} {outer : List PySem.Env} {s : Shared} {H : Hp} {args : Args} {us : List Value} {vs : List V} {Q : VK} {E : XK} {p : Addr × Obj} (hr : L2H.RoomH (k + 1) A) (hot : L2H.Hot1 A p) (hpin : L2H.PinOk outer H s p) (e0 : Env0 P w K mg base A outer s H) (hb : BindsTo s fd args (ps.zip us)) (r : Vals vs us) (hl : vs.length = ps.length)
    (hbody : ∀ cdv, L2H.RoomH k (A.deeper (envOfC x (fnScope st) s.heap.objs.size f cdv)) →
      ∃ t, PSs (L2H.cxH (L2N.CX P w) P w K mg base N x (fnScope st) f cdv A outer s H E p) (fnBody st) t ∧ t { nx := fun _ H' => Q .non H', rt := Q } (L2.start N vs) H) :
    codeAny (model P w) A (.call (.ref f) args) (CR (L2N.CX P w) outer P w H s Q E) s := by
  obtain ⟨oc, od, dV, kV, doc, pm, an, cdv, ct, osl, rfl, lk, hcd⟩ := F.ex
  have KX : K.In s.heap := e0.mod.kin.keeps fun b o e => (e0.bs b o e).1
  have lim : s.heap.NoLimit := e0.mod.nolimit.keeps fun b o e => (e0.bs b o e).1
  have hkind : ∀ y ∈ ps.zip us, (fnScope st).names.lookup y.1 = some .local ∨ ((fnScope st).names.lookup y.1 = some .cell ∧ ((cellsFrom (s.heap.objs.size + 1) (fnScope st).names []).lookup y.1).isSome = true) := fun ⟨n, v⟩ hy => by
    rcases S.par n (List.of_mem_zip hy).1 with q | q
    · exact .inl q
    · exact .inr ⟨q, PySem.W.cellsFrom_some _ _ _ (.inl q)⟩
  refine codeAny_call_function hr.depth (KX _ _ lk) rfl S.co S.gen rfl (PySem.W.codeRec_of KX hcd) (hb _ _ _ _ ?_)
  refine wpAny_newFunctionEnv_cells S.kind hkind fun env he s1 x1 => ?_
  subst he
  refine ⟨lim.keeps x1.toInCall.keep, codeAny_func ?_⟩
  obtain ⟨t, ht, hq⟩ := hbody cdv (hr.deeper _)
  have I : Inv (L2H.cxH (L2N.CX P w) P w K mg base N x (fnScope st) f cdv A outer s H E p) [] (L2.start N vs) H s1 := L2H.inv_startH S hpin e0 hl r x1
  refine wpAny_mono (ht.run [] s1 (L2.start N vs) H _ I hq) (fun fl s' hs => ?_) fun e s' hs => hs
  have fin : ∀ {σ' : St} {H' : Hp} {v : V} {u : Value}, Inv (L2H.cxH (L2N.CX P w) P w K mg base N x (fnScope st) f cdv A outer s H E p) [] σ' H' s' → RelV v u → Q v H' → CE outer P w H s Q u s' :=
    fun {σ' H' v u} J rv q => ⟨v, H', J.os, J.bare, J.base, J.hok, rv, q⟩
  cases fl with
  | ret u =>
    obtain ⟨v, σ', H', J, rv, q⟩ := hs
    exact fin J rv q
  | next =>
    obtain ⟨σ', H', J, q⟩ := hs
    exact fin (v := V.non) (u := Value.none) J rfl q
  | brk =>
    obtain ⟨_, _, _, q⟩ := hs
    exact False.elim q
  | cont =>
    obtain ⟨_, _, _, q⟩ := hs
    exact False.elim q
/-- all that is tracked stays, tables grow -/
structure Stays (T : TX) (H H' : Hp) : Prop where
  ext : ExtN H H'
  tbl : ∀ b ps, H b = some (.tbl ps) → ∃ ps', H' b = some (.tbl ps')
  tabs : Tabs T.l H'
section
variable {G : Gc} {ι : List Addr} {H H' : Hp} {μ : Mem}
theorem Stays.grow (z : Stays G.T H H') : Grow G ι H ι H' := ⟨List.prefix_refl _, fun _ h => .inl h, fun b o e _ n => z.ext b o e n, fun b ps e _ => z.tbl b ps e⟩
theorem Stays.wd (z : Stays G.T H H') (w : Wd G ι μ H) : Wd G ι μ H' := by
  have keep : ∀ a ∈ ι, ∀ u, H a = some u → H' a = some u := fun a ha u e => by
    obtain ⟨o, e2, q⟩ := w.mu a ha
    rw [e] at e2
    cases e2
    exact z.ext a u e fun ps h => by rw [h] at q; cases q
  refine ⟨w.len, w.nd, fun a ha => ?_, fun n a o h1 h2 => (w.ob n a o h1 h2).grow w z.grow (keep a (List.mem_of_getElem? h1)), z.tabs⟩
  obtain ⟨o, e, q⟩ := w.mu a ha
  exact ⟨o, keep a ha o e, q⟩
theorem Stays.refl {T : TX} (t : Tabs T.l H) : Stays T H H := ⟨ExtN.refl H, fun _ ps h => ⟨ps, h⟩, t⟩
theorem Stays.trans {T : TX} {H1 : Hp} (a : Stays T H H1) (b : Stays T H1 H') : Stays T H H' := ⟨a.ext.trans b.ext, fun c ps h => let ⟨ps', h'⟩ := a.tbl c ps h; b.tbl c ps' h', b.tabs⟩
theorem Stays.obj {T : TX} {p : Addr} {o : HO} (t : Tabs T.l H) (h : H p = none) : Stays T H (upd H p o) := ⟨fun b u e _ => ext_new h b u e, fun b ps e => ⟨ps, ext_new h b _ e⟩, tabs_ext t (ext_new h)⟩
theorem Stays.of_grow {T : TX} (g : Grow G [] H ι H') (t : Tabs T.l H') : Stays T H H' := ⟨fun b o e n => g.ext b o e (by simp) n, fun b ps e => g.tbl b ps e (by simp), t⟩
end
/-! ### the names of the exception's classes, told while it is handled -/
/-- what _law_kinds tells of the class D -/
structure KFact (K : PySem.W.Frag) (mg : Str → Option Value) (st : Stmt) (N : List Str) (D : Addr) (txt : Str) : Prop where
  C : ExcC K D
  ex : ∃ (isx : Str → Option Bool) (n : Nat) (μ' : Mem), (∀ y b, isx y = some b → IsxOk K mg D y b) ∧ hSs ⟨N, fnScope st, isx⟩ n (fnBody st) (some (.rw 0) :: List.replicate (N.length - 1) none) [] = .rt (.str txt) μ'
def tKinds (T : TX) (K : PySem.W.Frag) (mg : Str → Option Value) (st : Stmt) (N : List Str) (p : Addr × Obj) (i : Nat) : TE := fun σ H Q => σ[i]? = some (some (.ref p.1)) ∧ Tabs T.l H ∧ ∃ (D : Addr) (txt : Str), KFact K mg st N D txt ∧ L2N.Zn (.ref D) none p.2 ∧ ∀ H', Stays T H H' → Q (.str txt) H'
theorem pe_kinds {X : Cx} {T : TX} {kn e y : Str} {st : Stmt} {N : List Str} {p : Addr × Obj} {i k : Nat} {q0 q1 pos : Pos} (dk : DefX X.K X.mg kn st N [y]) (hst : ∀ x, locK ((fnScope st).names.lookup x) = true → (fnScope st).names.lookup x = some .local)
    (hp : p ∈ X.pn) (hot : L2H.Hot1 X.A p) (hf : ∃ vs, p.2.data = .fields vs) (bz : X.mg "zip" = none) (bi : X.mg "isinstance" = none) (hr : L2H.RoomH (k + 1) X.A) (he : PE X (.Name e q1) (tVar i)) (hg : Gl X kn) (hdb : (kn == ("__debug__" : Str)) = false) :
    PE X (.Call (.Name kn q0) [.Name e q1] [] pos) (tKinds T X.K X.mg st N p i) := by
  obtain ⟨f, fd, F, hb⟩ := dk.ex
  refine ⟨fun pins s σ H Q I h => ?_⟩
  obtain ⟨hs, tabs, D, txt, ⟨C, isx, n, μ', hisx, hres⟩, hz, hQ⟩ := h
  refine wpAny_Call_Name_kw (ld_glob I hg F.mgf ?_ hdb)
  have ha : PA X [.Name e q1] (tCons (tVar i) tNil) := pa_cons he pa_nil rfl
  refine PySem.W.callWith_K (h₀ := X.base) I.ok.mod.kin F.kp (thn (ha.run pos pins s σ H (fun vs H1 => vs = [V.ref p.1] ∧ H1 = H) I ⟨_, hs, rfl, rfl⟩) fun us s1 ⟨vs, H1, I1, r1, ev, eH⟩ => ⟨I1.kIn, ?_⟩) rfl rfl
  subst ev eH
  have hl : us.length = 1 := by rw [← r1.length]; rfl
  have b := hb s1 us I1.kIn (by rw [List.append_nil]; exact hl)
  rw [List.append_nil] at b
  have P1 := I1.pin p (List.mem_append_left _ hp)
  have hpin : L2H.PinOk X.stack H1 s1 p := ⟨P1.1, P1.2.1, fun hm => (List.mem_cons.mp (I1.stkSub p.1 hm)).elim P1.2.2.1 P1.2.2.2.1, P1.2.2.2.2⟩
  refine wpAny_call (codeAny_mono (run_H (k := k) (E := fun _ _ _ => False) (Q := Q) F.fn dk.S hr hot hpin I1.env0 b r1 rfl fun cdv hr' => ?_) fun r s' hq => ?_)
  · let T' : TX := { l := T.l, x := fun _ => some p.1, w := T.w }
    have ok : XH (L2H.cxH (L2N.CX X.prog X.w) X.prog X.w X.K X.mg X.base N kn (fnScope st) f cdv X.A X.stack s1 H1 (fun _ _ _ => False) p) T' ⟨N, fnScope st, isx⟩ p D :=
      { N := rfl, nd := dk.S.nd, sc := rfl, st := fun x hx => ⟨.inl (hst x hx), .inr (hst x hx)⟩, ht := rfl, hp := List.mem_singleton.mpr rfl, hot := hot, C := C, hz := hz.zc, hf := hf, isx := hisx, bz := bz, bi := bi }
    refine ⟨_, hsnd_Ss (W := fun _ _ _ _ => False) ok n _, ?_⟩
    have hlen : N.length = 1 + (N.length - 1) := by
      have := congrArg List.length dk.S.pre
      rw [List.length_take] at this
      have h1 : [y].length = 1 := rfl
      omega
    refine ⟨some (.rw 0) :: List.replicate (N.length - 1) none, [], [], ⟨rfl, .nil, fun a ha => absurd ha (by simp), fun n a o h => by simp at h, tabs⟩, ⟨?_, fun j d hj => ?_⟩, ?_⟩
    · unfold L2.start
      rw [List.length_cons, List.length_replicate, List.length_append, List.length_map, List.length_replicate]
      show _ = 1 + (N.length - 1)
      omega
    · cases j with
      | zero =>
        cases hj
        exact ⟨.ref p.1, rfl, .rw rfl⟩
      | succ j =>
        exfalso
        rw [List.getElem?_cons_succ, List.getElem?_replicate] at hj
        split at hj <;> cases hj
    · rw [hres]
      intro v H' ι' g w r
      cases r
      exact hQ H' (.of_grow g w.tb)
  · cases r with
    | error e =>
      obtain ⟨_, _, _, _, _, _, _, _, _, _, _, _, z⟩ := hq
      exact z.elim
    | ok fl =>
      cases fl with
      | ret u => exact I1.after hq
      | next => exact False.elim hq
      | brk => exact False.elim hq
      | cont => exact False.elim hq
end Ev

set_option Elab.async false
set_option linter.all false
set_option maxRecDepth 100000
set_option maxHeartbeats 4000000
namespace Ev
open PySem PySem.Spec PyProof.Rows L2 LamX C8
/-- what is to be known of the def that tells what a call returns, or its error -/
structure LawF (K : PySem.W.Frag) (mg : Str → Option Value) (x : Str) (stC stK : Stmt) (a fo e kn tm se y : Str) (NK : List Str) (TM SE : Addr) (told : Str) : Prop where
  dx : DefX K mg x stC [a, fo, e] [a]
  dk : DefX K mg kn stK NK [y]
  shape : ∃ (b1 : Stmt) (bs1 : List Stmt) (j1 j2 j3 j4 : Nat) (p1 p2 p3 p4 p5 p6 p7 p8 p9 p10 p11 p12 p13 p14 p15 p16 p17 p18 p19 p20 p21 p22 : Pos), fnBody stC = [.Assign [.Name fo p1] (.Constant .none j1 p2) p3,
    .Try [.Assign [.Name fo p4] (.Tuple [.Constant (.str told) j2 p5, .Call (.Name a p6) [] [] p7] j3 p8) p9]
      [.ExceptHandler (some (.Name tm p10)) (some e) (b1 :: bs1) p11,
       .ExceptHandler (some (.Name se p12)) (some e) [.Assign [.Name fo p13] (.Tuple [.Call (.Name kn p14) [.Name e p15] [] p16] j4 p17) p18] p19] [] [] p20,
    .Return (some (.Name fo p21)) p22]
  slo : ∀ z ∈ [a, fo, e], (fnScope stC).names.lookup z = some .local ∧ badName z = false
  sgl : ∀ z ∈ [kn, tm, se], (fnScope stC).names.lookup z = some .globalImplicit ∧ badName z = false
  hst : ∀ x, locK ((fnScope stK).names.lookup x) = true → (fnScope stK).names.lookup x = some .local
  mtm : mg tm = some (.ref TM)
  mse : mg se = some (.ref SE)
  mz : mg "zip" = none
  mi : mg "isinstance" = none
  cls : ∀ c ∈ lawCls, ∃ D, mg c = some (.ref D) ∧ PySem.W.exmOne K (.ref D) (.ref TM) = some false ∧ PySem.W.exmOne K (.ref D) (.ref SE) = some true ∧ KFact K mg stK NK D (c ++ " +")
theorem law_ok {X : Cx} {T : TX} {W : WX} {k : Nat} {x : Str} {c P : Addr} {stC stK : Stmt} {a fo e kn tm se y : Str} {NK : List Str} {TM SE : Addr} (F : LawF X.K X.mg x stC stK a fo e kn tm se y NK TM SE "told") (hdb : (x == ("__debug__" : Str)) = false)
    (TB : TabB X.base X.mg c P) (hcode : X.env.code = .ref c) (hmT : (P, X.env.qual ++ "<lambda>") ∈ T.l) (hu : ∀ p ∈ T.l, p.1 = P → p.2 = X.env.qual ++ "<lambda>") (hr : Room (k + 2) X.A) : LawOk X T W k x := by
  intro params body scope f p lpos pos hlam g1 g2 g3 g4 g5 g6 g7 hg hbody
  obtain ⟨f1, f2, f3, f4, f5, f6, f7⟩ := params
  dsimp only at g1 g2 g3 g4 g5 g6 g7
  subst g1 g2 g3 g4 g5 g6 g7
  have L := lamS_by hlam
  obtain ⟨g, fd, D, hb⟩ := F.dx.ex
  obtain ⟨oc, od, dV, kV, doc, pm, an, cdv, ct, osl, rfl, lk, hcd⟩ := D.fn.ex
  obtain ⟨b1, bs1, j1, j2, j3, j4, p1, p2, p3, p4, p5, p6, p7, p8, p9, p10, p11, p12, p13, p14, p15, p16, p17, p18, p19, p20, p21, p22, hB⟩ := F.shape
  refine ⟨fun pins s σ H Q I ⟨ρ, μ, ι, w, ev, q⟩ => ?_⟩
  refine wpAny_Call_Name_kw (ld_glob I hg D.mgf ?_ hdb)
  refine PySem.W.callWith_K (h₀ := X.base) I.ok.mod.kin D.kp ?_ (by rfl) (by rfl)
  show wpAny _ _ (spliced ((false, eval (.Lambda ⟨[], [], none, [], [], none, []⟩ body scope lpos) X.env) :: backTo pos (starEach [] X.env))) _ _ s
  refine Calls.spliced_cons (lam_make3 I TB hcode hmT hu w.tb rfl (L.has I.ok) fun fa c' pm' ctv H1 s' I1 eN eT T1 hf hfn hfr hco => ?_)
  refine Calls.spliced_nil ⟨I1.kIn, ?_⟩
  have z1 : Stays T H H1 := ⟨eN, eT, T1⟩
  have w1 : Wd (gx X T) ι μ H1 := z1.wd (G := gx X T) w
  have gr1 : Grow (gx X T) ι H ι H1 := z1.grow (G := gx X T)
  refine wpAny_call (codeAny_mono (run_ofS (CX := L2N.CX X.prog X.w) (k := k + 1) (N := [a, fo, e]) (ps := [a]) (us := [.ref fa]) (vs := [V.ref fa]) (Q := Q) (E := fun _ _ _ => False) lk hcd F.dx.S hr I1.env0 (hb s' [.ref fa] I1.kIn rfl) (.cons rfl .nil) rfl fun hr' => ?_) fun r s2 hq => ?_)
  · -- the body
    let Z : Cx := cxOf (L2N.CX X.prog X.w) X.prog X.w X.K X.mg X.base [a, fo, e] x (fnScope stC) g cdv X.A X.stack s' H1 (fun _ _ _ => False)
    have nd : ([a, fo, e] : List Str).Nodup := F.dx.S.nd
    have sa := F.slo a (by simp)
    have sf := F.slo fo (by simp)
    have sx := F.slo e (by simp)
    have sk := F.sgl kn (by simp)
    have st := F.sgl tm (by simp)
    have ss := F.sgl se (by simp)
    -- the slots
    let lst : List (Value × Nat × (Addr → Value → Option Addr → TS)) := [(.ref TM, 2, fun _ _ _ => fun _ _ _ => False),
      (.ref SE, 2, fun a' cls d => fun D σ H => d = none ∧ σ[2]? = some (some (.ref a')) ∧ Tabs T.l H ∧ (∃ C txt, cls = .ref C ∧ KFact X.K X.mg stK NK C txt ∧ ∀ H' p, Stays T H H' → H' p = none → D.nx (σ.set 1 (some (.ref p))) (upd H' p (.tup [.str txt]))))]
    have hlam' : ∀ (A : Around) (outer : List PySem.Env) (s : Shared) (H : Hp) (E : XK), Room k (A.deeper (lamEnv X scope s.heap.objs.size fa c')) → PE (lamCxN X A outer s H E scope fa c') body (tE (gx X T) (fun cls d _ H' => E cls d H') f) := fun A outer s H E hr2 =>
      hbody (lamCxN X A outer s H E scope fa c') (fun cls d _ H' => E cls d H') rfl rfl rfl rfl rfl rfl rfl rfl hr2 (L2N.takes_of rfl rfl rfl rfl) (L2.passes_of rfl)
    let tb : WX → TS := fun W => tAsg (tTup (tCons (tC (.str "told")) (tCons (fun σZ HZ Q => σZ[0]? = some (some (.ref fa)) ∧ HZ c' = some (CodeO c' (X.env.qual ++ "<lambda>")) ∧ tE (gx X T) (fun cls d _ H' => W cls d σZ H') f σ HZ Q) tNil))) (gName 1)
    have hb' : ∀ (W : WX) (pn : List (Addr × Obj)) (xe : Value → Shared → Prop), L2N.Takes (Z.tr pn xe) W → PassesOwn (model Z.prog Z.w) Z.A Z.env xe → PSs (Z.tr pn xe) [.Assign [.Name fo p4] (.Tuple [.Constant (.str "told") j2 p5, .Call (.Name a p6) [] [] p7] j3 p8) p9] (tb W) := fun W pn xe tk _ =>
      pss_one (ps_set nd rfl (.inl sf.1) (pe_tup (pa_cons pe_str (pa_cons (pe_actN (i := 0) (tb := fun E => tE (gx X T) (fun cls d _ H' => E cls d H') f) I1 L hf hfn hfr rfl tk hr' hlam' rfl (.inl sa.1) (bad_dbg sa.2).1 (bad_dbg sa.2).2.1) pa_nil rfl) rfl)) rfl (.inr sf.1))
    have hh : HdsA Z [.ExceptHandler (some (.Name tm p10)) (some e) (b1 :: bs1) p11, .ExceptHandler (some (.Name se p12)) (some e) [.Assign [.Name fo p13] (.Tuple [.Call (.Name kn p14) [.Name e p15] [] p16] j4 p17) p18] p19] lst := by
      refine .cons ⟨st.1, (bad_dbg st.2).1, .inl F.mtm⟩ rfl sx.1 (fun a' oe cls d pn hz hv => ⟨fun _ _ _ _ _ _ h => h.elim⟩) (.cons ⟨ss.1, (bad_dbg ss.2).1, .inl F.mse⟩ rfl sx.1 (fun a' oe cls d pn hz hv => ?_) .nil)
      refine (pss_one (ps_set (i := 1) nd rfl (.inl sf.1) (pe_tup (pa_cons (pe_kinds (T := T) (p := (a', oe)) (i := 2) (k := k) (X := Z.suite a' ((a', oe) :: pn)) F.dk F.hst (List.mem_cons_self) ?_ hv F.mz F.mi ⟨hr'.dp, hr'.un⟩ (pe_var rfl (.inl sx.1) (bad_dbg sx.2).1 (bad_dbg sx.2).2.1) sk.1 (bad_dbg sk.2).1) pa_nil rfl)) rfl (.inr sf.1))).weak fun D σ H h => ?_
      · obtain ⟨vs, hv⟩ := hv
        exact ⟨rfl, vs, hv, hz.2.2 vs hv⟩
      · obtain ⟨hd, h1, h2, C, txt, hc, hk, h3⟩ := h
        subst hd hc
        exact ⟨h1, h2, C, txt, hk, hz, fun H' st => ⟨by show 1 ≤ sizeLine; rw [sizeLine_eq]; omega, fun p hp => h3 H' p st hp⟩⟩
    refine ⟨_, by rw [hB]; exact pss_cons (ps_set (i := 1) nd rfl (.inl sf.1) pe_non rfl (.inr sf.1)) (pss_cons (ps_try_manyA (X := Z) (Wout := fun _ _ _ _ => False) rfl rfl nd (fun _ _ x => by obtain ⟨_, _, _, _, _, _, _, _, _, _, _, _, _, _, _, _, z⟩ := x; exact z.elim) hb' hh) (pss_one (ps_ret (pe_var (i := 1) rfl (.inl sf.1) (bad_dbg sf.2).1 (bad_dbg sf.2).2.1)))), ?_⟩
    refine ⟨rfl, hco, ρ, μ, ι, w1, ev.grow w gr1, ?_⟩
    unfold eLaw at q
    cases hf : f ρ μ with
    | er => rw [hf] at q; exact q.elim
    | ok d μ' =>
      rw [hf] at q
      intro v H' ι' g' w' r
      refine ⟨by show 2 ≤ sizeLine; rw [sizeLine_eq]; omega, fun p hp => ⟨.ref p, rfl, ?_⟩⟩
      exact q _ _ ι' ((gr1.trans g').trans (.obj hp)) (w'.obj hp) (.tup (SqT.of upd_same) (.cons (.str _) (.cons (r.grow w' (.obj hp)) .nil)))
    | ex x1 μ' =>
      rw [hf] at q
      intro H' ι' cls od g' w' hx
      have q : Pst (gx X T) ι H (fun c d H' => W c d σ H') Q (match lawEx x1 with | some d => .ok d μ' | none => .er) := q
      unfold lawEx at q
      split at q
      · rename_i d0 hd0
        split at hd0
        · rename_i hcond
          cases hd0
          rw [Bool.and_eq_true] at hcond
          obtain ⟨D0, hm0, e1, e2, kf⟩ := F.cls x1.c (by simpa using hcond.2)
          obtain ⟨hx1, hx2, hx3⟩ := hx
          have hx1 : X.mg x1.c = some cls := hx1
          rw [hm0] at hx1
          cases hx1
          refine ⟨false, e1, (fun h => by cases h), fun _ => ⟨true, e2, fun _ a' na => ⟨hx3, rfl, w'.tb, D0, _, rfl, kf, fun H'' p z hp => ⟨.ref p, rfl, ?_⟩⟩, fun h => by cases h⟩⟩
          have z' : Stays (gx X T).T H' H'' := z
          exact q _ _ ι' ((gr1.trans g').trans (z'.grow.trans (.obj hp))) ((z'.wd w').obj hp) (.tup (SqT.of upd_same) (.cons (.str _) .nil))
        · cases hd0
      · exact q.elim
  · cases r with
    | error e =>
      obtain ⟨_, _, _, _, _, _, _, _, _, _, _, _, z⟩ := hq
      exact z.elim
    | ok fl =>
      cases fl with
      | ret u => exact I1.after hq
      | next => exact False.elim hq
      | brk => exact False.elim hq
      | cont => exact False.elim hq
end Ev

set_option Elab.async false
set_option linter.all false
set_option maxRecDepth 100000
set_option maxHeartbeats 4000000
namespace Ev
open PySem PySem.Spec PyProof.Rows L2 LamX
/-! ### min(a list, key=lambda x: x[c]) -/
structure KeyS (sc : Scope) (x : Str) : Prop where
  kind : sc.kind = .function
  co : sc.isCoroutine = false
  gen : sc.isGenerator = false
  loc : sc.names.lookup x = some .local
  all : ∀ y ∈ sc.names, y.2 = .local
  dbg : (x == ("__debug__" : Str)) = false
theorem keyS_by {sc : Scope} {x : Str} (h : keySB sc x = true) : KeyS sc x := by
  unfold keySB at h
  simp only [Bool.and_eq_true, Bool.not_eq_true', decide_eq_true_eq, List.all_eq_true] at h
  obtain ⟨⟨⟨⟨⟨h1, h2⟩, h3⟩, h4⟩, h5⟩, h6⟩ := h
  exact ⟨h1, h2, h3, h4, h5, h6⟩
section
variable {prog : Program} {w : World} {A : Around} {E : Value → Shared → Prop} {s : Shared}
/-- the lambda, called -/
theorem key_call {f t : Addr} {qual : Str} {ap : Pos} {an : Option Expr} {scope : Scope} {pm ctv u : Value} {c' : Addr} {c : Int} {j kk : Nat} {p1 p2 p3 : Pos} {its : Array Value} {cl : List (Str × Addr)} {Q : Value → Shared → Prop} (K : KeyS scope "way") (hroom : A.depth < recursionLimit) (hlim : s.heap.NoLimit)
    (hf : s.heap.get? f = some (PySem.W.kla_obj "<lambda>" qual ⟨[], [⟨"way", an, ap⟩], none, [], [], none, []⟩ (.Subscript (.Name "way" p1) (.Constant (.int c) kk p2) p3) scope cl pm c' ctv)) (hcd : s.heap.CodeRec (.ref c') qual)
    (ht : IsTup s.heap t its) (hc1 : -(2 ^ 63) ≤ c) (hc2 : c < 2 ^ 63) (hj : seqIndex? c its.size = some j) (hu : its[j]? = some u)
    (h : ∀ h' tk, (∀ b o, s.heap.get? b = some o → h'.get? b = some o) → s.toks ≤ tk → Q u { s with heap := h', toks := tk }) : wpAny (model prog w) A (call (.ref f) [.ref t]) Q E s := by
  refine wpAny_call (codeAny_mono (R := fun r s' => r = .ok (.ret u) ∧ Q u s') ?_ fun r s' hq => by obtain ⟨rfl, q⟩ := hq; exact q)
  refine PySem.W.kla_callFunE hroom hf rfl K.co K.gen rfl hcd ?_
  show wpAny _ _ (bindArgs _ ⟨[.ref t], []⟩) _ _ _
  rw [show bindArgs (PySem.W.kla_fn "<lambda>" qual ⟨[], [⟨"way", an, ap⟩], none, [], [], none, []⟩ (.Subscript (.Name "way" p1) (.Constant (.int c) kk p2) p3) scope cl pm (.ref c') ctv) ⟨[Value.ref t], []⟩ = (pure [(("way" : Str), Value.ref t)] : Sem (List (Str × Value))) from rfl]
  refine wpAny_pure (wpAny_newFunctionEnv (fun y hy e => by rw [K.all y hy] at e; cases e) (fun y hy => by rw [List.mem_singleton.mp hy]; exact K.loc) (fun h₁ hns hsb => ?_) K.kind)
  have kp : ∀ b o, s.heap.get? b = some o → h₁.get? b = some o := fun b o e => hsb.extBut b o (Nat.ne_of_lt (Heap.lt_size e)) (Heap.get?_push_of_some _ e)
  refine ⟨hlim.fresh _ hsb, PySem.W.kla_codeExpr ?_⟩
  refine Subscript_ (wpAny_Name (wpAny_loadName_local K.kind K.loc hns (by simp; rfl) ?_) K.dbg)
  refine wpAny_Constant_int ?_
  have ht' : IsTup h₁ t its := by
    obtain ⟨o, e1, e2⟩ := ht
    exact ⟨o, kp t o e1, e2⟩
  refine subscriptTail_builtinR (x := u) ⟨_, ht'.choose_spec.1, ht'.choose_spec.2.1⟩ slot_tuple_getitem.lookup (getItem_tuple (Q := fun r s' => r = u ∧ (Except.ok (Flow.ret r) : Result) = .ok (.ret u) ∧ Q u s') ht' hc1 hc2 hj hu ⟨rfl, rfl, h h₁ _ kp (by simp; omega)⟩) rfl
end
/-! ### at the level of data -/
section
variable {X : Cx} {T : TX} {W : WX} {ι : List Addr} {H : Hp} {μ : Mem} {G : Gc}
theorem keyI_some {c : Int} {d : D} (h : (keyI c d).isSome = true) : ∃ xs, d = .tup xs ∧ atI xs c = some (.int (keyG c d)) := by
  cases d with
  | tup xs =>
    unfold keyG
    unfold keyI at h ⊢
    dsimp only at h ⊢
    cases e : atI xs c with
    | none => rw [e] at h; cases h
    | some y =>
      rw [e] at h
      cases y <;> first | (cases h; done) | exact ⟨xs, rfl, e⟩
  | _ => cases h
/-- the heap as it was, with more -/
structure Kp (s s' : Shared) : Prop where
  heap : ∀ b o, s.heap.get? b = some o → s'.heap.get? b = some o
  gens : s'.gens = s.gens
  drawn : s'.drawn = s.drawn
  os : s'.os = s.os
theorem min_run {pins : List (Addr × Obj)} {σ : St} {s : Shared} {f l : Addr} {qual : Str} {ap : Pos} {an : Option Expr} {scope : Scope} {pm ctv : Value} {c' : Addr} {c : Int} {kk : Nat} {p1 p2 p3 : Pos} {cl : List (Str × Addr)} {Q : VK} {vs : List V} {x : D} {xs : List D}
    (I : Inv X pins σ H s) (hc : X.calm = true) (K : KeyS scope "way") (hroom : X.A.depth < recursionLimit) (hf : s.heap.get? f = some (PySem.W.kla_obj "<lambda>" qual ⟨[], [⟨"way", an, ap⟩], none, [], [], none, []⟩ (.Subscript (.Name "way" p1) (.Constant (.int c) kk p2) p3) scope cl pm c' ctv)) (hcd : s.heap.CodeRec (.ref c') qual)
    (hl : SqL X.K H l vs) (r : RelDs (gx X T) ι H (x :: xs) vs) (hk : ((x :: xs).all fun y => (keyI c y).isSome) = true) (hcb : c.natAbs < 1000) (hQ : ∀ v, RelD (gx X T) ι H (xs.foldl (fun a y => if keyG c y < keyG c a then y else a) x) v → Q v H) :
    wpAny (model X.prog X.w) X.A (call (.builtin "min") [.ref l] [(Str.ofString "key", .ref f)]) (EP X pins σ Q) X.xe s := by
  obtain ⟨its, rv, hil, hz⟩ := I.list hl
  have hlen : its.length = xs.length + 1 := by
    have e1 := rv.length
    have e2 := r.length
    simp only [List.length_cons] at e2
    omega
  let kf : Nat → Int := fun i => keyG c ((x :: xs).getD i .non)
  have hll : l < s.heap.objs.size := by obtain ⟨o, n, e, _⟩ := id hil; exact Heap.lt_size e
  refine call_min_walkK (wpAny_pyIter_list hil.isList ?_)
  -- the items
  have items : ∀ i v, its.toArray[i]? = some v → ∃ t us j u, v = .ref t ∧ IsTup s.heap t us ∧ seqIndex? c us.size = some j ∧ us[j]? = some u ∧ ∃ tk, u = .int (kf i) tk := by
    intro i v hv
    have hv' : its[i]? = some v := by simpa using hv
    have hi : i < xs.length + 1 := by have := (List.getElem?_eq_some_iff.mp hv').1; omega
    have hd : (x :: xs)[i]? = some ((x :: xs).getD i .non) := by simp [List.getD, hi]
    obtain ⟨w, hw1, hw2⟩ := r.get hd
    obtain ⟨zs, ez, ea⟩ := keyI_some (List.all_eq_true.mp hk _ (List.mem_of_getElem? hd))
    rw [ez] at hw2
    cases hw2 with
    | tup ht q =>
      rename_i t ws
      obtain ⟨u0, hu0, ru0⟩ := rv.get hw1
      rw [hv'] at hu0
      cases hu0
      cases (show v = Value.ref t from ru0)
      obtain ⟨us, rus, pus, _⟩ := I.tuple ht
      obtain ⟨y, hy1, hy2⟩ := q.at ea
      cases hy2
      obtain ⟨j, h1, h2, h3, h4, h5⟩ := atI_get hy1
      obtain ⟨u, hu1, hu2⟩ := rus.get h2
      obtain ⟨tk, rfl⟩ := (show ∃ tk, u = Value.int _ tk from hu2)
      have hu1' : us[j]? = some (.int (kf i) tk) := hu1
      refine ⟨t, us.toArray, j, _, rfl, pus, ?_, by simpa using hu1', tk, rfl⟩
      rw [List.size_toArray, ← rus.length]
      exact h1
  refine ⟨s.heap.objs.size, [s.heap.objs.size, l], [s.heap.objs.size], fun a b => b = a, its.toArray.size, fun i v => its.toArray[i]? = some v, fun i s' => s'.heap.IsListIter s.heap.objs.size l i ∧ s'.heap.IsList l its.toArray, Kp s, fun i k _ => ∃ t, k = .int (kf i) t, fun i j => decide (kf i < kf j), rfl,
    (Walks.list (prog := X.prog) (w := X.w) (A := X.A.in1) (show X.A.in1.handled = none from I.ok.hd hc) s.heap.objs.size l (Nat.ne_of_lt hll) its.toArray).toS, ⟨⟨_, Heap.get?_push_size _ rfl, rfl, rfl⟩, ?_⟩, fun b hb => ?_, by rw [List.size_toArray]; omega, ?_, ⟨fun b o e => Heap.get?_push_of_some _ e, rfl, rfl, rfl⟩, fun v s' hv J => ?_⟩
  · exact hil.isList.at fun o e => Heap.get?_push_of_some _ e
  · rw [Heap.size_push]
    rcases List.mem_cons.mp hb with e | e
    · rw [e]; exact Nat.lt_succ_self _
    · rw [List.mem_singleton.mp e]; exact Nat.lt_succ_of_lt hll
  · -- the key's runs
    have hS : (s.heap.push { cls := .type "list_iterator", data := .fields #[.ref l, .int 0 0] }).objs.size = s.heap.objs.size + 1 := Heap.size_push ..
    refine ⟨fun s1 s2 J m => ⟨fun b o e => m.heap b o ?_ (J.heap b o e), m.gens.trans J.gens, m.drawn.trans J.drawn, m.os.trans J.os⟩, fun i k s1 s2 h _ => h, fun i v s1 o Q' E' hi hv J st ho hq => ?_, fun i j ki kj s1 Q' E' J hki hkj hq => ?_⟩
    · have hb := Heap.lt_size e
      intro hm
      rcases List.mem_cons.mp hm with z | z
      · rw [z] at hb
        have hb : (s.heap.push { cls := .type "list_iterator", data := .fields #[.ref l, .int 0 0] }).objs.size < s.heap.objs.size := hb
        omega
      · rw [List.mem_singleton.mp z] at hb
        exact Nat.lt_irrefl _ hb
    · obtain ⟨t, us, j, u, rfl, ht, hj, hu, tk, rfl⟩ := items i v hv
      have hcd' : s1.heap.CodeRec (.ref c') qual := by
        obtain ⟨c0, oc, vs0, t0, e1, e2, e3⟩ := hcd
        exact ⟨c0, oc, vs0, t0, e1, J.heap _ _ e2, e3⟩
      have ht' : IsTup s1.heap t us := by
        obtain ⟨o, e1, e2⟩ := ht
        exact ⟨o, J.heap t o e1, e2⟩
      refine key_call K (show X.A.in1.depth < recursionLimit from hroom) (I.nolimit.keeps J.heap) (J.heap _ _ hf) hcd' ht' (by omega) (by omega) hj hu fun h' tk' hk' htk => ?_
      exact hq _ _ ⟨fun b o e => hk' b o (J.heap b o e), J.gens, J.drawn, J.os⟩ ⟨st.1.at fun o e => hk' _ o e, st.2.at fun o e => hk' _ o e⟩ (hk' _ _ ho) ⟨tk, rfl⟩ fun _ _ h => h
    · exact CmpOf.ints_lt (P := fun i v => ∃ t, v = .int (kf i) t) kf (fun _ _ h => h) i j ki kj s1 Q' E' hki hkj hq
  · have hx := PySem.W.argBest_fold (fun y a => decide (keyG c y < keyG c a)) .non x xs xs.length (Nat.le_refl _)
    have e1 : its.toArray.size - 1 = xs.length := by rw [List.size_toArray]; omega
    rw [e1] at hv
    rw [List.take_length] at hx
    have hv' : its[argBest (fun i j => decide (kf i < kf j)) xs.length]? = some v := by simpa using hv
    have hle : argBest (fun i j => decide (kf i < kf j)) xs.length ≤ xs.length := hx.1
    have hd : (x :: xs)[argBest (fun i j => decide (kf i < kf j)) xs.length]? = some ((x :: xs).getD (argBest (fun i j => decide (kf i < kf j)) xs.length) .non) := by
      have : argBest (fun i j => decide (kf i < kf j)) xs.length < (x :: xs).length := by rw [List.length_cons]; omega
      rw [List.getD, List.getElem?_eq_getElem this]; rfl
    obtain ⟨w, hw1, hw2⟩ := r.get hd
    obtain ⟨u0, hu0, ru0⟩ := rv.get hw1
    rw [hv'] at hu0
    cases hu0
    have e2 : (x :: xs).getD (argBest (fun i j => decide (kf i < kf j)) xs.length) .non = xs.foldl (fun a y => if keyG c y < keyG c a then y else a) x := by
      have := hx.2
      simp only [decide_eq_true_eq] at this
      exact this
    rw [e2] at hw2
    have es : s' = { s with heap := s'.heap, toks := s'.toks } := by
      obtain ⟨_, j1, j2, j3⟩ := J
      cases s'
      cases s
      dsimp only at j1 j2 j3 ⊢
      rw [j1, j2, j3]
    refine ⟨w, H, ?_, ru0, hQ w hw2⟩
    rw [es]
    exact I.kept (t' := s'.toks) J.heap
theorem key_ok {c0 P : Addr} (TB : TabB X.base X.mg c0 P) (hcode : X.env.code = .ref c0) (hmT : (P, X.env.qual ++ "<lambda>") ∈ T.l) (hu : ∀ p ∈ T.l, p.1 = P → p.2 = X.env.qual ++ "<lambda>") (hc : X.calm = true) (hroom : X.A.depth < recursionLimit) : KeyOk X T W := by
  intro e fe an ap p p1 p2 p3 lpos kpos pos scope c kk he hs hK hg hm
  have K := keyS_by hK
  refine ⟨fun pins s σ H Q I ⟨ρ, μ, ι, w, ev, q⟩ => ?_⟩
  refine wpAny_Call_Name_kw (ld_blt I hg hm boot_min ?_)
  have q1 := Pst.bind w ev q
  have ha : PA X [e] (tCons (tE (gx X T) W fe) tNil) := pa_cons he pa_nil hs
  refine PyProof.Rows.callWith_kw (thn (ha.run pos pins s σ H (fun vs H1 => ∃ x, vs = [x] ∧ ∃ d μ1 ι1, Grow (gx X T) ι H ι1 H1 ∧ Wd (gx X T) ι1 μ1 H1 ∧ EnvR (gx X T) ι1 H1 ρ σ ∧ RelD (gx X T) ι1 H1 d x ∧ fe ρ μ = .ok d μ1 ∧ Pst (gx X T) ι1 H1 (fun c d H' => W c d σ H') Q (minKeyD c d μ1).r) I ⟨ρ, μ, ι, w, ev, ?_⟩) fun us s1 ⟨vs, H1, I1, r1, q2⟩ => ?_) (by rw [hs]; rfl) (by rw [hs]; rfl) rfl rfl
  · cases hfe : fe ρ μ with
    | er => rw [hfe] at q1; exact q1
    | ex y m => rw [hfe] at q1; exact q1
    | ok d m =>
      rw [hfe] at q1
      intro v H' ι' g' w' r
      exact ⟨v, rfl, q1 v H' ι' g' w' r⟩
  · obtain ⟨x, rfl, d, μ1, ι1, g1, w1, e1, rd, z, q3⟩ := q2
    rw [show (backToKw pos (keywordEach [⟨some "key", .Lambda ⟨[], [⟨"way", an, ap⟩], none, [], [], none, []⟩ (.Subscript (.Name "way" p1) (.Constant (.int c) kk p2) p3) scope lpos, kpos⟩] X.env)).map (·.2) = [do let v ← eval (.Lambda ⟨[], [⟨"way", an, ap⟩], none, [], [], none, []⟩ (.Subscript (.Name "way" p1) (.Constant (.int c) kk p2) p3) scope lpos) X.env; standAt pos; pure v] from rfl]
    refine wpAny_evalAll_cons (wpAny_bind (lam_make3 I1 TB hcode hmT hu w1.tb rfl (fun y hy e => by rw [K.all y hy] at e; cases e) fun fa c' pm' ctv H2 s' I2 eN eT T1 hf hfn hfr hco => wpAny_bind (wpAny_standAt (wpAny_pure (wpAny_evalAll_nil ?_)))))
    show wpAny _ _ (call (.builtin "min") us [(Str.ofString "key", .ref fa)]) _ _ _
    have z1 : Stays T H1 H2 := ⟨eN, eT, T1⟩
    have w2 : Wd (gx X T) ι1 μ1 H2 := z1.wd (G := gx X T) w1
    have g2 : Grow (gx X T) ι1 H1 ι1 H2 := z1.grow (G := gx X T)
    have rd2 := rd.grow w1 g2
    have q4 := Pst.grow g2 q3
    cases r1 with
    | cons rx rr =>
      cases rr
      unfold minKeyD at q4
      split at q4
      · rename_i x0 xs0 e2
        split at q4
        · rename_i hb
          obtain ⟨a, vs, rfl, hl, rr⟩ := lsD_rel w2 rd2 e2
          have ru : _ = Value.ref a := rx
          subst ru
          obtain ⟨⟨oc, ws, t, hoc, hdc, hvc⟩, _, _⟩ := I2.hok c' _ hco
          exact min_run I2 hc K hroom hf ⟨c', oc, ws, t, rfl, hoc, hdc, hvc⟩ hl rr hb.1 hb.2 fun v rv => Pst.here w2 rv q4
        · exact q4.elim
      · exact q4.elim
end
end Ev

set_option Elab.async false
set_option linter.all false
set_option maxRecDepth 100000
set_option maxHeartbeats 4000000
namespace Ev
open PySem PySem.Spec PyProof.Rows L2 LamX C8
/-! ### defs by their texts -/
structure DI where
  x : Str
  st : Stmt
  ps : List Str
  N : List Str
  law : Option Str := none
  gm : Nat := 0
  lk : Bool := false
structure Pg where
  ds : List DI
  gv : List (Str × D)
  bn : List Str
  exc : List Str
  fuel : Nat
  dep : Nat
def Pg.cfg (P : Pg) (call : Tab) (d : DI) : Cfg :=
  { N := d.N, sc := fnScope d.st, st := (fnScope d.st).names, call := call, gv := fun x => P.gv.lookup x, bn := fun x => P.bn.contains x, exc := fun x => P.exc.contains x, law := d.law, lk := d.lk, fuel := P.fuel }
def runS : RS → R D
  | .rt d μ => .ok d μ
  | .nx _ μ => .ok .non μ
  | .ex x _ μ => .ex x μ
  | _ => .er
/-- what is dropped behind a call: 0 nothing, 1 what is no longer reached, 2 so, and lists are told by value -/
noncomputable def gcM : Nat → Mem → R D → R D
  | 0, _, r => r
  | 1, μ, r => gc false μ r
  | _, μ, r => gc true μ r
theorem gcM_ok {G : Gc} {ι : List Addr} {H : Hp} {μ : Mem} {E : XK} {Q : VK} {m : Nat} {r : R D} (w : Wd G ι μ H) (h : Pst G ι H E Q (gcM m μ r)) : Pst G ι H E Q r := by
  match m, h with
  | 0, h => exact h
  | 1, h => exact gc_ok w h
  | _ + 2, h => exact gc_ok w h
noncomputable def Pg.body (P : Pg) (call : Tab) (d : DI) : S := evSs (recN P.dep) (P.cfg call d) (fnBody d.st)
noncomputable def Pg.fn (P : Pg) (call : Tab) (d : DI) : Fn := fun ds μ => if ds.length = d.ps.length then gcM d.gm μ <| runS (P.body call d (ds.map some ++ List.replicate (d.N.length - d.ps.length) none) μ) else .er
noncomputable def Pg.call (P : Pg) : Nat → Tab
  | 0 => fun _ => none
  | n + 1 => fun x => (P.ds.find? fun d => d.x == x).map (P.fn (P.call n))
/-- the function's own name -/
def nmOf (x : Str) : Str := match mTab.lookup x with
  | none => x
  | some (_, m) => m
theorem nmOf_fn {x : Str} (h : mTab.lookup x = none) : nmOf x = x := by unfold nmOf; rw [h]
/-- a def or a method, by its key -/
structure DefM (K : PySem.W.Frag) (mg : Str → Option Value) (x : Str) (st : Stmt) (N ps : List Str) : Prop where
  exb : ∃ (f : Addr) (fd : FuncData), C8.Fun K (nmOf x) x st f fd ∧ LocF K mg x f ∧ ∀ us : List Value, us.length = ps.length → bindArgs fd ⟨us, []⟩ = pure (ps.zip us)
  S : FnScope N ps (fnScope st)
theorem DefM.of {K : PySem.W.Frag} {mg : Str → Option Value} {x : Str} {st : Stmt} {N ps : List Str} (d : DefX K mg x st N ps) (hx : mTab.lookup x = none) : DefM K mg x st N ps := by
  obtain ⟨f, fd, F, h⟩ := d.exb
  refine ⟨⟨f, fd, by rw [nmOf_fn hx]; exact F.fn, ?_, h⟩, d.S⟩
  unfold LocF
  rw [hx]
  exact ⟨F.mgf, F.kp⟩
/-- of a def that makes lambdas: its code object, its table -/
structure DefL (K : PySem.W.Frag) (mg : Str → Option Value) (cs : List (Addr × Addr)) (T : TX) (d : DI) : Prop where
  ex : ∃ (f c P : Addr), mg d.x = some (.ref f) ∧ (∀ (oc : Value) (od : Option Addr) (dV kV doc pm : Value) (an : Option Addr) (cdv ct : Value) (osl : Array (Option Value)),
      K.lookup f = some ⟨oc, od, .func (PySem.W.fnOf d.x d.x (fnArgs d.st) (fnBody d.st) (fnScope d.st) dV kV doc pm an cdv ct), osl⟩ → cdv = .ref c) ∧
    (c, P) ∈ cs ∧ (P, (envOfC d.x (fnScope d.st) 0 0 .none).qual ++ "<lambda>") ∈ T.l ∧ ∀ p ∈ T.l, p.1 = P → p.2 = (envOfC d.x (fnScope d.st) 0 0 .none).qual ++ "<lambda>"
structure PgOk (P : Pg) (K : PySem.W.Frag) (mg : Str → Option Value) (cs : List (Addr × Addr)) (T : TX) : Prop where
  defs : ∀ d ∈ P.ds, DefM K mg d.x d.st d.N d.ps
  mn : ∀ x a, mg x = some (.ref a) → mTab.lookup x = none
  gv : ∀ x d, P.gv.lookup x = some d → ∃ u v, mg x = some u ∧ RelV v u ∧ ∀ ι H, RelD ⟨K, mg, T⟩ ι H d v
  bn : ∀ x ∈ P.bn, mg x = none
  exc : ∀ x ∈ P.exc, ExcOk K mg x
  lawF : ∀ d ∈ P.ds, ∀ x, d.law = some x → (∃ stC stK a fo e kn tm se y NK TM SE, LawF K mg x stC stK a fo e kn tm se y NK TM SE "told") ∧ (x == ("__debug__" : Str)) = false ∧ DefL K mg cs T d
  keyF : ∀ d ∈ P.ds, d.lk = true → DefL K mg cs T d
theorem runS_ok {G : Gc} {ι : List Addr} {H : Hp} {E : XK} {Q : VK} {r : RS} (h : Pst G ι H E Q (runS r)) : PsS G ι H (fun c d _ H' => E c d H') { nx := fun _ H' => Q .non H', rt := Q } r := by
  cases r with
  | nx ρ m => exact fun σ' H' ι' g w _ => h .non H' ι' g w .non
  | rt d m => exact h
  | ex x ρ m => exact fun σ' H' ι' c o g w _ r => h H' ι' c o g w r
  | bk ρ m => exact (show False from h).elim
  | ct ρ m => exact (show False from h).elim
  | er => exact h
theorem start_env {G : Gc} {ι : List Addr} {H : Hp} {N ps : List Str} {ds : List D} {vs : List V} (r : RelDs G ι H ds vs) (hl : vs.length = ps.length) (hp : ps.length ≤ N.length) : EnvR G ι H (ds.map some ++ List.replicate (N.length - ps.length) none) (L2.start N vs) := by
  have hd := r.length
  unfold L2.start
  refine ⟨by simp only [List.length_append, List.length_map, List.length_replicate]; omega, fun i d h => ?_⟩
  by_cases hi : i < ds.length
  · rw [List.getElem?_append_left (by rw [List.length_map]; exact hi), List.getElem?_map] at h
    cases e : ds[i]? with
    | none => rw [e] at h; cases h
    | some d' =>
      rw [e] at h
      cases h
      obtain ⟨v, h1, h2⟩ := r.get e
      exact ⟨v, by rw [List.getElem?_append_left (by rw [List.length_map, ← hd]; exact hi), List.getElem?_map, h1]; rfl, h2⟩
  · rw [List.getElem?_append_right (by rw [List.length_map]; omega), List.getElem?_replicate] at h
    split at h <;> cases h
section
variable {P : Pg} {prog : Program} {w : World} {K : PySem.W.Frag} {mg : Str → Option Value} {base : Heap} {cs : List (Addr × Addr)} {T : TX}
theorem fn_ok (hw : T.w = w) (ok : PgOk P K mg cs T) (tb : ∀ p ∈ cs, TabB base mg p.1 p.2) {n : Nat} (ih : CallOk prog w K mg base T (4 * n) (P.call n)) {d : DI} (hd : d ∈ P.ds) {f : Addr} {fd : FuncData} (F : C8.Fun K (nmOf d.x) d.x d.st f fd) (hF : d.law ≠ none ∨ d.lk = true → mg d.x = some (.ref f) ∧ nmOf d.x = d.x) :
    FnOk prog w K mg base (L2N.CX prog w) (4 * (n + 1)) f fd d.ps (spD ⟨K, mg, T⟩ (P.fn (P.call n) d) d.ps.length) := by
  have X0 := ok.defs d hd
  obtain ⟨oc, od, dV, kV, doc, pm, an, cdv, ct, osl, rfl, lk, hcd⟩ := F.ex
  have hpl : d.ps.length ≤ d.N.length := by
    have := congrArg List.length X0.S.pre
    rw [List.length_take] at this
    omega
  refine (fn_of (k := 4 * n + 3) (sp := spD ⟨K, mg, T⟩ (P.fn (P.call n) d) d.ps.length) lk hcd X0.S (fun vs H Q E ⟨ds, μ, ι, _, r, hl, _⟩ => by rw [← r.length]; exact hl) fun A outer s H vs Q E hr hsp => ?_).mono (by omega)
  obtain ⟨ds, μ, ι, wd, r, hl, hq⟩ := hsp
  have hq : Pst ⟨K, mg, T⟩ ι H E Q (if ds.length = d.ps.length then gcM d.gm μ <| runS (P.body (P.call n) d (ds.map some ++ List.replicate (d.N.length - d.ps.length) none) μ) else .er) := hq
  rw [if_pos hl] at hq
  replace hq := gcM_ok wd hq
  let X : Cx := cxOf (L2N.CX prog w) prog w K mg base d.N d.x (fnScope d.st) f cdv A outer s H E
  have tk : L2N.Takes X (fun cls d _ H' => E cls d H') := L2N.takes_of rfl rfl rfl rfl
  have okX : XOk X T (fun cls d _ H' => E cls d H') (P.cfg (P.call n) d) (4 * n) :=
    { N := rfl
      nd := X0.S.nd
      sc := rfl
      fk := X0.S.kind
      calm := rfl
      room1 := hr.mono (by omega)
      wt := hw
      mn := ok.mn
      tk := tk
      pass := L2.passes_of rfl
      st := fun y hy => by
        have hy : locK ((fnScope d.st).names.lookup y) = true := hy
        unfold locK at hy
        split at hy
        · rename_i e1; exact ⟨.inl e1, .inl rfl⟩
        · rename_i e1; exact ⟨.inr e1, .inl rfl⟩
        · cases hy
      call := ih
      gv := ok.gv
      bn := fun y hy => ok.bn y (by simpa [Pg.cfg] using hy)
      exc := fun y hy => ok.exc y (by simpa [Pg.cfg] using hy)
      law := fun y hy => by
        obtain ⟨⟨stC, stK, a, fo, e, kn, tm, se, yy, NK, TM, SE, LF⟩, h1, f', c, P', h2, h3, h4, h5, h6⟩ := ok.lawF d hd y hy
        obtain ⟨hmf, hnm⟩ := hF (.inl fun z => by have hy : d.law = some y := hy; rw [z] at hy; cases hy)
        have ef : f' = f := by
          have := h2.symm.trans hmf
          cases this
          rfl
        subst ef
        rw [hnm] at lk
        have ec := h3 _ _ _ _ _ _ _ _ _ _ lk
        exact law_ok (X := X) (c := c) (P := P') LF h1 (tb _ h4) ec h5 h6 hr
      key := fun hy => by
        obtain ⟨f', c, P', h2, h3, h4, h5, h6⟩ := ok.keyF d hd hy
        obtain ⟨hmf, hnm⟩ := hF (.inr hy)
        have ef : f' = f := by
          have := h2.symm.trans hmf
          cases this
          rfl
        subst ef
        rw [hnm] at lk
        have ec := h3 _ _ _ _ _ _ _ _ _ _ lk
        exact key_ok (X := X) (c0 := c) (P := P') (tb _ h4) ec h5 h6 rfl (Nat.lt_of_le_of_lt (Nat.le_trans (Nat.le_add_right _ _) (Nat.le_add_right _ _)) hr.dp) }
  refine ⟨_, snd_Ss okX (rec_ok P.dep) (fnBody d.st), ?_⟩
  exact ⟨_, μ, ι, wd, start_env r (by rw [← r.length]; exact hl) hpl, runS_ok hq⟩
theorem call_ok (hw : T.w = w) (ok : PgOk P K mg cs T) (tb : ∀ p ∈ cs, TabB base mg p.1 p.2) : ∀ n, CallOk prog w K mg base T (4 * n) (P.call n)
  | 0, x, c, h => by cases h
  | n + 1, x, c, h => by
    have ih := call_ok hw ok tb n
    have h : (P.ds.find? fun d => d.x == x).map (P.fn (P.call n)) = some c := h
    cases e : P.ds.find? fun d => d.x == x with
    | none => rw [e] at h; cases h
    | some d =>
      rw [e] at h
      cases h
      have hd : d ∈ P.ds := List.mem_of_find?_eq_some e
      have hx : d.x = x := by
        have := List.find?_some e
        simpa using this
      subst hx
      obtain ⟨f, fd, F, hl, hb⟩ := (ok.defs d hd).exb
      refine ⟨f, fd, d.ps, hl, .all hb, fn_ok hw ok tb ih hd F fun hL => ?_, fun ds μ hl => if_neg hl⟩
      have hx : mTab.lookup d.x = none := by
        rcases hL with hL | hL
        · obtain ⟨y, hy⟩ := Option.ne_none_iff_exists'.mp hL
          obtain ⟨_, _, ⟨f', c, P', h2, _⟩⟩ := ok.lawF d hd y hy
          exact ok.mn _ _ h2
        · obtain ⟨f', c, P', h2, _⟩ := ok.keyF d hd hL
          exact ok.mn _ _ h2
      exact ⟨(hl.fn hx).1, nmOf_fn hx⟩
/-- the law's promise, from what the evaluator says of it -/
theorem lawAt_of {l : PySem.W.OpenLaw} {x p : Str} {n m k : Nat} {fa : Addr} {h : Heap} {c : Fn} (hw : T.w = w) (ok : PgOk P K mg cs T) (hcs : ∀ q ∈ cs, h.get? q.2 = some { cls := .none, data := .fields #[] }) (hK : ∀ q ∈ cs, K.lookup q.2 = none) (hcd : ∀ q ∈ cs, PySem.W.CodeHd h q.1 q.2)
    (hT : ∀ q ∈ T.l, ∃ r ∈ cs, r.2 = q.1) (hfa : mg x = some (.ref fa)) (hc : P.call n x = some c) (hk : 4 * n ≤ k) (hb : ∀ st, (P.ds.find? fun d => d.x == x).map (·.ps) = some st → st = [p])
    (math : ∀ ns : List Int, ns.length ≤ m → (∀ z ∈ ns, Builtin.Int.intBits z ≤ 1048576) → ∃ μ', c [.fl (ns.map .int)] [] = .ok (.bl true) μ') : LawAtS l w K (L2N.CX l.prog w) k m p mg fa h := by
  cases n with
  | zero => cases hc
  | succ n =>
    have hc' : (P.ds.find? fun d => d.x == x).map (P.fn (P.call n)) = some c := hc
    cases e : P.ds.find? fun d => d.x == x with
    | none => rw [e] at hc'; cases hc'
    | some d =>
      have hd : d ∈ P.ds := List.mem_of_find?_eq_some e
      have hx : d.x = x := by
        have := List.find?_some e
        simpa using this
      have hps : d.ps = [p] := hb _ (by rw [e]; rfl)
      obtain ⟨f, fd, F, hl, hbi⟩ := (ok.defs d hd).exb
      have hmx := ok.mn _ _ hfa
      rw [hx] at hl
      have ef : f = fa := by
        have := (hl.fn hmx).1.symm.trans hfa
        cases this
        rfl
      subst ef
      rw [hps] at hbi
      refine ⟨fd, cs, spD ⟨K, mg, T⟩ c 1, hcs, hK, hcd, fun s u => .of_eq (hbi [u] rfl), fun H a ns hl hbt hH hS => ?_, fun base KX G TB => ?_⟩
      · obtain ⟨μ', hm⟩ := math ns hl hbt
        refine ⟨[.fl (ns.map .int)], [], [], ⟨rfl, .nil, fun a ha => absurd ha (by simp), fun n a o h => by simp at h, fun q hq => ?_⟩, .cons (.fl (vs := ns.map V.int) ?_ ?_) .nil, rfl, ?_⟩
        · obtain ⟨r, hr, e1⟩ := hT q hq
          exact .nil (by rw [← e1]; exact hH r hr)
        · rcases hS with h | h
          · exact .inl ⟨h, by simp⟩
          · exact .inr (.inr h)
        · clear hl hbt hS math hm
          induction ns with
          | nil => exact .nil
          | cons z zs ih => exact .cons (.int z) ih
        · rw [hm]
          intro v H' ι' g w r
          cases r
          rfl
      · rw [e] at hc'
        cases hc'
        have F' : d.law ≠ none ∨ d.lk = true → mg d.x = some (.ref f) ∧ nmOf d.x = d.x := fun _ => by rw [hx]; exact ⟨hfa, nmOf_fn hmx⟩
        have q := fn_ok (prog := l.prog) (w := w) (base := base) hw ok TB (call_ok hw ok TB n) hd F F'
        rw [hps] at q
        exact q.mono hk
end
end Ev

set_option Elab.async false
set_option linter.all false
set_option maxRecDepth 100000
set_option maxHeartbeats 4000000
namespace Ev
open PySem PySem.Spec PyProof.Rows L2
/-! ### calls by name -/
def run (c : Tab) (x : Str) (ds : List D) (μ : Mem) : R D := match c x with
  | some f => f ds μ
  | none => .er
def eMk (call : Tab) (C k : Str) (es : Es) : E := match call k with
  | some f => eMake C f es
  | none => eEr
def eDef (call : Tab) (x : Str) (es : Es) : E := match call x with
  | some f => eCall f es
  | none => eEr
theorem eDef_eq {c : Tab} {x : Str} {es : Es} {ρ : Env} {μ : Mem} : eDef c x es ρ μ = match es ρ μ with
    | .ok ds μ1 => run c x ds μ1
    | .ex e m => (match c x with | some _ => .ex e m | none => .er)
    | .er => .er := by
  unfold eDef run eCall
  cases c x with
  | none => cases es ρ μ <;> rfl
  | some f =>
    show (es ρ μ).bind (fun xs μ1 => f xs μ1) = _
    cases es ρ μ <;> rfl
theorem eCallV_eq {c : Tab} {i : Nat} {es : Es} {ρ : Env} {μ : Mem} : eCallV c i es ρ μ = match ρ[i]? with
    | some (some (.gl x)) => eDef c x es ρ μ
    | _ => .er := by
  unfold eCallV
  cases ρ[i]? with
  | none => rfl
  | some o =>
    cases o with
    | none => rfl
    | some d =>
      cases d with
      | gl x =>
        unfold eDef eCall
        dsimp only
        cases c x <;> rfl
      | _ => rfl
def eIx (o : E) (es : Es) : E := fun ρ μ => match o ρ μ with
  | .ok (.str _) _ => eMt "str" indexSD o es ρ μ
  | _ => eMt "list" indexLD o es ρ μ
/-- a def of n parameters, k further slots -/
noncomputable def mkFn (n k gm : Nat) (m : Tab → S) (call : Tab) : Fn := fun ds μ => if ds.length = n then gcM gm μ <| runS (m call (ds.map some ++ List.replicate k none) μ) else .er
theorem run_mk {c c' : Tab} {x : Str} {n k gm : Nat} {m : Tab → S} (h : c' x = some (mkFn n k gm m c)) {ds : List D} {μ : Mem} (hl : ds.length = n) : run c' x ds μ = gcM gm μ (runS (m c (ds.map some ++ List.replicate k none) μ)) := by
  unfold run
  rw [h]
  exact if_pos hl
theorem gcM0 {μ : Mem} {r : R D} : gcM 0 μ r = r := rfl
theorem gcM1 {μ : Mem} {r : R D} : gcM 1 μ r = gc false μ r := rfl
theorem gcM2 {μ : Mem} {r : R D} : gcM 2 μ r = gc true μ r := rfl
/-! ### lemmas of simp -/
theorem bind_ok {α β : Type} {a : α} {m : Mem} {f : α → Mem → R β} : (R.ok a m).bind f = f a m := rfl
theorem bind_ex {α β : Type} {x : Exc} {m : Mem} {f : α → Mem → R β} : (R.ex x m).bind f = .ex x m := rfl
theorem st_ok {α : Type} {a : α} {m : Mem} {ρ : Env} {f : α → Mem → RS} : (R.ok a m).st ρ f = f a m := rfl
theorem st_ex {α : Type} {x : Exc} {m : Mem} {ρ : Env} {f : α → Mem → RS} : (R.ex x m).st ρ f = .ex x ρ m := rfl
theorem r_some {d : D} {m : Mem} : O.r (some (d, m)) = .ok d m := rfl
theorem seq_eq {a b : S} {ρ : Env} {μ : Mem} : sSeq a b ρ μ = match a ρ μ with
  | .nx ρ' μ' => b ρ' μ'
  | r => r := rfl
theorem tru_bl {μ : Mem} {b : Bool} : truD μ (.bl b) = some b := rfl
theorem tru_int {μ : Mem} {i : Int} : truD μ (.int i) = some (i != 0) := rfl
theorem tru_tup {μ : Mem} {xs : List D} : truD μ (.tup xs) = some (!xs.isEmpty) := rfl
theorem tru_fl {μ : Mem} {xs : List D} : truD μ (.fl xs) = some (!xs.isEmpty) := rfl
theorem addD_int {i j : Int} {μ : Mem} : addD (.int i) (.int j) μ = some (.int (i + j), μ) := rfl
theorem subD_int {i j : Int} {μ : Mem} : subD (.int i) (.int j) μ = some (.int (i - j), μ) := rfl
theorem modD_int {i j : Int} {μ : Mem} (hj : 0 < j) : modD (.int i) (.int j) μ = some (.int (i % j), μ) := if_pos hj
theorem divD_int {i j : Int} {μ : Mem} (hj : 0 < j) (h2 : j < 1073741824) : divD (.int i) (.int j) μ = some (.int (i / j), μ) := if_pos (by omega)
theorem intD_int {i : Int} {μ : Mem} : intD [.int i] μ = some (.int i, μ) := rfl
theorem intD_bl {b : Bool} {μ : Mem} : intD [.bl b] μ = some (.int (if b then 1 else 0), μ) := rfl
theorem absD_int {i : Int} {μ : Mem} : absD [.int i] μ = some (.int (if i < 0 then -i else i), μ) := rfl
theorem maxD_int {i j : Int} {μ : Mem} : maxD [.int i, .int j] μ = some (.int (if j > i then j else i), μ) := rfl
theorem minD_int {i j : Int} {μ : Mem} : minD [.int i, .int j] μ = some (.int (if j < i then j else i), μ) := rfl
theorem icmp {f : Int → Int → Bool} {i j : Int} {μ : Mem} : intCmp f (.int i) (.int j) μ = some (.bl (f i j), μ) := rfl
theorem isD_non {d : D} {μ : Mem} : isD d .non μ = some (.bl (isNone d), μ) := by cases d <;> rfl
theorem isNotD_non {d : D} {μ : Mem} : isNotD d .non μ = some (.bl (!isNone d), μ) := by cases d <;> rfl
theorem log_le {i : Int} {k : Nat} (h : i.natAbs < 2 ^ k) (hk : 0 < k) : i.natAbs.log2 < k := by
  by_cases h0 : i.natAbs = 0
  · rw [h0]; simpa using hk
  · exact (Nat.log2_lt h0).mpr h
theorem mulD_int {i j : Int} {μ : Mem} (hi : i.natAbs < 2 ^ 2000) (hj : j.natAbs < 2 ^ 2000) : mulD (.int i) (.int j) μ = some (.int (i * j), μ) := by
  unfold mulD
  have := log_le hi (by omega)
  have := log_le hj (by omega)
  exact if_pos (by omega)
theorem small_int {i : Int} (h : -4294967296 < i) (h2 : i < 4294967296) : i.natAbs < 2 ^ 2000 := by
  have h3 : i.natAbs < 2 ^ 32 := by omega
  exact Nat.lt_of_lt_of_le h3 (Nat.pow_le_pow_right (by omega) (by omega))
theorem small_nat {i : Int} (h : 0 ≤ i) (h2 : i < 4294967296) : i.natAbs < 2 ^ 2000 := small_int (by omega) h2
/-- small numbers multiplied -/
theorem mulD_s {i j : Int} {μ : Mem} (h1 : -4294967296 < i) (h2 : i < 4294967296) (h3 : -4294967296 < j) (h4 : j < 4294967296) : mulD (.int i) (.int j) μ = some (.int (i * j), μ) := mulD_int (small_int h1 h2) (small_int h3 h4)
/-! ### a slot set -/
theorem set_tp {μ : Mem} {ts : List Tg} {ds : List D} {ρ : Env} : Tg.set μ (.tp ts) (.tup ds) ρ = Tg.sets μ ts ds ρ := rfl
theorem setE_z {x : Option D} {ρ : Env} {d : D} {μ : Mem} : Tg.set μ (.nm 0) d (x :: ρ) = some (some d :: ρ) := by
  unfold Tg.set; rw [if_pos (by simp)]; rfl
theorem setE_s {i : Nat} {x : Option D} {ρ : Env} {d : D} {μ : Mem} : Tg.set μ (.nm (i + 1)) d (x :: ρ) = (Tg.set μ (.nm i) d ρ).map (x :: ·) := by
  unfold Tg.set
  simp only [List.length_cons, Nat.add_lt_add_iff_right, List.set_cons_succ]
  split <;> rfl
/-! ### == -/
theorem pyN_non {μ : Mem} {k : Nat} : toPyN μ (k + 1) .non = some .none := rfl
theorem pyN_bl {μ : Mem} {k : Nat} {b : Bool} : toPyN μ (k + 1) (.bl b) = some (.bool b) := rfl
theorem pyN_int {μ : Mem} {k : Nat} {i : Int} : toPyN μ (k + 1) (.int i) = some (.int i) := rfl
theorem pyN_str {μ : Mem} {k : Nat} {x : Str} : toPyN μ (k + 1) (.str x) = some (.str x) := rfl
theorem pyN_tup {μ : Mem} {k : Nat} {xs : List D} : toPyN μ (k + 1) (.tup xs) = (mapO (toPyN μ k) xs).map .tuple := rfl
theorem pyN_fl {μ : Mem} {k : Nat} {xs : List D} : toPyN μ (k + 1) (.fl xs) = (mapO (toPyN μ k) xs).map .list := rfl
theorem pyN_loc {μ : Mem} {k n : Nat} {xs : List D} (h : lstAt μ n = some xs) : toPyN μ (k + 1) (.loc n) = (mapO (toPyN μ k) xs).map .list := by
  show (match lstAt μ n with | some xs => (mapO (toPyN μ k) xs).map PyData.list | none => none) = _
  rw [h]
theorem mapO_nil {f : D → Option PyData} : mapO f [] = some [] := rfl
theorem mapO_cons {f : D → Option PyData} {x : D} {xs : List D} {y : PyData} {ys : List PyData} (h : f x = some y) (hs : mapO f xs = some ys) : mapO f (x :: xs) = some (y :: ys) := by
  unfold mapO
  rw [h, hs]
theorem mapO_map {α : Type} {f : D → Option PyData} {e : α → D} {g : α → PyData} : ∀ {as : List α}, (∀ a ∈ as, f (e a) = some (g a)) → mapO f (as.map e) = some (as.map g)
  | [], _ => rfl
  | a :: as, h => mapO_cons (h a (by simp)) (mapO_map fun b hb => h b (by simp [hb]))
theorem pyM_N {μ : Mem} {d : D} : toPyM μ d = toPyN μ (11 + 1) d := rfl
theorem eqM_int {i j : Int} {μ : Mem} : eqM μ (.int i) (.int j) = some (i == j) := by
  unfold eqM
  simp only [pyM_N, pyN_int]
  rfl
theorem eqD_int {i j : Int} {μ : Mem} : eqD (.int i) (.int j) μ = some (.bl (i == j), μ) := by
  unfold eqD; rw [eqM_int]; rfl
theorem neD_int {i j : Int} {μ : Mem} : neD (.int i) (.int j) μ = some (.bl (!(i == j)), μ) := by
  unfold neD; rw [eqM_int]; rfl
/-! ### lists of the store -/
theorem lstAt_lt {μ : Mem} {n : Nat} {xs : List D} (h : lstAt μ n = some xs) : n < μ.length := (List.getElem?_eq_some_iff.mp (lstAt_some h)).1
theorem at_old {μ ν : Mem} {n : Nat} (h : n < μ.length) : lstAt (μ ++ ν) n = lstAt μ n := by
  unfold lstAt; rw [List.getElem?_append_left h]
theorem at_app {μ ν : Mem} {n : Nat} {xs : List D} (h : lstAt μ n = some xs) : lstAt (μ ++ ν) n = some xs := (at_old (lstAt_lt h)).trans h
theorem at_new {μ ν : Mem} {k : Nat} : lstAt (μ ++ ν) (μ.length + k) = lstAt ν k := by
  unfold lstAt; rw [List.getElem?_append_right (by omega), Nat.add_sub_cancel_left]
theorem at_new0 {μ ν : Mem} : lstAt (μ ++ ν) μ.length = lstAt ν 0 := at_new (k := 0)
theorem at_z {xs : List D} {ν : Mem} : lstAt (.lst xs :: ν) 0 = some xs := rfl
theorem at_s {o : MO} {ν : Mem} {k : Nat} : lstAt (o :: ν) (k + 1) = lstAt ν k := rfl
theorem set_new {μ ν : Mem} {k : Nat} {o : MO} : (μ ++ ν).set (μ.length + k) o = μ ++ ν.set k o := by
  rw [List.set_append_right _ _ (by omega), Nat.add_sub_cancel_left]
theorem set_new0 {μ ν : Mem} {o : MO} : (μ ++ ν).set μ.length o = μ ++ ν.set 0 o := set_new (k := 0)
theorem lst_at_new {μ : Mem} {xs : List D} : lstAt (μ ++ [.lst xs]) μ.length = some xs := by rw [at_new0]; rfl
theorem lst_set {μ : Mem} {n : Nat} {xs ys : List D} (h : lstAt μ n = some xs) : lstAt (μ.set n (.lst ys)) n = some ys := by
  unfold lstAt
  rw [List.getElem?_set_self (lstAt_lt h)]
theorem set_set {μ : Mem} {n : Nat} {a b : MO} : (μ.set n a).set n b = μ.set n b := List.set_set ..
theorem lst_set_ne {μ : Mem} {n m : Nat} {o : MO} (h : n ≠ m) : lstAt (μ.set n o) m = lstAt μ m := by
  unfold lstAt
  rw [List.getElem?_set_ne h]
theorem lstA_At {μ : Mem} {n : Nat} : lstA μ n = lstAt μ n := rfl
theorem gc_fl {μ ν : Mem} {m : Nat} {xs : List D} (hm : μ.length ≤ m) (h1 : lstAt (μ ++ ν) m = some xs) (h : D.lows μ.length xs = true) : gc true μ (.ok (.loc m) (μ ++ ν)) = .ok (.fl xs) μ := gc_frz hm h1 h
theorem gc_flA {μ ν : Mem} {xs : List D} (h : D.lows μ.length xs = true) : gc true μ (.ok (.loc μ.length) (μ ++ .lst xs :: ν)) = .ok (.fl xs) μ := gc_fl (Nat.le_refl _) (by rw [at_new0]; rfl) h
theorem gc_newA {μ ν : Mem} {xs : List D} (h : D.lows μ.length xs = true) : gc false μ (.ok (.loc μ.length) (μ ++ .lst xs :: ν)) = .ok (.loc μ.length) (μ ++ [.lst xs]) := gc_loc (Nat.le_refl _) (lstAt_some (by rw [at_new0]; rfl)) h
theorem low_ints {n : Nat} : ∀ {xs : List Int}, D.lows n (xs.map .int) = true
  | [] => rfl
  | x :: xs => by rw [List.map_cons, D.lows, low_ints]; rfl
theorem lows_map {α : Type} {n : Nat} {e : α → D} {xs : List α} (h : ∀ x ∈ xs, D.low n (e x) = true) : D.lows n (xs.map e) = true := by
  rw [lows_all]
  intro d hd
  obtain ⟨x, hx, rfl⟩ := List.mem_map.mp hd
  exact h x hx
theorem lows_app {n : Nat} {xs ys : List D} : D.lows n (xs ++ ys) = (D.lows n xs && D.lows n ys) := by
  induction xs with
  | nil => rfl
  | cons x xs ih => rw [List.cons_append, D.lows, D.lows, ih, Bool.and_assoc]
/-! ### loops -/
/-- by an invariant of what was walked -/
theorem fo_pre {α : Type} {src : Src} {tg : Tg} {b : S} (e : α → D) (as : List α) (I : List α → Env → Mem → Prop)
    (step : ∀ pre x post ρ μ, as = pre ++ x :: post → I pre ρ μ → src.nxt pre.length μ = some (some (e x)) ∧ ∃ ρ1 ρ' μ', Tg.set μ tg (e x) ρ = some ρ1 ∧ b ρ1 μ = .nx ρ' μ' ∧ I (pre ++ [x]) ρ' μ')
    (stop : ∀ ρ μ, I as ρ μ → src.nxt as.length μ = some none) : ∀ post pre ρ μ, as = pre ++ post → I pre ρ μ → ∃ ρ' μ', foGo src tg b post.length pre.length ρ μ = .nx ρ' μ' ∧ I as ρ' μ'
  | [], pre, ρ, μ, h, hi => by
    rw [List.append_nil] at h
    subst h
    refine ⟨ρ, μ, ?_, hi⟩
    rw [List.length_nil, foGo, stop ρ μ hi]
  | x :: post, pre, ρ, μ, h, hi => by
    obtain ⟨h1, ρ1, ρ2, μ2, h2, h3, h4⟩ := step pre x post ρ μ h hi
    obtain ⟨ρ', μ', h5, h6⟩ := fo_pre e as I step stop post (pre ++ [x]) ρ2 μ2 (by rw [List.append_assoc]; exact h) h4
    refine ⟨ρ', μ', ?_, h6⟩
    rw [List.length_cons, foGo, h1]
    simp only [h2, h3]
    rw [List.length_append] at h5
    exact h5
/-- a for over a tuple, a list told by value -/
theorem for_fix {α : Type} {it : Iv} {tg : Tg} {b : S} {ρ : Env} {μ μ1 : Mem} (e : α → D) (as : List α) (I : List α → Env → Mem → Prop) (hi : it ρ μ = .ok (.fix (as.map e)) μ1) (h0 : I [] ρ μ1)
    (step : ∀ pre x post ρ μ, as = pre ++ x :: post → I pre ρ μ → ∃ ρ1 ρ' μ', Tg.set μ tg (e x) ρ = some ρ1 ∧ b ρ1 μ = .nx ρ' μ' ∧ I (pre ++ [x]) ρ' μ') : ∃ ρ' μ', sFor it tg b ρ μ = .nx ρ' μ' ∧ I as ρ' μ' := by
  obtain ⟨ρ', μ', h1, h2⟩ := fo_pre (src := .fix (as.map e)) (tg := tg) (b := b) e as I (fun pre x post ρ μ h hi => ⟨by rw [h]; simp [Src.nxt], step pre x post ρ μ h hi⟩) (fun ρ μ _ => by simp [Src.nxt]) as [] ρ μ1 rfl h0
  refine ⟨ρ', μ', ?_, h2⟩
  unfold sFor
  rw [hi]
  simp only [st_ok, Src.bnd, List.length_map]
  exact h1
/-- over a list of the store that stays -/
theorem for_lst {α : Type} {it : Iv} {tg : Tg} {b : S} {ρ : Env} {μ μ1 : Mem} {n : Nat} (e : α → D) (as : List α) (I : List α → Env → Mem → Prop) (hi : it ρ μ = .ok (.lst n) μ1) (h0 : I [] ρ μ1) (hl : ∀ pre ρ μ, I pre ρ μ → lstAt μ n = some (as.map e))
    (step : ∀ pre x post ρ μ, as = pre ++ x :: post → I pre ρ μ → ∃ ρ1 ρ' μ', Tg.set μ tg (e x) ρ = some ρ1 ∧ b ρ1 μ = .nx ρ' μ' ∧ I (pre ++ [x]) ρ' μ') : ∃ ρ' μ', sFor it tg b ρ μ = .nx ρ' μ' ∧ I as ρ' μ' := by
  obtain ⟨ρ', μ', h1, h2⟩ := fo_pre (src := .lst n) (tg := tg) (b := b) e as I (fun pre x post ρ μ h hi => ⟨by simp only [Src.nxt, hl _ _ _ hi, h]; simp, step pre x post ρ μ h hi⟩) (fun ρ μ hi => by simp [Src.nxt, hl _ _ _ hi]) as [] ρ μ1 rfl h0
  refine ⟨ρ', μ', ?_, h2⟩
  unfold sFor
  rw [hi]
  simp only [st_ok, Src.bnd, hl _ _ _ h0, Option.getD_some, List.length_map]
  exact h1
/-- over a range -/
theorem fo_inv {src : Src} {tg : Tg} {b : S} {N : Nat} (I : Nat → Env → Mem → Prop)
    (step : ∀ i ρ μ, i < N → I i ρ μ → ∃ d ρ1 ρ' μ', src.nxt i μ = some (some d) ∧ Tg.set μ tg d ρ = some ρ1 ∧ b ρ1 μ = .nx ρ' μ' ∧ I (i + 1) ρ' μ')
    (stop : ∀ ρ μ, I N ρ μ → src.nxt N μ = some none) : ∀ k i ρ μ, i + k = N → I i ρ μ → ∃ ρ' μ', foGo src tg b k i ρ μ = .nx ρ' μ' ∧ I N ρ' μ'
  | 0, i, ρ, μ, hi, h => by
    have e : i = N := by omega
    subst e
    refine ⟨ρ, μ, ?_, h⟩
    rw [foGo, stop ρ μ h]
  | k + 1, i, ρ, μ, hi, h => by
    obtain ⟨d, ρ1, ρ2, μ2, h1, h2, h3, h4⟩ := step i ρ μ (by omega) h
    obtain ⟨ρ', μ', h5, h6⟩ := fo_inv I step stop k (i + 1) ρ2 μ2 (by omega) h4
    refine ⟨ρ', μ', ?_, h6⟩
    rw [foGo, h1]
    simp only [h2, h3]
    exact h5
theorem for_rng {it : Iv} {tg : Tg} {b : S} {ρ : Env} {μ μ1 : Mem} {lo : Int} {N : Nat} (I : Nat → Env → Mem → Prop) (hi : it ρ μ = .ok (.rng lo N) μ1) (h0 : I 0 ρ μ1)
    (step : ∀ i ρ μ, i < N → I i ρ μ → ∃ ρ1 ρ' μ', Tg.set μ tg (.int (lo + i)) ρ = some ρ1 ∧ b ρ1 μ = .nx ρ' μ' ∧ I (i + 1) ρ' μ') : ∃ ρ' μ', sFor it tg b ρ μ = .nx ρ' μ' ∧ I N ρ' μ' := by
  obtain ⟨ρ', μ', h1, h2⟩ := fo_inv (src := .rng lo N) (tg := tg) (b := b) (N := N) I (fun i ρ μ h hi => let ⟨ρ1, ρ', μ', h1, h2, h3⟩ := step i ρ μ h hi; ⟨.int (lo + i), ρ1, ρ', μ', by simp [Src.nxt, h], h1, h2, h3⟩) (fun ρ μ _ => by simp [Src.nxt]) N 0 ρ μ1 (by omega) h0
  refine ⟨ρ', μ', ?_, h2⟩
  unfold sFor
  rw [hi]
  simp only [st_ok, Src.bnd]
  exact h1
/-! ### comprehensions -/
theorem lc_inv {α : Type} {src : Src} {tg : Tg} {ifs : T} {elt : E} {ρ : Env} {n : Nat} (e : α → D) (as : List α) (hl : as.length < 16777216) (I : List α → List D → Mem → Prop)
    (hI : ∀ pre acc μ, I pre acc μ → lstAt μ n = some acc ∧ acc.length ≤ pre.length)
    (step : ∀ pre x post acc μ, as = pre ++ x :: post → I pre acc μ → src.nxt pre.length μ = some (some (e x)) ∧ ∃ ρ1 b μ2, Tg.set μ tg (e x) ρ = some ρ1 ∧ ifs ρ1 μ = .ok b μ2 ∧
      (b = false → I (pre ++ [x]) acc μ2) ∧ (b = true → ∃ y μ3, elt ρ1 μ2 = .ok y μ3 ∧ lstAt μ3 n = some acc ∧ I (pre ++ [x]) (acc ++ [y]) (μ3.set n (.lst (acc ++ [y])))))
    (stop : ∀ acc μ, I as acc μ → src.nxt as.length μ = some none) : ∀ post pre acc μ, as = pre ++ post → I pre acc μ → ∃ acc' μ', lcGo src tg ifs elt ρ n post.length pre.length μ = .ok (.loc n) μ' ∧ I as acc' μ'
  | [], pre, acc, μ, h, hi => by
    rw [List.append_nil] at h
    subst h
    refine ⟨acc, μ, ?_, hi⟩
    rw [List.length_nil, lcGo, stop acc μ hi]
  | x :: post, pre, acc, μ, h, hi => by
    obtain ⟨h1, ρ1, b, μ2, h2, h3, h4, h5⟩ := step pre x post acc μ h hi
    have ha := (hI _ _ _ hi).2
    have hz : acc.length < 16777216 := by
      have : as.length = pre.length + (post.length + 1) := by rw [h]; simp
      omega
    have nxt : ∀ acc' μ', I (pre ++ [x]) acc' μ' → ∃ acc'' μ'', lcGo src tg ifs elt ρ n post.length (pre.length + 1) μ' = .ok (.loc n) μ'' ∧ I as acc'' μ'' := fun acc' μ' hi' => by
      have := lc_inv e as hl I hI step stop post (pre ++ [x]) acc' μ' (by rw [List.append_assoc]; exact h) hi'
      rw [List.length_append] at this
      exact this
    cases b with
    | false =>
      obtain ⟨a', m', q1, q2⟩ := nxt _ _ (h4 rfl)
      refine ⟨a', m', ?_, q2⟩
      rw [List.length_cons, lcGo, h1]
      simp only [h2, h3, noEx, Bool.false_eq_true, if_false]
      exact q1
    | true =>
      obtain ⟨y, μ3, e1, e2, e3⟩ := h5 rfl
      obtain ⟨a', m', q1, q2⟩ := nxt _ _ e3
      refine ⟨a', m', ?_, q2⟩
      rw [List.length_cons, lcGo, h1]
      simp only [h2, h3, noEx, if_true, e1, e2, hz]
      exact q1
/-- items that leave the store as it is -/
theorem lc_pure {α : Type} {src : Src} {tg : Tg} {ifs : T} {elt : E} {ρ : Env} {μ : Mem} (e : α → D) (as : List α) (p : α → Bool) (f : α → D) (hl : as.length < 16777216) (hs : ∀ i acc, src.nxt i (μ ++ [.lst acc]) = some ((as.map e)[i]?))
    (h : ∀ a ∈ as, ∀ acc, ∃ ρ1, Tg.set (μ ++ [.lst acc]) tg (e a) ρ = some ρ1 ∧ ifs ρ1 (μ ++ [.lst acc]) = .ok (p a) (μ ++ [.lst acc]) ∧ (p a = true → elt ρ1 (μ ++ [.lst acc]) = .ok (f a) (μ ++ [.lst acc]))) :
    lcGo src tg ifs elt ρ μ.length as.length 0 (μ ++ [.lst []]) = .ok (.loc μ.length) (μ ++ [.lst ((as.filter p).map f)]) := by
  obtain ⟨acc, μ', h1, h2, h3⟩ := lc_inv (src := src) (tg := tg) (ifs := ifs) (elt := elt) (ρ := ρ) (n := μ.length) e as hl (fun pre acc μ' => acc = (pre.filter p).map f ∧ μ' = μ ++ [.lst acc])
    (fun pre acc μ' ⟨h1, h2⟩ => by subst h2; exact ⟨lst_at_new, by rw [h1, List.length_map]; exact List.length_filter_le _ _⟩)
    (fun pre x post acc μ' hp ⟨h1, h2⟩ => by
      subst h2
      obtain ⟨ρ1, q1, q2, q3⟩ := h x (by rw [hp]; simp) acc
      refine ⟨by rw [hs, hp]; simp, ρ1, p x, _, q1, q2, fun hb => ⟨by rw [h1, List.filter_append, List.filter_cons, hb]; simp, rfl⟩, fun hb => ⟨f x, _, q3 hb, lst_at_new, by rw [h1, List.filter_append, List.filter_cons, hb]; simp, by rw [set_new0]; rfl⟩⟩)
    (fun acc μ' ⟨h1, h2⟩ => by subst h2; rw [hs]; simp) as [] [] (μ ++ [.lst []]) rfl ⟨rfl, rfl⟩
  rw [h3, h2] at h1
  exact h1
theorem eLc_fix {α : Type} {it : Iv} {tg : Tg} {ifs : T} {elt : E} {own : List Nat} {ρ : Env} {μ μ1 : Mem} (e : α → D) (as : List α) (p : α → Bool) (f : α → D) (hl : as.length < 16777216) (hi : it ρ μ = .ok (.fix (as.map e)) μ1) (ho : (tg.slots.all fun i => own.contains i) = true)
    (h : ∀ a ∈ as, ∀ acc, ∃ ρ1, Tg.set (μ1 ++ [.lst acc]) tg (e a) (wipeE ρ own) = some ρ1 ∧ ifs ρ1 (μ1 ++ [.lst acc]) = .ok (p a) (μ1 ++ [.lst acc]) ∧ (p a = true → elt ρ1 (μ1 ++ [.lst acc]) = .ok (f a) (μ1 ++ [.lst acc]))) :
    eLc it tg ifs elt own ρ μ = .ok (.loc μ1.length) (μ1 ++ [.lst ((as.filter p).map f)]) := by
  unfold eLc
  rw [hi, bind_ok, if_pos ho]
  have := lc_pure (src := .fix (as.map e)) (tg := tg) (ifs := ifs) (elt := elt) (ρ := wipeE ρ own) (μ := μ1) e as p f hl (fun i acc => rfl) h
  simp only [Src.bnd, List.length_map]
  exact this
theorem eLc_lst {α : Type} {it : Iv} {tg : Tg} {ifs : T} {elt : E} {own : List Nat} {ρ : Env} {μ μ1 : Mem} {n : Nat} (e : α → D) (as : List α) (p : α → Bool) (f : α → D) (hl : as.length < 16777216) (hi : it ρ μ = .ok (.lst n) μ1) (hn : lstAt μ1 n = some (as.map e)) (ho : (tg.slots.all fun i => own.contains i) = true)
    (h : ∀ a ∈ as, ∀ acc, ∃ ρ1, Tg.set (μ1 ++ [.lst acc]) tg (e a) (wipeE ρ own) = some ρ1 ∧ ifs ρ1 (μ1 ++ [.lst acc]) = .ok (p a) (μ1 ++ [.lst acc]) ∧ (p a = true → elt ρ1 (μ1 ++ [.lst acc]) = .ok (f a) (μ1 ++ [.lst acc]))) :
    eLc it tg ifs elt own ρ μ = .ok (.loc μ1.length) (μ1 ++ [.lst ((as.filter p).map f)]) := by
  unfold eLc
  rw [hi, bind_ok, if_pos ho]
  have := lc_pure (src := .lst n) (tg := tg) (ifs := ifs) (elt := elt) (ρ := wipeE ρ own) (μ := μ1) e as p f hl (fun i acc => by simp only [Src.nxt, at_app hn, Option.map_some]) h
  simp only [Src.bnd, hn, Option.getD_some, List.length_map]
  exact this
theorem eLc_rng {it : Iv} {tg : Tg} {ifs : T} {elt : E} {own : List Nat} {ρ : Env} {μ μ1 : Mem} {lo : Int} {n : Nat} (p : Nat → Bool) (f : Nat → D) (hl : n < 16777216) (hi : it ρ μ = .ok (.rng lo n) μ1) (ho : (tg.slots.all fun i => own.contains i) = true)
    (h : ∀ a, a < n → ∀ acc, ∃ ρ1, Tg.set (μ1 ++ [.lst acc]) tg (.int (lo + a)) (wipeE ρ own) = some ρ1 ∧ ifs ρ1 (μ1 ++ [.lst acc]) = .ok (p a) (μ1 ++ [.lst acc]) ∧ (p a = true → elt ρ1 (μ1 ++ [.lst acc]) = .ok (f a) (μ1 ++ [.lst acc]))) :
    eLc it tg ifs elt own ρ μ = .ok (.loc μ1.length) (μ1 ++ [.lst (((List.range n).filter p).map f)]) := by
  unfold eLc
  rw [hi, bind_ok, if_pos ho]
  have := lc_pure (src := .rng lo n) (tg := tg) (ifs := ifs) (elt := elt) (ρ := wipeE ρ own) (μ := μ1) (fun a : Nat => .int (lo + a)) (List.range n) p f (by simpa using hl) (fun i acc => by
    simp only [Src.nxt, List.getElem?_map]
    by_cases hi : i < n <;> simp [hi]) (fun a ha acc => h a (List.mem_range.mp ha) acc)
  simp only [Src.bnd]
  rw [List.length_range] at this
  exact this
/-! ### whiles -/
theorem wh_go {t : T} {b : S} {k : Nat} {ρ ρ' : Env} {μ μ1 μ' : Mem} (ht : t ρ μ = .ok true μ1) (hb : b ρ μ1 = .nx ρ' μ') : whGo t b (k + 1) ρ μ = whGo t b k ρ' μ' := by
  rw [whGo, ht]
  simp only [st_ok, if_true, hb]
theorem wh_end {t : T} {b : S} {k : Nat} {ρ : Env} {μ μ1 : Mem} (ht : t ρ μ = .ok false μ1) : whGo t b (k + 1) ρ μ = .nx ρ μ1 := by
  rw [whGo, ht]
  simp [st_ok]
/-! ### what is walked -/
theorem en_fl {μ : Mem} {xs : List D} : enSrc μ [.fl xs] = .ok (.enf xs) μ := rfl
theorem en_tup {μ : Mem} {xs : List D} : enSrc μ [.tup xs] = .ok (.enf xs) μ := rfl
theorem rg1_ok {j : Int} {μ : Mem} (h1 : j < 1000000) (h2 : -1000000 < j) : rg1 j μ = .ok (.rng 0 j.toNat) μ := if_pos (by omega)
theorem rg2_ok {i j : Int} {μ : Mem} (h1 : j < 1000000) (h2 : -1000000 < j) (h3 : i < 1000000) (h4 : -1000000 < i) : rg2 i j μ = .ok (.rng i (j - i).toNat) μ := if_pos (by omega)
theorem iSeq_tup {a : E} {ρ : Env} {μ μ1 : Mem} {xs : List D} (h : a ρ μ = .ok (.tup xs) μ1) : iSeq a ρ μ = .ok (.fix xs) μ1 := by unfold iSeq; rw [h]; rfl
theorem iSeq_fl {a : E} {ρ : Env} {μ μ1 : Mem} {xs : List D} (h : a ρ μ = .ok (.fl xs) μ1) : iSeq a ρ μ = .ok (.fix xs) μ1 := by unfold iSeq; rw [h]; rfl
theorem iSeq_loc {a : E} {ρ : Env} {μ μ1 : Mem} {n : Nat} {xs : List D} (h : a ρ μ = .ok (.loc n) μ1) (hl : lstAt μ1 n = some xs) : iSeq a ρ μ = .ok (.lst n) μ1 := by unfold iSeq; rw [h]; simp only [bind_ok, hl]
/-- items of sequences -/
theorem atI_nat {xs : List D} {r : Int} (h : 0 ≤ r) (h2 : r < xs.length) : ∃ x, atI xs r = some x ∧ x ∈ xs := by
  have hn : r.toNat < xs.length := by omega
  refine ⟨xs[r.toNat], ?_, List.getElem_mem _⟩
  unfold atI
  have : ixN xs.length r = some r.toNat := by
    simp [ixN, h, h2]
  rw [this]
  simp [hn]
theorem atI_get {xs : List D} {i : Nat} {x : D} (h : xs[i]? = some x) : atI xs (i : Int) = some x := by
  have hi := (List.getElem?_eq_some_iff.mp h).1
  unfold atI
  have : ixN xs.length (i : Int) = some i := by simp [ixN, hi]
  rw [this]
  exact h
theorem ixD_seq {μ : Mem} {th : D} {xs : List D} {i : Int} {x : D} (h : seqD μ th = some xs) (hx : atI xs i = some x) : ixD th (.int i) μ = some (x, μ) := by
  cases th with
  | tup ys => cases h; simp only [ixD, seqD, hx]
  | fl ys => cases h; simp only [ixD, seqD, hx]
  | loc m => have h : lstAt μ m = some xs := h; simp only [ixD, seqD, h, hx]
  | _ => cases h
theorem lenD_seq {μ : Mem} {th : D} {xs : List D} (h : seqD μ th = some xs) : lenD [th] μ = some (.int xs.length, μ) := by
  cases th with
  | tup ys => cases h; rfl
  | fl ys => cases h; rfl
  | loc m => have h : lstAt μ m = some xs := h; simp only [lenD, lenM, seqD, h]; rfl
  | _ => cases h
theorem len_tup {μ : Mem} {xs : List D} : lenD [.tup xs] μ = some (.int xs.length, μ) := lenD_seq rfl
theorem len_fl {μ : Mem} {xs : List D} : lenD [.fl xs] μ = some (.int xs.length, μ) := lenD_seq rfl
theorem ix2_0 {a b : D} {μ : Mem} : ixD (.tup [a, b]) (.int 0) μ = some (a, μ) := rfl
theorem ix2_1 {a b : D} {μ : Mem} : ixD (.tup [a, b]) (.int 1) μ = some (b, μ) := rfl
theorem ix3_0 {a b c : D} {μ : Mem} : ixD (.tup [a, b, c]) (.int 0) μ = some (a, μ) := rfl
theorem ix3_1 {a b c : D} {μ : Mem} : ixD (.tup [a, b, c]) (.int 1) μ = some (b, μ) := rfl
theorem ix3_2 {a b c : D} {μ : Mem} : ixD (.tup [a, b, c]) (.int 2) μ = some (c, μ) := rfl
theorem tup2 {a b : D} {μ : Mem} : tupP [a, b] μ = some (.tup [a, b], μ) := rfl
theorem tup1 {a : D} {μ : Mem} : tupP [a] μ = some (.tup [a], μ) := rfl
theorem tup3 {a b c : D} {μ : Mem} : tupP [a, b, c] μ = some (.tup [a, b, c], μ) := rfl
end Ev

set_option Elab.async false
set_option linter.all false
set_option maxRecDepth 100000
set_option maxHeartbeats 4000000
set_option exponentiation.threshold 3000
namespace Ev
open PySem PySem.Spec PyProof.Rows L2
-- is_int: 0 value, 1 low, 2 high
noncomputable def m_is_int (call : Tab) : S := (sSeq (sRet (eAn (eUn (isiD ["int"]) (eVar 0)) (eAn (eNo (eUn (isiD ["bool"]) (eVar 0))) (gE (eChain (cmpD .LtE) (cmpD .LtE) (eVar 1) (eVar 0) (eVar 2)))))) sNx)
-- is_triple: 0 value
noncomputable def m_is_triple (call : Tab) : S := (sSeq (sRet (eAn (eUn (isiD ["tuple"]) (eVar 0)) (gE (eBin (cmpD .Eq) (gE (eApp lenD (esCons (eVar 0) esNil))) (eK (.int 3)))))) sNx)
-- is_machine: 0 value
noncomputable def m_is_machine (call : Tab) : S := (sSeq (sIf (tOr' (tNo (tTru (eDef call "is_triple" (esCons (eVar 0) esNil)))) (tNo (tTru (eDef call "is_int" (esCons (gE (eBin ixD (eVar 0) (eK (.int 0)))) (esCons (eK (.int 1)) (esCons (eK (.int 3)) esNil))))))) (sSeq (sRet (eK (.bl false))) sNx) sNx) (sSeq (sRet (eAn (eDef call "is_int" (esCons (gE (eBin ixD (eVar 0) (eK (.int 1)))) (esCons (eK (.int 1)) (esCons (gE (eBin ixD (eVar 0) (eK (.int 0)))) esNil)))) (eDef call "is_int" (esCons (gE (eBin ixD (eVar 0) (eK (.int 2)))) (esCons (eK (.int 1)) (esCons (eK (.int 9)) esNil)))))) sNx))
-- is_rule_of: 0 machine, 1 value
noncomputable def m_is_rule_of (call : Tab) : S := (sSeq (sIf (tOr' (tNo (tTru (eDef call "is_triple" (esCons (eVar 1) esNil)))) (tOr' (tNo (tTru (eDef call "is_int" (esCons (gE (eBin ixD (eVar 1) (eK (.int 0)))) (esCons (eK (.int 1)) (esCons (gE (eBin ixD (eVar 0) (eK (.int 0)))) esNil)))))) (tNo (tTru (eDef call "is_int" (esCons (gE (eBin ixD (eVar 1) (eK (.int 1)))) (esCons (eK (.int 0)) (esCons (eK (.int 5)) esNil)))))))) (sSeq (sRet (eK (.bl false))) sNx) sNx) (sSeq (sRet (eAn (eDef call "is_int" (esCons (gE (eBin ixD (eVar 1) (eK (.int 2)))) (esCons (eK (.int 1)) (esCons (eK (.int 2)) esNil)))) (gE (eBin (cmpD .LtE) (eBin (binD .Mult) (eBin (binD .FloorDiv) (eBin (binD .Sub) (eBin (binD .Add) (gE (eBin ixD (eVar 0) (eK (.int 1)))) (gE (eBin ixD (eVar 1) (eK (.int 2))))) (eK (.int 1))) (gE (eBin ixD (eVar 1) (eK (.int 2))))) (gE (eBin ixD (eVar 1) (eK (.int 2))))) (gE (eBin ixD (eVar 0) (eK (.int 0)))))))) sNx))
-- is_row: 0 value, 1 coming
noncomputable def m_is_row (call : Tab) : S := (sSeq (sIf (tOr' (tNo (tTru (eUn (isiD ["tuple"]) (eVar 0)))) (tBl (gE (eBin (cmpD .Gt) (gE (eApp lenD (esCons (eVar 0) esNil))) (eK (.int 60)))))) (sSeq (sRet (eK (.bl false))) sNx) sNx) (sSeq (sRet (gE (eApp allD (esCons (eLc (iSeq (eVar 0)) (.nm 1) tYesT (eDef call "is_int" (esCons (eVar 1) (esCons (eK (.int 0)) (esCons (eK (.int 1)) esNil)))) [1]) esNil)))) sNx))
-- need_machine: 0 machine
noncomputable def m_need_machine (call : Tab) : S := (sSeq (sIf (tNo (tTru (eDef call "is_machine" (esCons (eVar 0) esNil)))) (sSeq (sRaise "InvalidMachine") sNx) sNx) sNx)
-- need_rule: 0 machine, 1 rule
noncomputable def m_need_rule (call : Tab) : S := (sSeq (sIf (tNo (tTru (eDef call "is_rule_of" (esCons (eVar 0) (esCons (eVar 1) esNil))))) (sSeq (sRaise "InvalidRule") sNx) sNx) sNx)
-- need_row: 0 row
noncomputable def m_need_row (call : Tab) : S := (sSeq (sIf (tNo (tTru (eDef call "is_row" (esCons (eVar 0) esNil)))) (sSeq (sRaise "InvalidRow") sNx) sNx) sNx)
/-- a value whose class is known -/
def okT (μ : Mem) (v : D) : Prop := (tyOfD μ v).isSome = true
/-- a value and, of a tuple, its parts -/
def okTT (μ : Mem) (v : D) : Prop := okT μ v ∧ ∀ xs, v = .tup xs → ∀ x ∈ xs, okT μ x
theorem okT_int {μ : Mem} {i : Int} : okT μ (.int i) := rfl
theorem okT_app {μ ν : Mem} {v : D} (h : okT μ v) : okT (μ ++ ν) v := by
  unfold okT tyOfD at h ⊢
  cases v with
  | loc n =>
    cases e : lstAt μ n with
    | none => simp [e] at h
    | some xs => simp [at_app e]
  | _ => exact h
def intB (lo hi : Int) : D → Bool
  | .int i => decide (lo ≤ i) && decide (i ≤ hi)
  | _ => false
theorem intB_no {lo hi : Int} {v : D} (h : ∀ i, v ≠ .int i) : intB lo hi v = false := by
  cases v <;> first | rfl | exact absurd rfl (h _)
theorem intB_int {lo hi : Int} {v : D} (h : intB lo hi v = true) : ∃ i, v = .int i ∧ lo ≤ i ∧ i ≤ hi := by
  cases v with
  | int i => simp [intB] at h; exact ⟨i, rfl, h⟩
  | _ => cases h
def S_is_int (c : Tab) : Prop := ∀ v lo hi μ, okT μ v → run c "is_int" [v, .int lo, .int hi] μ = .ok (.bl (intB lo hi v)) μ
theorem ok_is_int {c c' : Tab} (h : c' "is_int" = some (mkFn 3 0 2 m_is_int c)) : S_is_int c' := by
  intro v lo hi μ hv
  rw [run_mk h rfl, gcM2]
  have : runS (m_is_int c [some v, some (.int lo), some (.int hi)] μ) = .ok (.bl (intB lo hi v)) μ := by
    unfold m_is_int
    simp only [List.length_cons, List.length_nil, if_true, List.map_cons, List.map_nil, List.replicate_zero, List.replicate_succ, List.append_nil, List.cons_append, List.nil_append, seq_eq, sRet, sNx, sIf, sExpr, sSet, sRaise, eAn, eOr, eNo, eUn, eBin, eApp, esCons, esNil, eIf, eChain, eVar, eK, tNo, tTru, tBl, tAn, tOr', gE, gc_id, gc_ex, List.getElem?_cons_zero, List.getElem?_cons_succ, bind_ok, bind_ex, st_ok, st_ex, r_some, cmpD, binD, runS, eDef_eq, Tg.sets, set_tp, setE_z, setE_s, Option.map_some, List.set_cons_zero, List.set_cons_succ, Bool.false_eq_true, if_false, tru_bl, Bool.not_true, Bool.not_false, isiD]
    unfold okT tyOfD at hv
    cases v with
    | int i =>
      simp only [tyOfD, Option.map_some, r_some, bind_ok, List.any_cons, List.any_nil, isaB, icmp]
      by_cases h1 : lo ≤ i
      · by_cases h2 : i ≤ hi <;> simp [h1, h2, intB, List.length_cons, List.length_nil, if_true, List.map_cons, List.map_nil, List.replicate_zero, List.replicate_succ, List.append_nil, List.cons_append, List.nil_append, seq_eq, sRet, sNx, sIf, sExpr, sSet, sRaise, eAn, eOr, eNo, eUn, eBin, eApp, esCons, esNil, eIf, eChain, eVar, eK, tNo, tTru, tBl, tAn, tOr', gE, gc_id, gc_ex, List.getElem?_cons_zero, List.getElem?_cons_succ, bind_ok, bind_ex, st_ok, st_ex, r_some, cmpD, binD, runS, eDef_eq, Tg.sets, set_tp, setE_z, setE_s, Option.map_some, List.set_cons_zero, List.set_cons_succ, Bool.false_eq_true, if_false, tru_bl, Bool.not_true, Bool.not_false, icmp, isaB]
      · simp [h1, intB, List.length_cons, List.length_nil, if_true, List.map_cons, List.map_nil, List.replicate_zero, List.replicate_succ, List.append_nil, List.cons_append, List.nil_append, seq_eq, sRet, sNx, sIf, sExpr, sSet, sRaise, eAn, eOr, eNo, eUn, eBin, eApp, esCons, esNil, eIf, eChain, eVar, eK, tNo, tTru, tBl, tAn, tOr', gE, gc_id, gc_ex, List.getElem?_cons_zero, List.getElem?_cons_succ, bind_ok, bind_ex, st_ok, st_ex, r_some, cmpD, binD, runS, eDef_eq, Tg.sets, set_tp, setE_z, setE_s, Option.map_some, List.set_cons_zero, List.set_cons_succ, Bool.false_eq_true, if_false, tru_bl, Bool.not_true, Bool.not_false, icmp, isaB]
    | bl b => simp [tyOfD, isaB, List.length_cons, List.length_nil, if_true, List.map_cons, List.map_nil, List.replicate_zero, List.replicate_succ, List.append_nil, List.cons_append, List.nil_append, seq_eq, sRet, sNx, sIf, sExpr, sSet, sRaise, eAn, eOr, eNo, eUn, eBin, eApp, esCons, esNil, eIf, eChain, eVar, eK, tNo, tTru, tBl, tAn, tOr', gE, gc_id, gc_ex, List.getElem?_cons_zero, List.getElem?_cons_succ, bind_ok, bind_ex, st_ok, st_ex, r_some, cmpD, binD, runS, eDef_eq, Tg.sets, set_tp, setE_z, setE_s, Option.map_some, List.set_cons_zero, List.set_cons_succ, Bool.false_eq_true, if_false, tru_bl, Bool.not_true, Bool.not_false, intB]
    | loc n =>
      cases e : lstAt μ n with
      | none => simp [e] at hv
      | some xs => simp [tyOfD, e, isaB, List.length_cons, List.length_nil, if_true, List.map_cons, List.map_nil, List.replicate_zero, List.replicate_succ, List.append_nil, List.cons_append, List.nil_append, seq_eq, sRet, sNx, sIf, sExpr, sSet, sRaise, eAn, eOr, eNo, eUn, eBin, eApp, esCons, esNil, eIf, eChain, eVar, eK, tNo, tTru, tBl, tAn, tOr', gE, gc_id, gc_ex, List.getElem?_cons_zero, List.getElem?_cons_succ, bind_ok, bind_ex, st_ok, st_ex, r_some, cmpD, binD, runS, eDef_eq, Tg.sets, set_tp, setE_z, setE_s, Option.map_some, List.set_cons_zero, List.set_cons_succ, Bool.false_eq_true, if_false, tru_bl, Bool.not_true, Bool.not_false, intB]
    | gl x => cases hv
    | rw x => cases hv
    | _ => simp [tyOfD, isaB, List.length_cons, List.length_nil, if_true, List.map_cons, List.map_nil, List.replicate_zero, List.replicate_succ, List.append_nil, List.cons_append, List.nil_append, seq_eq, sRet, sNx, sIf, sExpr, sSet, sRaise, eAn, eOr, eNo, eUn, eBin, eApp, esCons, esNil, eIf, eChain, eVar, eK, tNo, tTru, tBl, tAn, tOr', gE, gc_id, gc_ex, List.getElem?_cons_zero, List.getElem?_cons_succ, bind_ok, bind_ex, st_ok, st_ex, r_some, cmpD, binD, runS, eDef_eq, Tg.sets, set_tp, setE_z, setE_s, Option.map_some, List.set_cons_zero, List.set_cons_succ, Bool.false_eq_true, if_false, tru_bl, Bool.not_true, Bool.not_false, intB]
  rw [show ([v, D.int lo, D.int hi].map some ++ List.replicate 0 none) = [some v, some (.int lo), some (.int hi)] from rfl, this, gc_id]
def tripB : D → Bool
  | .tup xs => xs.length == 3
  | _ => false
def S_is_triple (c : Tab) : Prop := ∀ v μ, okT μ v → run c "is_triple" [v] μ = .ok (.bl (tripB v)) μ
theorem ok_is_triple {c c' : Tab} (h : c' "is_triple" = some (mkFn 1 0 2 m_is_triple c)) : S_is_triple c' := by
  intro v μ hv
  rw [run_mk h rfl, gcM2]
  have : runS (m_is_triple c [some v] μ) = .ok (.bl (tripB v)) μ := by
    unfold m_is_triple
    simp only [List.length_cons, List.length_nil, if_true, List.map_cons, List.map_nil, List.replicate_zero, List.replicate_succ, List.append_nil, List.cons_append, List.nil_append, seq_eq, sRet, sNx, sIf, sExpr, sSet, sRaise, eAn, eOr, eNo, eUn, eBin, eApp, esCons, esNil, eIf, eChain, eVar, eK, tNo, tTru, tBl, tAn, tOr', gE, gc_id, gc_ex, List.getElem?_cons_zero, List.getElem?_cons_succ, bind_ok, bind_ex, st_ok, st_ex, r_some, cmpD, binD, runS, eDef_eq, Tg.sets, set_tp, setE_z, setE_s, Option.map_some, List.set_cons_zero, List.set_cons_succ, Bool.false_eq_true, if_false, tru_bl, Bool.not_true, Bool.not_false, isiD]
    unfold okT tyOfD at hv
    cases v with
    | tup xs =>
      simp only [List.length_cons, List.length_nil, if_true, List.map_cons, List.map_nil, List.replicate_zero, List.replicate_succ, List.append_nil, List.cons_append, List.nil_append, seq_eq, sRet, sNx, sIf, sExpr, sSet, sRaise, eAn, eOr, eNo, eUn, eBin, eApp, esCons, esNil, eIf, eChain, eVar, eK, tNo, tTru, tBl, tAn, tOr', gE, gc_id, gc_ex, List.getElem?_cons_zero, List.getElem?_cons_succ, bind_ok, bind_ex, st_ok, st_ex, r_some, cmpD, binD, runS, eDef_eq, Tg.sets, set_tp, setE_z, setE_s, Option.map_some, List.set_cons_zero, List.set_cons_succ, Bool.false_eq_true, if_false, tru_bl, Bool.not_true, Bool.not_false, tyOfD, Option.map_some, List.any_cons, List.any_nil, isaB, len_tup, eqD_int]
      simp only [tripB]
      have : ((xs.length : Int) == 3) = (xs.length == 3) := by
        rw [Bool.eq_iff_iff, beq_iff_eq, beq_iff_eq]
        omega
      simp [this, isaB, List.length_cons, List.length_nil, if_true, List.map_cons, List.map_nil, List.replicate_zero, List.replicate_succ, List.append_nil, List.cons_append, List.nil_append, seq_eq, sRet, sNx, sIf, sExpr, sSet, sRaise, eAn, eOr, eNo, eUn, eBin, eApp, esCons, esNil, eIf, eChain, eVar, eK, tNo, tTru, tBl, tAn, tOr', gE, gc_id, gc_ex, List.getElem?_cons_zero, List.getElem?_cons_succ, bind_ok, bind_ex, st_ok, st_ex, r_some, cmpD, binD, runS, eDef_eq, Tg.sets, set_tp, setE_z, setE_s, Option.map_some, List.set_cons_zero, List.set_cons_succ, Bool.false_eq_true, if_false, tru_bl, Bool.not_true, Bool.not_false]
    | loc n =>
      cases e : lstAt μ n with
      | none => simp [e] at hv
      | some xs => simp [tyOfD, e, isaB, List.length_cons, List.length_nil, if_true, List.map_cons, List.map_nil, List.replicate_zero, List.replicate_succ, List.append_nil, List.cons_append, List.nil_append, seq_eq, sRet, sNx, sIf, sExpr, sSet, sRaise, eAn, eOr, eNo, eUn, eBin, eApp, esCons, esNil, eIf, eChain, eVar, eK, tNo, tTru, tBl, tAn, tOr', gE, gc_id, gc_ex, List.getElem?_cons_zero, List.getElem?_cons_succ, bind_ok, bind_ex, st_ok, st_ex, r_some, cmpD, binD, runS, eDef_eq, Tg.sets, set_tp, setE_z, setE_s, Option.map_some, List.set_cons_zero, List.set_cons_succ, Bool.false_eq_true, if_false, tru_bl, Bool.not_true, Bool.not_false, tripB]
    | gl x => cases hv
    | rw x => cases hv
    | _ => simp [tyOfD, isaB, List.length_cons, List.length_nil, if_true, List.map_cons, List.map_nil, List.replicate_zero, List.replicate_succ, List.append_nil, List.cons_append, List.nil_append, seq_eq, sRet, sNx, sIf, sExpr, sSet, sRaise, eAn, eOr, eNo, eUn, eBin, eApp, esCons, esNil, eIf, eChain, eVar, eK, tNo, tTru, tBl, tAn, tOr', gE, gc_id, gc_ex, List.getElem?_cons_zero, List.getElem?_cons_succ, bind_ok, bind_ex, st_ok, st_ex, r_some, cmpD, binD, runS, eDef_eq, Tg.sets, set_tp, setE_z, setE_s, Option.map_some, List.set_cons_zero, List.set_cons_succ, Bool.false_eq_true, if_false, tru_bl, Bool.not_true, Bool.not_false, tripB]
  rw [show ([v].map some ++ List.replicate 0 none) = [some v] from rfl, this, gc_id]
def machB : D → Bool
  | .tup [a, b, c] => match a with
    | .int r => intB 1 3 (.int r) && (intB 1 r b && intB 1 9 c)
    | _ => false
  | _ => false
theorem trip_inv {v : D} (h : tripB v = true) : ∃ a b c, v = .tup [a, b, c] := by
  obtain ⟨xs, rfl⟩ : ∃ xs, v = .tup xs := by
    cases v <;> first | exact ⟨_, rfl⟩ | cases h
  have hl : xs.length = 3 := by simpa [tripB] using h
  match xs, hl with
  | [a, b, c], _ => exact ⟨a, b, c, rfl⟩
theorem mach_no {v : D} (h : tripB v = false) : machB v = false := by
  unfold machB
  split
  · simp [tripB] at h
  · rfl
theorem mach_inv {v : D} (h : machB v = true) : ∃ r l p, v = .tup [.int r, .int l, .int p] ∧ 1 ≤ r ∧ r ≤ 3 ∧ 1 ≤ l ∧ l ≤ r ∧ 1 ≤ p ∧ p ≤ 9 := by
  have ht : tripB v = true := by
    cases e : tripB v with
    | true => rfl
    | false => rw [mach_no e] at h; cases h
  obtain ⟨a, b, c, rfl⟩ := trip_inv ht
  unfold machB at h
  dsimp only at h
  split at h
  · rename_i r
    simp only [Bool.and_eq_true] at h
    obtain ⟨h1, h2, h3⟩ := h
    obtain ⟨l, rfl, q1, q2⟩ := intB_int h2
    obtain ⟨p, rfl, q3, q4⟩ := intB_int h3
    obtain ⟨r', e, q5, q6⟩ := intB_int h1
    cases e
    exact ⟨r, l, p, rfl, q5, q6, q1, q2, q3, q4⟩
  · cases h
def S_is_machine (c : Tab) : Prop := ∀ v μ, okTT μ v → run c "is_machine" [v] μ = .ok (.bl (machB v)) μ
theorem ok_is_machine {c c' : Tab} (h : c' "is_machine" = some (mkFn 1 0 2 m_is_machine c)) (s1 : S_is_triple c) (s2 : S_is_int c) : S_is_machine c' := by
  intro v μ ⟨hv, hvt⟩
  rw [run_mk h rfl, gcM2]
  have : runS (m_is_machine c [some v] μ) = .ok (.bl (machB v)) μ := by
    unfold m_is_machine
    simp only [List.length_cons, List.length_nil, if_true, List.map_cons, List.map_nil, List.replicate_zero, List.replicate_succ, List.append_nil, List.cons_append, List.nil_append, seq_eq, sRet, sNx, sIf, sExpr, sSet, sRaise, eAn, eOr, eNo, eUn, eBin, eApp, esCons, esNil, eIf, eChain, eVar, eK, tNo, tTru, tBl, tAn, tOr', gE, gc_id, gc_ex, List.getElem?_cons_zero, List.getElem?_cons_succ, bind_ok, bind_ex, st_ok, st_ex, r_some, cmpD, binD, runS, eDef_eq, Tg.sets, set_tp, setE_z, setE_s, Option.map_some, List.set_cons_zero, List.set_cons_succ, Bool.false_eq_true, if_false, tru_bl, Bool.not_true, Bool.not_false, s1 v μ hv]
    cases ht : tripB v with
    | false => simp only [List.length_cons, List.length_nil, if_true, List.map_cons, List.map_nil, List.replicate_zero, List.replicate_succ, List.append_nil, List.cons_append, List.nil_append, seq_eq, sRet, sNx, sIf, sExpr, sSet, sRaise, eAn, eOr, eNo, eUn, eBin, eApp, esCons, esNil, eIf, eChain, eVar, eK, tNo, tTru, tBl, tAn, tOr', gE, gc_id, gc_ex, List.getElem?_cons_zero, List.getElem?_cons_succ, bind_ok, bind_ex, st_ok, st_ex, r_some, cmpD, binD, runS, eDef_eq, Tg.sets, set_tp, setE_z, setE_s, Option.map_some, List.set_cons_zero, List.set_cons_succ, Bool.false_eq_true, if_false, tru_bl, Bool.not_true, Bool.not_false, mach_no ht]
    | true =>
      obtain ⟨a, b, d, rfl⟩ := trip_inv ht
      have ha := hvt _ rfl a (by simp)
      have hb := hvt _ rfl b (by simp)
      have hc := hvt _ rfl d (by simp)
      simp only [List.length_cons, List.length_nil, if_true, List.map_cons, List.map_nil, List.replicate_zero, List.replicate_succ, List.append_nil, List.cons_append, List.nil_append, seq_eq, sRet, sNx, sIf, sExpr, sSet, sRaise, eAn, eOr, eNo, eUn, eBin, eApp, esCons, esNil, eIf, eChain, eVar, eK, tNo, tTru, tBl, tAn, tOr', gE, gc_id, gc_ex, List.getElem?_cons_zero, List.getElem?_cons_succ, bind_ok, bind_ex, st_ok, st_ex, r_some, cmpD, binD, runS, eDef_eq, Tg.sets, set_tp, setE_z, setE_s, Option.map_some, List.set_cons_zero, List.set_cons_succ, Bool.false_eq_true, if_false, tru_bl, Bool.not_true, Bool.not_false, ix3_0, ix3_1, ix3_2, s2 a 1 3 μ ha]
      cases h3 : intB 1 3 a with
      | false =>
        have e : machB (.tup [a, b, d]) = false := by
          cases a <;> first | rfl | (unfold machB; dsimp only; rw [h3]; rfl)
        simp only [List.length_cons, List.length_nil, if_true, List.map_cons, List.map_nil, List.replicate_zero, List.replicate_succ, List.append_nil, List.cons_append, List.nil_append, seq_eq, sRet, sNx, sIf, sExpr, sSet, sRaise, eAn, eOr, eNo, eUn, eBin, eApp, esCons, esNil, eIf, eChain, eVar, eK, tNo, tTru, tBl, tAn, tOr', gE, gc_id, gc_ex, List.getElem?_cons_zero, List.getElem?_cons_succ, bind_ok, bind_ex, st_ok, st_ex, r_some, cmpD, binD, runS, eDef_eq, Tg.sets, set_tp, setE_z, setE_s, Option.map_some, List.set_cons_zero, List.set_cons_succ, Bool.false_eq_true, if_false, tru_bl, Bool.not_true, Bool.not_false, e]
      | true =>
        obtain ⟨i, rfl, _⟩ := intB_int h3
        have e : machB (.tup [.int i, b, d]) = (intB 1 i b && intB 1 9 d) := by
          unfold machB; dsimp only; rw [h3]; rfl
        rw [e]
        simp only [List.length_cons, List.length_nil, if_true, List.map_cons, List.map_nil, List.replicate_zero, List.replicate_succ, List.append_nil, List.cons_append, List.nil_append, seq_eq, sRet, sNx, sIf, sExpr, sSet, sRaise, eAn, eOr, eNo, eUn, eBin, eApp, esCons, esNil, eIf, eChain, eVar, eK, tNo, tTru, tBl, tAn, tOr', gE, gc_id, gc_ex, List.getElem?_cons_zero, List.getElem?_cons_succ, bind_ok, bind_ex, st_ok, st_ex, r_some, cmpD, binD, runS, eDef_eq, Tg.sets, set_tp, setE_z, setE_s, Option.map_some, List.set_cons_zero, List.set_cons_succ, Bool.false_eq_true, if_false, tru_bl, Bool.not_true, Bool.not_false, ix3_0, ix3_1, ix3_2, s2 b 1 i μ hb, s2 d 1 9 μ hc]
        cases intB 1 i b <;> simp [List.length_cons, List.length_nil, if_true, List.map_cons, List.map_nil, List.replicate_zero, List.replicate_succ, List.append_nil, List.cons_append, List.nil_append, seq_eq, sRet, sNx, sIf, sExpr, sSet, sRaise, eAn, eOr, eNo, eUn, eBin, eApp, esCons, esNil, eIf, eChain, eVar, eK, tNo, tTru, tBl, tAn, tOr', gE, gc_id, gc_ex, List.getElem?_cons_zero, List.getElem?_cons_succ, bind_ok, bind_ex, st_ok, st_ex, r_some, cmpD, binD, runS, eDef_eq, Tg.sets, set_tp, setE_z, setE_s, Option.map_some, List.set_cons_zero, List.set_cons_succ, Bool.false_eq_true, if_false, tru_bl, Bool.not_true, Bool.not_false]
  rw [show ([v].map some ++ List.replicate 0 none) = [some v] from rfl, this, gc_id]
/-! a rule of a machine -/
def ruleB (r l : Int) : D → Bool
  | .tup [a, g, b] => intB 1 r a && intB 0 5 g && (match b with
    | .int k => intB 1 2 (.int k) && decide ((l + k - 1) / k * k ≤ r)
    | _ => false)
  | _ => false
theorem rule_no {r l : Int} {v : D} (h : tripB v = false) : ruleB r l v = false := by
  unfold ruleB
  split
  · simp [tripB] at h
  · rfl
def S_is_rule_of (c : Tab) : Prop := ∀ r l p v μ, 1 ≤ l → l ≤ r → r ≤ 3 → okTT μ v → run c "is_rule_of" [.tup [.int r, .int l, p], v] μ = .ok (.bl (ruleB r l v)) μ
theorem ok_is_rule_of {c c' : Tab} (h : c' "is_rule_of" = some (mkFn 2 0 2 m_is_rule_of c)) (s1 : S_is_triple c) (s2 : S_is_int c) : S_is_rule_of c' := by
  intro r l p v μ hl1 hl2 hr ⟨hv, hvt⟩
  rw [run_mk h rfl, gcM2]
  have : runS (m_is_rule_of c [some (.tup [.int r, .int l, p]), some v] μ) = .ok (.bl (ruleB r l v)) μ := by
    unfold m_is_rule_of
    simp only [List.length_cons, List.length_nil, if_true, List.map_cons, List.map_nil, List.replicate_zero, List.replicate_succ, List.append_nil, List.cons_append, List.nil_append, seq_eq, sRet, sNx, sIf, sExpr, sSet, sRaise, eAn, eOr, eNo, eUn, eBin, eApp, esCons, esNil, eIf, eChain, eVar, eK, tNo, tTru, tBl, tAn, tOr', gE, gc_id, gc_ex, List.getElem?_cons_zero, List.getElem?_cons_succ, bind_ok, bind_ex, st_ok, st_ex, r_some, cmpD, binD, runS, eDef_eq, Tg.sets, set_tp, setE_z, setE_s, Option.map_some, List.set_cons_zero, List.set_cons_succ, Bool.false_eq_true, if_false, tru_bl, Bool.not_true, Bool.not_false, s1 v μ hv]
    cases ht : tripB v with
    | false => simp only [List.length_cons, List.length_nil, if_true, List.map_cons, List.map_nil, List.replicate_zero, List.replicate_succ, List.append_nil, List.cons_append, List.nil_append, seq_eq, sRet, sNx, sIf, sExpr, sSet, sRaise, eAn, eOr, eNo, eUn, eBin, eApp, esCons, esNil, eIf, eChain, eVar, eK, tNo, tTru, tBl, tAn, tOr', gE, gc_id, gc_ex, List.getElem?_cons_zero, List.getElem?_cons_succ, bind_ok, bind_ex, st_ok, st_ex, r_some, cmpD, binD, runS, eDef_eq, Tg.sets, set_tp, setE_z, setE_s, Option.map_some, List.set_cons_zero, List.set_cons_succ, Bool.false_eq_true, if_false, tru_bl, Bool.not_true, Bool.not_false, rule_no ht]
    | true =>
      obtain ⟨x, y, z, rfl⟩ := trip_inv ht
      have ha := hvt _ rfl x (by simp)
      have hb := hvt _ rfl y (by simp)
      have hc := hvt _ rfl z (by simp)
      simp only [List.length_cons, List.length_nil, if_true, List.map_cons, List.map_nil, List.replicate_zero, List.replicate_succ, List.append_nil, List.cons_append, List.nil_append, seq_eq, sRet, sNx, sIf, sExpr, sSet, sRaise, eAn, eOr, eNo, eUn, eBin, eApp, esCons, esNil, eIf, eChain, eVar, eK, tNo, tTru, tBl, tAn, tOr', gE, gc_id, gc_ex, List.getElem?_cons_zero, List.getElem?_cons_succ, bind_ok, bind_ex, st_ok, st_ex, r_some, cmpD, binD, runS, eDef_eq, Tg.sets, set_tp, setE_z, setE_s, Option.map_some, List.set_cons_zero, List.set_cons_succ, Bool.false_eq_true, if_false, tru_bl, Bool.not_true, Bool.not_false, ix3_0, ix3_1, ix3_2, s2 x 1 r μ ha]
      cases h3 : intB 1 r x with
      | false =>
        have e : ruleB r l (.tup [x, y, z]) = false := by unfold ruleB; dsimp only; rw [h3]; rfl
        simp only [List.length_cons, List.length_nil, if_true, List.map_cons, List.map_nil, List.replicate_zero, List.replicate_succ, List.append_nil, List.cons_append, List.nil_append, seq_eq, sRet, sNx, sIf, sExpr, sSet, sRaise, eAn, eOr, eNo, eUn, eBin, eApp, esCons, esNil, eIf, eChain, eVar, eK, tNo, tTru, tBl, tAn, tOr', gE, gc_id, gc_ex, List.getElem?_cons_zero, List.getElem?_cons_succ, bind_ok, bind_ex, st_ok, st_ex, r_some, cmpD, binD, runS, eDef_eq, Tg.sets, set_tp, setE_z, setE_s, Option.map_some, List.set_cons_zero, List.set_cons_succ, Bool.false_eq_true, if_false, tru_bl, Bool.not_true, Bool.not_false, e]
      | true =>
        simp only [List.length_cons, List.length_nil, if_true, List.map_cons, List.map_nil, List.replicate_zero, List.replicate_succ, List.append_nil, List.cons_append, List.nil_append, seq_eq, sRet, sNx, sIf, sExpr, sSet, sRaise, eAn, eOr, eNo, eUn, eBin, eApp, esCons, esNil, eIf, eChain, eVar, eK, tNo, tTru, tBl, tAn, tOr', gE, gc_id, gc_ex, List.getElem?_cons_zero, List.getElem?_cons_succ, bind_ok, bind_ex, st_ok, st_ex, r_some, cmpD, binD, runS, eDef_eq, Tg.sets, set_tp, setE_z, setE_s, Option.map_some, List.set_cons_zero, List.set_cons_succ, Bool.false_eq_true, if_false, tru_bl, Bool.not_true, Bool.not_false, s2 y 0 5 μ hb]
        cases h4 : intB 0 5 y with
        | false =>
          have e : ruleB r l (.tup [x, y, z]) = false := by unfold ruleB; dsimp only; rw [h3, h4]; rfl
          simp only [List.length_cons, List.length_nil, if_true, List.map_cons, List.map_nil, List.replicate_zero, List.replicate_succ, List.append_nil, List.cons_append, List.nil_append, seq_eq, sRet, sNx, sIf, sExpr, sSet, sRaise, eAn, eOr, eNo, eUn, eBin, eApp, esCons, esNil, eIf, eChain, eVar, eK, tNo, tTru, tBl, tAn, tOr', gE, gc_id, gc_ex, List.getElem?_cons_zero, List.getElem?_cons_succ, bind_ok, bind_ex, st_ok, st_ex, r_some, cmpD, binD, runS, eDef_eq, Tg.sets, set_tp, setE_z, setE_s, Option.map_some, List.set_cons_zero, List.set_cons_succ, Bool.false_eq_true, if_false, tru_bl, Bool.not_true, Bool.not_false, e]
        | true =>
          simp only [List.length_cons, List.length_nil, if_true, List.map_cons, List.map_nil, List.replicate_zero, List.replicate_succ, List.append_nil, List.cons_append, List.nil_append, seq_eq, sRet, sNx, sIf, sExpr, sSet, sRaise, eAn, eOr, eNo, eUn, eBin, eApp, esCons, esNil, eIf, eChain, eVar, eK, tNo, tTru, tBl, tAn, tOr', gE, gc_id, gc_ex, List.getElem?_cons_zero, List.getElem?_cons_succ, bind_ok, bind_ex, st_ok, st_ex, r_some, cmpD, binD, runS, eDef_eq, Tg.sets, set_tp, setE_z, setE_s, Option.map_some, List.set_cons_zero, List.set_cons_succ, Bool.false_eq_true, if_false, tru_bl, Bool.not_true, Bool.not_false, ix3_0, ix3_1, ix3_2, s2 z 1 2 μ hc]
          cases h5 : intB 1 2 z with
          | false =>
            have e : ruleB r l (.tup [x, y, z]) = false := by
              unfold ruleB; dsimp only; rw [h3, h4]
              cases z <;> first | rfl | (dsimp only; rw [h5]; rfl)
            simp only [List.length_cons, List.length_nil, if_true, List.map_cons, List.map_nil, List.replicate_zero, List.replicate_succ, List.append_nil, List.cons_append, List.nil_append, seq_eq, sRet, sNx, sIf, sExpr, sSet, sRaise, eAn, eOr, eNo, eUn, eBin, eApp, esCons, esNil, eIf, eChain, eVar, eK, tNo, tTru, tBl, tAn, tOr', gE, gc_id, gc_ex, List.getElem?_cons_zero, List.getElem?_cons_succ, bind_ok, bind_ex, st_ok, st_ex, r_some, cmpD, binD, runS, eDef_eq, Tg.sets, set_tp, setE_z, setE_s, Option.map_some, List.set_cons_zero, List.set_cons_succ, Bool.false_eq_true, if_false, tru_bl, Bool.not_true, Bool.not_false, e]
          | true =>
            obtain ⟨k, rfl, _⟩ := intB_int h5
            have e : ruleB r l (.tup [x, y, .int k]) = decide ((l + k - 1) / k * k ≤ r) := by
              unfold ruleB; dsimp only; rw [h3, h4, h5]; rfl
            have hk : k = 1 ∨ k = 2 := by
              simp [intB] at h5
              omega
            rw [e]
            have hll : l = 1 ∨ l = 2 ∨ l = 3 := by omega
            have h0 : 0 < k := by omega
            have hq : (l + k - 1) / k < 100 ∧ -100 < (l + k - 1) / k := by
              rcases hk with rfl | rfl <;> omega
            simp only [List.length_cons, List.length_nil, if_true, List.map_cons, List.map_nil, List.replicate_zero, List.replicate_succ, List.append_nil, List.cons_append, List.nil_append, seq_eq, sRet, sNx, sIf, sExpr, sSet, sRaise, eAn, eOr, eNo, eUn, eBin, eApp, esCons, esNil, eIf, eChain, eVar, eK, tNo, tTru, tBl, tAn, tOr', gE, gc_id, gc_ex, List.getElem?_cons_zero, List.getElem?_cons_succ, bind_ok, bind_ex, st_ok, st_ex, r_some, cmpD, binD, runS, eDef_eq, Tg.sets, set_tp, setE_z, setE_s, Option.map_some, List.set_cons_zero, List.set_cons_succ, Bool.false_eq_true, if_false, tru_bl, Bool.not_true, Bool.not_false, addD_int, subD_int, divD_int h0 (show k < 1073741824 by omega), mulD_s (show -4294967296 < (l + k - 1) / k by omega) (show (l + k - 1) / k < 4294967296 by omega) (show -4294967296 < k by omega) (show k < 4294967296 by omega), icmp]
  rw [show ([D.tup [.int r, .int l, p], v].map some ++ List.replicate 0 none) = [some (.tup [.int r, .int l, p]), some v] from rfl, this, gc_id]
/-! rows -/
def bitB : D → Bool := intB 0 1
def rowB : D → Bool
  | .tup xs => decide (xs.length ≤ 60) && xs.all bitB
  | _ => false
def S_is_row (c : Tab) : Prop := ∀ v μ, okTT μ v → run c "is_row" [v] μ = .ok (.bl (rowB v)) μ
theorem ok_is_row {c c' : Tab} (h : c' "is_row" = some (mkFn 1 1 2 m_is_row c)) (s : S_is_int c) : S_is_row c' := by
  intro v μ ⟨hv, hvt⟩
  rw [run_mk h rfl, gcM2]
  have : runS (m_is_row c [some v, none] μ) = .ok (.bl (rowB v)) μ := by
    unfold m_is_row
    cases v with
    | tup xs =>
      simp only [List.length_cons, List.length_nil, if_true, List.map_cons, List.map_nil, List.replicate_zero, List.replicate_succ, List.append_nil, List.cons_append, List.nil_append, seq_eq, sRet, sNx, sIf, sExpr, sSet, sRaise, eAn, eOr, eNo, eUn, eBin, eApp, esCons, esNil, eIf, eChain, eVar, eK, tNo, tTru, tBl, tAn, tOr', gE, gc_id, gc_ex, List.getElem?_cons_zero, List.getElem?_cons_succ, bind_ok, bind_ex, st_ok, st_ex, r_some, cmpD, binD, runS, eDef_eq, Tg.sets, set_tp, setE_z, setE_s, Option.map_some, List.set_cons_zero, List.set_cons_succ, Bool.false_eq_true, if_false, tru_bl, Bool.not_true, Bool.not_false, isiD, tyOfD, Option.map_some, List.any_cons, List.any_nil, isaB, len_tup, icmp]
      by_cases hl : xs.length ≤ 60
      · have hx := hvt xs rfl
        have hi : iSeq (eVar 0) [some (.tup xs), none] μ = .ok (.fix (xs.map id)) μ := by rw [List.map_id]; exact iSeq_tup rfl
        have hlc := eLc_fix (it := iSeq (eVar 0)) (tg := .nm 1) (ifs := tYesT) (elt := eDef c "is_int" (esCons (eVar 1) (esCons (eK (.int 0)) (esCons (eK (.int 1)) esNil)))) (own := [1]) (ρ := [some (.tup xs), none]) (μ := μ) (μ1 := μ) id xs (fun _ => true) (fun x => .bl (bitB x)) (by omega) hi rfl
          (fun a ha acc => ⟨[some (.tup xs), some a], rfl, rfl, fun _ => by simp only [List.length_cons, List.length_nil, if_true, List.map_cons, List.map_nil, List.replicate_zero, List.replicate_succ, List.append_nil, List.cons_append, List.nil_append, seq_eq, sRet, sNx, sIf, sExpr, sSet, sRaise, eAn, eOr, eNo, eUn, eBin, eApp, esCons, esNil, eIf, eChain, eVar, eK, tNo, tTru, tBl, tAn, tOr', gE, gc_id, gc_ex, List.getElem?_cons_zero, List.getElem?_cons_succ, bind_ok, bind_ex, st_ok, st_ex, r_some, cmpD, binD, runS, eDef_eq, Tg.sets, set_tp, setE_z, setE_s, Option.map_some, List.set_cons_zero, List.set_cons_succ, Bool.false_eq_true, if_false, tru_bl, Bool.not_true, Bool.not_false, s a 0 1 _ (okT_app (hx a ha)), bitB]⟩)
        rw [List.filter_eq_self.mpr (fun _ _ => rfl)] at hlc
        have hb : boolsD (xs.map fun x => D.bl (bitB x)) = some (xs.map bitB) := by
          clear hlc hi hx hl hvt hv
          induction xs with
          | nil => rfl
          | cons x xs ih => rw [List.map_cons, List.map_cons, boolsD, ih]; rfl
        have hn : ¬ ((60 : Int) < xs.length) := by omega
        have hall : gc false μ (O.r (allD [.loc μ.length] (μ ++ [.lst (xs.map fun x => D.bl (bitB x))]))) = .ok (.bl (xs.all bitB)) μ := by
          have : allD [.loc μ.length] (μ ++ [.lst (xs.map fun x => D.bl (bitB x))]) = some (.bl (xs.all bitB), μ ++ [.lst (xs.map fun x => D.bl (bitB x))]) := by
            unfold allD foldB lsD
            simp only [lst_at_new, hb, List.all_map]
            rfl
          rw [this, r_some]
          exact gc_low rfl
        simp [List.length_cons, List.length_nil, if_true, List.map_cons, List.map_nil, List.replicate_zero, List.replicate_succ, List.append_nil, List.cons_append, List.nil_append, seq_eq, sRet, sNx, sIf, sExpr, sSet, sRaise, eAn, eOr, eNo, eUn, eBin, eApp, esCons, esNil, eIf, eChain, eVar, eK, tNo, tTru, tBl, tAn, tOr', gE, gc_id, gc_ex, List.getElem?_cons_zero, List.getElem?_cons_succ, bind_ok, bind_ex, st_ok, st_ex, r_some, cmpD, binD, runS, eDef_eq, Tg.sets, set_tp, setE_z, setE_s, Option.map_some, List.set_cons_zero, List.set_cons_succ, Bool.false_eq_true, if_false, tru_bl, Bool.not_true, Bool.not_false, hn, hlc, hall, rowB, hl]
      · have hn : (60 : Int) < xs.length := by omega
        have : rowB (.tup xs) = false := by simp [rowB]; omega
        simp [List.length_cons, List.length_nil, if_true, List.map_cons, List.map_nil, List.replicate_zero, List.replicate_succ, List.append_nil, List.cons_append, List.nil_append, seq_eq, sRet, sNx, sIf, sExpr, sSet, sRaise, eAn, eOr, eNo, eUn, eBin, eApp, esCons, esNil, eIf, eChain, eVar, eK, tNo, tTru, tBl, tAn, tOr', gE, gc_id, gc_ex, List.getElem?_cons_zero, List.getElem?_cons_succ, bind_ok, bind_ex, st_ok, st_ex, r_some, cmpD, binD, runS, eDef_eq, Tg.sets, set_tp, setE_z, setE_s, Option.map_some, List.set_cons_zero, List.set_cons_succ, Bool.false_eq_true, if_false, tru_bl, Bool.not_true, Bool.not_false, hn, this]
    | loc n =>
      unfold okT tyOfD at hv
      cases e : lstAt μ n with
      | none => simp [e] at hv
      | some xs => simp [List.length_cons, List.length_nil, if_true, List.map_cons, List.map_nil, List.replicate_zero, List.replicate_succ, List.append_nil, List.cons_append, List.nil_append, seq_eq, sRet, sNx, sIf, sExpr, sSet, sRaise, eAn, eOr, eNo, eUn, eBin, eApp, esCons, esNil, eIf, eChain, eVar, eK, tNo, tTru, tBl, tAn, tOr', gE, gc_id, gc_ex, List.getElem?_cons_zero, List.getElem?_cons_succ, bind_ok, bind_ex, st_ok, st_ex, r_some, cmpD, binD, runS, eDef_eq, Tg.sets, set_tp, setE_z, setE_s, Option.map_some, List.set_cons_zero, List.set_cons_succ, Bool.false_eq_true, if_false, tru_bl, Bool.not_true, Bool.not_false, isiD, tyOfD, e, isaB, rowB]
    | gl x => cases hv
    | rw x => cases hv
    | _ => simp [List.length_cons, List.length_nil, if_true, List.map_cons, List.map_nil, List.replicate_zero, List.replicate_succ, List.append_nil, List.cons_append, List.nil_append, seq_eq, sRet, sNx, sIf, sExpr, sSet, sRaise, eAn, eOr, eNo, eUn, eBin, eApp, esCons, esNil, eIf, eChain, eVar, eK, tNo, tTru, tBl, tAn, tOr', gE, gc_id, gc_ex, List.getElem?_cons_zero, List.getElem?_cons_succ, bind_ok, bind_ex, st_ok, st_ex, r_some, cmpD, binD, runS, eDef_eq, Tg.sets, set_tp, setE_z, setE_s, Option.map_some, List.set_cons_zero, List.set_cons_succ, Bool.false_eq_true, if_false, tru_bl, Bool.not_true, Bool.not_false, isiD, tyOfD, isaB, rowB]
  rw [show ([v].map some ++ List.replicate 1 none) = [some v, none] from rfl, this, gc_id]
/-! the needs -/
def S_need_machine (c : Tab) : Prop := ∀ v μ, okTT μ v → run c "need_machine" [v] μ = if machB v then .ok .non μ else .ex { c := "InvalidMachine" } μ
theorem ok_need_machine {c c' : Tab} (h : c' "need_machine" = some (mkFn 1 0 2 m_need_machine c)) (s : S_is_machine c) : S_need_machine c' := by
  intro v μ hv
  rw [run_mk h rfl, gcM2]
  unfold m_need_machine
  simp only [List.length_cons, List.length_nil, if_true, List.map_cons, List.map_nil, List.replicate_zero, List.replicate_succ, List.append_nil, List.cons_append, List.nil_append, seq_eq, sRet, sNx, sIf, sExpr, sSet, sRaise, eAn, eOr, eNo, eUn, eBin, eApp, esCons, esNil, eIf, eChain, eVar, eK, tNo, tTru, tBl, tAn, tOr', gE, gc_id, gc_ex, List.getElem?_cons_zero, List.getElem?_cons_succ, bind_ok, bind_ex, st_ok, st_ex, r_some, cmpD, binD, runS, eDef_eq, Tg.sets, set_tp, setE_z, setE_s, Option.map_some, List.set_cons_zero, List.set_cons_succ, Bool.false_eq_true, if_false, tru_bl, Bool.not_true, Bool.not_false, s v μ hv]
  cases machB v <;> simp [List.length_cons, List.length_nil, if_true, List.map_cons, List.map_nil, List.replicate_zero, List.replicate_succ, List.append_nil, List.cons_append, List.nil_append, seq_eq, sRet, sNx, sIf, sExpr, sSet, sRaise, eAn, eOr, eNo, eUn, eBin, eApp, esCons, esNil, eIf, eChain, eVar, eK, tNo, tTru, tBl, tAn, tOr', gE, gc_id, gc_ex, List.getElem?_cons_zero, List.getElem?_cons_succ, bind_ok, bind_ex, st_ok, st_ex, r_some, cmpD, binD, runS, eDef_eq, Tg.sets, set_tp, setE_z, setE_s, Option.map_some, List.set_cons_zero, List.set_cons_succ, Bool.false_eq_true, if_false, tru_bl, Bool.not_true, Bool.not_false]
def S_need_rule (c : Tab) : Prop := ∀ r l p v μ, 1 ≤ l → l ≤ r → r ≤ 3 → okTT μ v → run c "need_rule" [.tup [.int r, .int l, p], v] μ = if ruleB r l v then .ok .non μ else .ex { c := "InvalidRule" } μ
theorem ok_need_rule {c c' : Tab} (h : c' "need_rule" = some (mkFn 2 0 2 m_need_rule c)) (s : S_is_rule_of c) : S_need_rule c' := by
  intro r l p v μ h2 h3 h4 hv
  rw [run_mk h rfl, gcM2]
  unfold m_need_rule
  simp only [List.length_cons, List.length_nil, if_true, List.map_cons, List.map_nil, List.replicate_zero, List.replicate_succ, List.append_nil, List.cons_append, List.nil_append, seq_eq, sRet, sNx, sIf, sExpr, sSet, sRaise, eAn, eOr, eNo, eUn, eBin, eApp, esCons, esNil, eIf, eChain, eVar, eK, tNo, tTru, tBl, tAn, tOr', gE, gc_id, gc_ex, List.getElem?_cons_zero, List.getElem?_cons_succ, bind_ok, bind_ex, st_ok, st_ex, r_some, cmpD, binD, runS, eDef_eq, Tg.sets, set_tp, setE_z, setE_s, Option.map_some, List.set_cons_zero, List.set_cons_succ, Bool.false_eq_true, if_false, tru_bl, Bool.not_true, Bool.not_false, s r l p v μ h2 h3 h4 hv]
  cases ruleB r l v <;> simp [List.length_cons, List.length_nil, if_true, List.map_cons, List.map_nil, List.replicate_zero, List.replicate_succ, List.append_nil, List.cons_append, List.nil_append, seq_eq, sRet, sNx, sIf, sExpr, sSet, sRaise, eAn, eOr, eNo, eUn, eBin, eApp, esCons, esNil, eIf, eChain, eVar, eK, tNo, tTru, tBl, tAn, tOr', gE, gc_id, gc_ex, List.getElem?_cons_zero, List.getElem?_cons_succ, bind_ok, bind_ex, st_ok, st_ex, r_some, cmpD, binD, runS, eDef_eq, Tg.sets, set_tp, setE_z, setE_s, Option.map_some, List.set_cons_zero, List.set_cons_succ, Bool.false_eq_true, if_false, tru_bl, Bool.not_true, Bool.not_false]
def S_need_row (c : Tab) : Prop := ∀ v μ, okTT μ v → run c "need_row" [v] μ = if rowB v then .ok .non μ else .ex { c := "InvalidRow" } μ
theorem ok_need_row {c c' : Tab} (h : c' "need_row" = some (mkFn 1 0 2 m_need_row c)) (s : S_is_row c) : S_need_row c' := by
  intro v μ hv
  rw [run_mk h rfl, gcM2]
  unfold m_need_row
  simp only [List.length_cons, List.length_nil, if_true, List.map_cons, List.map_nil, List.replicate_zero, List.replicate_succ, List.append_nil, List.cons_append, List.nil_append, seq_eq, sRet, sNx, sIf, sExpr, sSet, sRaise, eAn, eOr, eNo, eUn, eBin, eApp, esCons, esNil, eIf, eChain, eVar, eK, tNo, tTru, tBl, tAn, tOr', gE, gc_id, gc_ex, List.getElem?_cons_zero, List.getElem?_cons_succ, bind_ok, bind_ex, st_ok, st_ex, r_some, cmpD, binD, runS, eDef_eq, Tg.sets, set_tp, setE_z, setE_s, Option.map_some, List.set_cons_zero, List.set_cons_succ, Bool.false_eq_true, if_false, tru_bl, Bool.not_true, Bool.not_false, s v μ hv]
  cases rowB v <;> simp [List.length_cons, List.length_nil, if_true, List.map_cons, List.map_nil, List.replicate_zero, List.replicate_succ, List.append_nil, List.cons_append, List.nil_append, seq_eq, sRet, sNx, sIf, sExpr, sSet, sRaise, eAn, eOr, eNo, eUn, eBin, eApp, esCons, esNil, eIf, eChain, eVar, eK, tNo, tTru, tBl, tAn, tOr', gE, gc_id, gc_ex, List.getElem?_cons_zero, List.getElem?_cons_succ, bind_ok, bind_ex, st_ok, st_ex, r_some, cmpD, binD, runS, eDef_eq, Tg.sets, set_tp, setE_z, setE_s, Option.map_some, List.set_cons_zero, List.set_cons_succ, Bool.false_eq_true, if_false, tru_bl, Bool.not_true, Bool.not_false]
end Ev

set_option Elab.async false
set_option linter.all false
set_option maxRecDepth 100000
set_option maxHeartbeats 4000000
set_option exponentiation.threshold 3000
namespace Ev
open PySem PySem.Spec PyProof.Rows L2
/-! ### the drawing of the laws -/
-- _law_bag: 0 script, 1 k, 2 cell, 3 number
noncomputable def _law_bag_b1 (call : Tab) : S := (sSeq (sSet (.nm 2) (eBin (binD .Add) (eVar 2) (eBin (binD .Mult) (eBin (binD .Mod) (gE (eApp absD (esCons (gE (eApp intD (esCons (eVar 3) esNil))) esNil))) (eK (.int 1000003))) (gE (eApp intD (esCons (gE (eBin (cmpD .Lt) (eVar 2) (eBin (binD .Pow) (eK (.int 10)) (eK (.int 18))))) esNil)))))) sNx)
noncomputable def m__law_bag (call : Tab) : S := (sSeq (sSet (.nm 2) (eBin (binD .Add) (eBin (binD .Mult) (eK (.int 99991)) (eVar 1)) (eK (.int 4242)))) (sSeq (sIf (tBl (gE (eBin (cmpD .Lt) (eVar 1) (gE (eApp lenD (esCons (eVar 0) esNil)))))) (sSeq (sSet (.nm 2) (eBin (binD .Mod) (gE (eApp absD (esCons (gE (eApp intD (esCons (gE (eBin ixD (eVar 0) (eVar 1))) esNil))) esNil))) (eBin (binD .Mult) (eBin (binD .Mult) (eBin (binD .Mult) (eBin (binD .Pow) (eK (.int 10)) (eK (.int 60))) (eBin (binD .Pow) (eK (.int 10)) (eK (.int 60)))) (eBin (binD .Pow) (eK (.int 10)) (eK (.int 60)))) (eBin (binD .Pow) (eK (.int 10)) (eK (.int 50)))))) sNx) sNx) (sSeq (sFor (iSeq (eSl (eVar 0) oNo (oSo (eK (.int 1))))) (.nm 3) (_law_bag_b1 call)) (sSeq (sRet (eApp lstP (esCons (eIf (tBl (gE (eBin (cmpD .GtE) (eVar 2) (eBin (binD .Pow) (eK (.int 10)) (eK (.int 18)))))) (eVar 2) (eK (.int 0))) (esCons (eBin (binD .Add) (eBin (binD .Mod) (gE (eApp intD (esCons (eBin (binD .Add) (eBin (binD .Add) (eBin (binD .Mult) (eBin (binD .Mod) (eVar 2) (eK (.int 2147483543))) (eK (.int 5))) (eBin (binD .Mult) (eK (.int 11)) (eVar 1))) (eK (.int 3))) esNil))) (eK (.int 2147483543))) (eK (.int 1))) esNil)))) sNx))))
-- _law_out: 0 bag, 1 many, 2 found, 3 wide
noncomputable def _law_out_t1 (call : Tab) : T := (tOr' (tBl (gE (eBin (cmpD .Lt) (eVar 3) (eVar 1)))) (tBl (gE (eBin (cmpD .Eq) (eVar 3) (eK (.int 1))))))
noncomputable def _law_out_b2 (call : Tab) : S := (sSeq (sSub (eVar 0) (eK (.int 1)) (eBin (binD .Mod) (gE (eApp intD (esCons (eBin (binD .Add) (eBin (binD .Mult) (gE (eBin ixD (eVar 0) (eK (.int 1)))) (eK (.int 45991))) (eK (.int 17))) esNil))) (eK (.int 2147483543)))) (sSeq (sSet (.nm 2) (eBin (binD .Add) (eBin (binD .Mult) (eVar 2) (eK (.int 8192))) (eBin (binD .Mod) (gE (eApp intD (esCons (eBin (binD .FloorDiv) (gE (eBin ixD (eVar 0) (eK (.int 1)))) (eK (.int 131071))) esNil))) (eK (.int 8192))))) (sSeq (sSet (.nm 3) (eBin (binD .Mult) (eVar 3) (eK (.int 8192)))) sNx)))
noncomputable def m__law_out (call : Tab) : S := (sSeq (sIf (tBl (gE (eBin (cmpD .Gt) (gE (eBin ixD (eVar 0) (eK (.int 0)))) (eK (.int 0))))) (sSeq (sSet (.nm 2) (eBin (binD .Mod) (gE (eApp intD (esCons (gE (eBin ixD (eVar 0) (eK (.int 0)))) esNil))) (eVar 1))) (sSeq (sSub (eVar 0) (eK (.int 0)) (eBin (binD .FloorDiv) (gE (eBin ixD (eVar 0) (eK (.int 0)))) (eVar 1))) (sSeq (sRet (eVar 2)) sNx))) sNx) (sSeq (sSet (.tp [(.nm 2), (.nm 3)]) (eApp tupP (esCons (eK (.int 0)) (esCons (eK (.int 1)) esNil)))) (sSeq (sWhile 1000000 (_law_out_t1 call) (_law_out_b2 call)) (sSeq (sRet (eBin (binD .Mod) (gE (eApp intD (esCons (eVar 2) esNil))) (eVar 1))) sNx))))
-- _law_some: 0 bag, 1 things
noncomputable def m__law_some (call : Tab) : S := (sSeq (sRet (gE (eBin ixD (eVar 1) (eDef call "_law_out" (esCons (eVar 0) (esCons (gE (eApp lenD (esCons (eVar 1) esNil))) esNil)))))) sNx)
-- _law_machine: 0 bag, 1 most, 2 room
noncomputable def m__law_machine (call : Tab) : S := (sSeq (sSet (.nm 2) (eBin (binD .Add) (eK (.int 1)) (eDef call "_law_out" (esCons (eVar 0) (esCons (eVar 1) esNil))))) (sSeq (sIf (tBl (gE (eBin (cmpD .Eq) (eDef call "_law_out" (esCons (eVar 0) (esCons (eK (.int 2)) esNil))) (eK (.int 0))))) (sSeq (sSet (.nm 2) (eVar 1)) sNx) sNx) (sSeq (sRet (eApp tupP (esCons (eVar 2) (esCons (eBin (binD .Add) (eK (.int 1)) (eDef call "_law_out" (esCons (eVar 0) (esCons (eVar 2) esNil)))) (esCons (eBin (binD .Add) (eK (.int 1)) (eDef call "_law_out" (esCons (eVar 0) (esCons (eK (.int 9)) esNil)))) esNil))))) sNx)))
-- _law_good_rule: 0 machine, 1 least, 2 age, 3 beat, 4 lasts
noncomputable def m__law_good_rule (call : Tab) : S := (sSeq (sSet (.nm 4) (eBin (binD .Add) (gE (eBin ixD (eVar 0) (eK (.int 1)))) (gE (eApp intD (esCons (eAn (gE (eBin (cmpD .Eq) (eVar 3) (eK (.int 2)))) (gE (eBin (cmpD .Eq) (eBin (binD .Mod) (gE (eBin ixD (eVar 0) (eK (.int 1)))) (eK (.int 2))) (eK (.int 1))))) esNil))))) (sSeq (sRet (eAn (gE (eChain (cmpD .LtE) (cmpD .LtE) (eK (.int 1)) (eVar 1) (gE (eBin ixD (eVar 0) (eK (.int 0)))))) (eAn (gE (eChain (cmpD .LtE) (cmpD .LtE) (eK (.int 0)) (eVar 2) (eK (.int 5)))) (gE (eBin (cmpD .LtE) (eVar 4) (gE (eBin ixD (eVar 0) (eK (.int 0))))))))) sNx))
-- _law_every_rule: 0 machine, 1 found, 2 least, 3 age, 4 beat
noncomputable def _law_every_rule_b1 (call : Tab) : S := (sSeq (sIf (tTru (eDef call "_law_good_rule" (esCons (eVar 0) (esCons (eVar 2) (esCons (eVar 3) (esCons (eVar 4) esNil)))))) (sSeq (sExpr (eMt "list" appendD (eVar 1) (esCons (eApp tupP (esCons (eVar 2) (esCons (eVar 3) (esCons (eVar 4) esNil)))) esNil))) sNx) sNx) sNx)
noncomputable def _law_every_rule_b2 (call : Tab) : S := (sSeq (sFor (iSeq (eApp tupP (esCons (eK (.int 1)) (esCons (eK (.int 2)) esNil)))) (.nm 4) (_law_every_rule_b1 call)) sNx)
noncomputable def _law_every_rule_b3 (call : Tab) : S := (sSeq (sFor (iRg1 (esCons (eK (.int 6)) esNil)) (.nm 3) (_law_every_rule_b2 call)) sNx)
noncomputable def m__law_every_rule (call : Tab) : S := (sSeq (sSet (.nm 1) (eApp lstP esNil)) (sSeq (sFor (iRg2 (esCons (eK (.int 1)) (esCons (eBin (binD .Add) (gE (eBin ixD (eVar 0) (eK (.int 0)))) (eK (.int 1))) esNil))) (.nm 2) (_law_every_rule_b3 call)) (sSeq (sRet (eVar 1)) sNx)))
-- _law_row: 0 bag, 1 most, 2 thin, 3 tick
noncomputable def m__law_row (call : Tab) : S := (sSeq (sSet (.nm 2) (eDef call "_law_some" (esCons (eVar 0) (esCons (eApp lstP (esCons (eK (.int 1)) (esCons (eK (.int 2)) (esCons (eK (.int 2)) (esCons (eK (.int 3)) (esCons (eK (.int 6)) esNil)))))) esNil)))) (sSeq (sRet (gE (eApp tupleD (esCons (eLc (iRg1 (esCons (eDef call "_law_out" (esCons (eVar 0) (esCons (eBin (binD .Add) (eVar 1) (eK (.int 1))) esNil))) esNil)) (.nm 3) tYesT (gE (eApp intD (esCons (gE (eBin (cmpD .Eq) (eDef call "_law_out" (esCons (eVar 0) (esCons (eVar 2) esNil))) (eK (.int 0)))) esNil))) [3]) esNil)))) sNx))
theorem ixl_0 {μ : Mem} {n : Nat} {x y : D} (h : lstAt μ n = some [x, y]) : ixD (.loc n) (.int 0) μ = some (x, μ) := by
  simp only [ixD, seqD, h]; rfl
theorem ixl_1 {μ : Mem} {n : Nat} {x y : D} (h : lstAt μ n = some [x, y]) : ixD (.loc n) (.int 1) μ = some (y, μ) := by
  simp only [ixD, seqD, h]; rfl
theorem put_0 {μ : Mem} {n : Nat} {x y v : D} (h : lstAt μ n = some [x, y]) : putD (.loc n) (.int 0) v μ = some (μ.set n (.lst [v, y])) := by
  simp only [putD, h]; rfl
theorem put_1 {μ : Mem} {n : Nat} {x y v : D} (h : lstAt μ n = some [x, y]) : putD (.loc n) (.int 1) v μ = some (μ.set n (.lst [x, v])) := by
  simp only [putD, h]; rfl
def Bag (μ : Mem) (n : Nat) : Prop := ∃ a b : Int, lstAt μ n = some [.int a, .int b] ∧ 0 ≤ a ∧ 0 ≤ b ∧ b < 2147483648
theorem Bag.lt {μ : Mem} {n : Nat} (b : Bag μ n) : n < μ.length := let ⟨_, _, h, _⟩ := b; lstAt_lt h
theorem Bag.app {μ ν : Mem} {n : Nat} (b : Bag μ n) : Bag (μ ++ ν) n := let ⟨x, y, h, q⟩ := b; ⟨x, y, at_app h, q⟩
/-- drawn from the bag at n -/
def Drawn (μ : Mem) (n : Nat) (μ' : Mem) : Prop := ∃ a b : Int, μ' = μ.set n (.lst [.int a, .int b]) ∧ 0 ≤ a ∧ 0 ≤ b ∧ b < 2147483648
theorem Drawn.bag {μ μ' : Mem} {n : Nat} (d : Drawn μ n μ') (b : Bag μ n) : Bag μ' n := by
  obtain ⟨a, c, rfl, h1, h2, h3⟩ := d
  obtain ⟨x, y, h, _⟩ := b
  exact ⟨a, c, lst_set h, h1, h2, h3⟩
theorem Drawn.other {μ μ' : Mem} {n m : Nat} (d : Drawn μ n μ') (h : n ≠ m) : lstAt μ' m = lstAt μ m := by
  obtain ⟨a, c, rfl, h1, h2, h3⟩ := d
  exact lst_set_ne h
theorem Drawn.len {μ μ' : Mem} {n : Nat} (d : Drawn μ n μ') : μ'.length = μ.length := by
  obtain ⟨a, c, rfl, h1, h2, h3⟩ := d
  exact List.length_set ..
theorem Drawn.trans {μ μ1 μ2 : Mem} {n : Nat} (d : Drawn μ n μ1) (e : Drawn μ1 n μ2) : Drawn μ n μ2 := by
  obtain ⟨a, c, rfl, h1, h2, h3⟩ := d
  obtain ⟨a', c', rfl, h1', h2', h3'⟩ := e
  exact ⟨a', c', set_set, h1', h2', h3'⟩
theorem Drawn.self {μ : Mem} {n : Nat} (b : Bag μ n) : Drawn μ n μ := by
  obtain ⟨a, c, h, q⟩ := b
  refine ⟨a, c, ?_, q⟩
  have := lstAt_some h
  obtain ⟨h1, h2⟩ := List.getElem?_eq_some_iff.mp this
  rw [← h2]
  exact (List.set_getElem_self h1).symm
theorem Drawn.app {μ ν M : Mem} {n : Nat} (d : Drawn (μ ++ ν) n M) (h : n < μ.length) : ∃ μ1, M = μ1 ++ ν ∧ Drawn μ n μ1 := by
  obtain ⟨a, c, rfl, q⟩ := d
  exact ⟨_, List.set_append_left _ _ h, a, c, rfl, q⟩
theorem gc_drawn {μ μ1 ν : Mem} {n : Nat} {d : D} {fz : Bool} (h : Drawn μ n μ1) (lo : D.low μ.length d = true) : gc fz μ (.ok d (μ1 ++ ν)) = .ok d μ1 := by
  have hl := h.len
  have kp : KeepP μ.length μ (μ1 ++ ν) := by
    obtain ⟨a, b, rfl, _⟩ := h
    refine ⟨by simp, fun i o hi => ?_⟩
    have hi2 := (List.getElem?_eq_some_iff.mp hi).1
    rw [List.getElem?_append_left (by rw [List.length_set]; exact hi2)]
    by_cases e : n = i
    · subst e
      rw [List.getElem?_set_self hi2]
      exact .inr ⟨_, rfl, rfl⟩
    · rw [List.getElem?_set_ne e]
      exact .inl hi
  unfold gc
  dsimp only
  split
  · rename_i e
    have : ν = [] := List.length_eq_zero_iff.mp (by rw [List.length_append] at e; omega)
    rw [this, List.append_nil]
  · rw [← hl, List.take_left]
theorem gc_drawn0 {μ μ1 : Mem} {n : Nat} {d : D} {fz : Bool} (h : Drawn μ n μ1) : gc fz μ (.ok d μ1) = .ok d μ1 := by
  unfold gc
  simp [h.len]
/-- from a bag a number; the bag is written -/
def S_out (c : Tab) : Prop := ∀ n many μ, Bag μ n → 1 ≤ many → many ≤ 8192 → ∃ (r : Int) (μ' : Mem), run c "_law_out" [.loc n, .int many] μ = .ok (.int r) μ' ∧ Drawn μ n μ' ∧ 0 ≤ r ∧ r < many
theorem out_turn {c : Tab} {n : Nat} {many b : Int} {μ : Mem} (hl : lstAt μ n = some [.int 0, .int b]) (hb : 0 ≤ b) (hb2 : b < 2147483648) (h1 : 1 ≤ many) (h2 : many ≤ 8192) :
    ∃ x b', sWhile 1000000 (_law_out_t1 c) (_law_out_b2 c) [some (.loc n), some (.int many), some (.int 0), some (.int 1)] μ = .nx [some (.loc n), some (.int many), some (.int x), some (.int 8192)] (μ.set n (.lst [.int 0, .int b'])) ∧ 0 ≤ b' ∧ b' < 2147483648 := by
  refine ⟨0 * 8192 + ((b * 45991 + 17) % 2147483543) / 131071 % 8192, (b * 45991 + 17) % 2147483543, ?_, Int.emod_nonneg _ (by omega), Int.lt_trans (Int.emod_lt_of_pos _ (by omega)) (by omega)⟩
  have hl' := lst_set (ys := [.int 0, .int ((b * 45991 + 17) % 2147483543)]) hl
  show whGo _ _ (999999 + 1) _ _ = _
  rw [wh_go (k := 999999) (μ1 := μ) (ρ' := [some (.loc n), some (.int many), some (.int (0 * 8192 + ((b * 45991 + 17) % 2147483543) / 131071 % 8192)), some (.int 8192)]) (μ' := μ.set n (.lst [.int 0, .int ((b * 45991 + 17) % 2147483543)])) ?_ ?_]
  · refine wh_end (k := 999998) ?_
    unfold _law_out_t1
    simp only [List.length_cons, List.length_nil, if_true, List.map_cons, List.map_nil, List.replicate_zero, List.replicate_succ, List.append_nil, List.cons_append, List.nil_append, seq_eq, sRet, sNx, sIf, sExpr, sSet, sRaise, eAn, eOr, eNo, eUn, eBin, eApp, esCons, esNil, eIf, eChain, eVar, eK, tNo, tTru, tBl, tAn, tOr', gE, gc_id, gc_ex, List.getElem?_cons_zero, List.getElem?_cons_succ, bind_ok, bind_ex, st_ok, st_ex, r_some, cmpD, binD, runS, eDef_eq, Tg.sets, set_tp, setE_z, setE_s, Option.map_some, List.set_cons_zero, List.set_cons_succ, Bool.false_eq_true, if_false, tru_bl, Bool.not_true, Bool.not_false, icmp, show ¬ ((8192 : Int) < many) by omega, decide_false, eqD_int]
    rfl
  · unfold _law_out_t1
    simp only [List.length_cons, List.length_nil, if_true, List.map_cons, List.map_nil, List.replicate_zero, List.replicate_succ, List.append_nil, List.cons_append, List.nil_append, seq_eq, sRet, sNx, sIf, sExpr, sSet, sRaise, eAn, eOr, eNo, eUn, eBin, eApp, esCons, esNil, eIf, eChain, eVar, eK, tNo, tTru, tBl, tAn, tOr', gE, gc_id, gc_ex, List.getElem?_cons_zero, List.getElem?_cons_succ, bind_ok, bind_ex, st_ok, st_ex, r_some, cmpD, binD, runS, eDef_eq, Tg.sets, set_tp, setE_z, setE_s, Option.map_some, List.set_cons_zero, List.set_cons_succ, Bool.false_eq_true, if_false, tru_bl, Bool.not_true, Bool.not_false, icmp, eqD_int]
    by_cases h3 : (1 : Int) < many <;> simp [h3]
  · unfold _law_out_b2
    simp only [List.length_cons, List.length_nil, if_true, List.map_cons, List.map_nil, List.replicate_zero, List.replicate_succ, List.append_nil, List.cons_append, List.nil_append, seq_eq, sRet, sNx, sIf, sExpr, sSet, sRaise, eAn, eOr, eNo, eUn, eBin, eApp, esCons, esNil, eIf, eChain, eVar, eK, tNo, tTru, tBl, tAn, tOr', gE, gc_id, gc_ex, List.getElem?_cons_zero, List.getElem?_cons_succ, bind_ok, bind_ex, st_ok, st_ex, r_some, cmpD, binD, runS, eDef_eq, Tg.sets, set_tp, setE_z, setE_s, Option.map_some, List.set_cons_zero, List.set_cons_succ, Bool.false_eq_true, if_false, tru_bl, Bool.not_true, Bool.not_false, sSub, ixl_1 hl, mulD_s (show -4294967296 < b by omega) (show b < 4294967296 by omega) (show (-4294967296 : Int) < 45991 by omega) (show (45991 : Int) < 4294967296 by omega), addD_int, intD_int, modD_int (show (0 : Int) < 2147483543 by omega), put_1 hl, ixl_1 hl', divD_int (show (0 : Int) < 131071 by omega) (show (131071 : Int) < 1073741824 by omega),
      modD_int (show (0 : Int) < 8192 by omega), mulD_s (show (-4294967296 : Int) < 0 by omega) (show (0 : Int) < 4294967296 by omega) (show (-4294967296 : Int) < 8192 by omega) (show (8192 : Int) < 4294967296 by omega), mulD_s (show (-4294967296 : Int) < 1 by omega) (show (1 : Int) < 4294967296 by omega) (show (-4294967296 : Int) < 8192 by omega) (show (8192 : Int) < 4294967296 by omega), Option.map_some]
    rfl
theorem ok_out {c c' : Tab} (h : c' "_law_out" = some (mkFn 2 2 2 m__law_out c)) : S_out c' := by
  intro n many μ hbag h1 h2
  have hbag' := hbag
  obtain ⟨a, b, hl, ha, hb, hb2⟩ := hbag
  suffices hs : ∃ (r : Int) (μ' : Mem), runS (m__law_out c [some (.loc n), some (.int many), none, none] μ) = .ok (.int r) μ' ∧ Drawn μ n μ' ∧ 0 ≤ r ∧ r < many by
    obtain ⟨r, μ', e, d, q⟩ := hs
    refine ⟨r, μ', ?_, d, q⟩
    rw [run_mk h rfl, gcM2, show ([D.loc n, D.int many].map some ++ List.replicate 2 none) = [some (.loc n), some (.int many), none, none] from rfl, e, gc_drawn0 d]
  unfold m__law_out
  by_cases h : (0 : Int) < a
  · refine ⟨a % many, _, ?_, ⟨a / many, b, rfl, Int.ediv_nonneg ha (by omega), hb, hb2⟩, Int.emod_nonneg _ (by omega), Int.emod_lt_of_pos _ (by omega)⟩
    simp only [List.length_cons, List.length_nil, if_true, List.map_cons, List.map_nil, List.replicate_zero, List.replicate_succ, List.append_nil, List.cons_append, List.nil_append, seq_eq, sRet, sNx, sIf, sExpr, sSet, sRaise, eAn, eOr, eNo, eUn, eBin, eApp, esCons, esNil, eIf, eChain, eVar, eK, tNo, tTru, tBl, tAn, tOr', gE, gc_id, gc_ex, List.getElem?_cons_zero, List.getElem?_cons_succ, bind_ok, bind_ex, st_ok, st_ex, r_some, cmpD, binD, runS, eDef_eq, Tg.sets, set_tp, setE_z, setE_s, Option.map_some, List.set_cons_zero, List.set_cons_succ, Bool.false_eq_true, if_false, tru_bl, Bool.not_true, Bool.not_false, ixl_0 hl, icmp, h, decide_true, intD_int, modD_int (show (0 : Int) < many by omega), sSub, divD_int (show (0 : Int) < many by omega) (show many < 1073741824 by omega), put_0 hl, Option.map_some]
  · have a0 : a = 0 := by omega
    subst a0
    obtain ⟨x, b', hw, hb', hb2'⟩ := out_turn (c := c) hl hb hb2 h1 h2
    refine ⟨x % many, _, ?_, ⟨0, b', rfl, by omega, hb', hb2'⟩, Int.emod_nonneg _ (by omega), Int.emod_lt_of_pos _ (by omega)⟩
    have hs : sSet (.tp [(.nm 2), (.nm 3)]) (eApp tupP (esCons (eK (.int 0)) (esCons (eK (.int 1)) esNil))) [some (.loc n), some (.int many), none, none] μ = .nx [some (.loc n), some (.int many), some (.int 0), some (.int 1)] μ := rfl
    simp only [List.length_cons, List.length_nil, if_true, List.map_cons, List.map_nil, List.replicate_zero, List.replicate_succ, List.append_nil, List.cons_append, List.nil_append, seq_eq, sRet, sNx, sIf, sExpr, sSet, sRaise, eAn, eOr, eNo, eUn, eBin, eApp, esCons, esNil, eIf, eChain, eVar, eK, tNo, tTru, tBl, tAn, tOr', gE, gc_id, gc_ex, List.getElem?_cons_zero, List.getElem?_cons_succ, bind_ok, bind_ex, st_ok, st_ex, r_some, cmpD, binD, runS, eDef_eq, Tg.sets, set_tp, setE_z, setE_s, Option.map_some, List.set_cons_zero, List.set_cons_succ, Bool.false_eq_true, if_false, tru_bl, Bool.not_true, Bool.not_false, ixl_0 hl, icmp, h, decide_false, tup2, Option.map_some, hw, intD_int, modD_int (show (0 : Int) < many by omega)]
theorem seq_drawn {μ μ' : Mem} {n : Nat} {th : D} (d : Drawn μ n μ') (h : th ≠ .loc n) : seqD μ' th = seqD μ th := by
  cases th with
  | loc m => exact d.other fun e => h (by rw [e])
  | _ => rfl
def S_some (c : Tab) : Prop := ∀ n th xs μ, Bag μ n → seqD μ th = some xs → th ≠ .loc n → xs ≠ [] → xs.length ≤ 8192 → ∃ x μ', run c "_law_some" [.loc n, th] μ = .ok x μ' ∧ Drawn μ n μ' ∧ x ∈ xs
theorem ok_some {c c' : Tab} (h : c' "_law_some" = some (mkFn 2 0 2 m__law_some c)) (s : S_out c) : S_some c' := by
  intro n th xs μ hb hs hne hx hl
  have hp : 0 < xs.length := List.length_pos_iff.mpr hx
  obtain ⟨r, μ', e1, d, e2, e3⟩ := s n xs.length μ hb (by omega) (by omega)
  obtain ⟨x, e4, e5⟩ := atI_nat e2 e3
  refine ⟨x, μ', ?_, d, e5⟩
  rw [run_mk h rfl, gcM2]
  unfold m__law_some
  simp only [List.length_cons, List.length_nil, if_true, List.map_cons, List.map_nil, List.replicate_zero, List.replicate_succ, List.append_nil, List.cons_append, List.nil_append, seq_eq, sRet, sNx, sIf, sExpr, sSet, sRaise, eAn, eOr, eNo, eUn, eBin, eApp, esCons, esNil, eIf, eChain, eVar, eK, tNo, tTru, tBl, tAn, tOr', gE, gc_id, gc_ex, List.getElem?_cons_zero, List.getElem?_cons_succ, bind_ok, bind_ex, st_ok, st_ex, r_some, cmpD, binD, runS, eDef_eq, Tg.sets, set_tp, setE_z, setE_s, Option.map_some, List.set_cons_zero, List.set_cons_succ, Bool.false_eq_true, if_false, tru_bl, Bool.not_true, Bool.not_false, lenD_seq hs, e1, ixD_seq ((seq_drawn d hne).trans hs) e4, gc_drawn0 d]
def S_machine (c : Tab) : Prop := ∀ n (most : Int) μ, Bag μ n → 1 ≤ most → most ≤ 8000 → ∃ (r l p : Int) (μ' : Mem), run c "_law_machine" [.loc n, .int most] μ = .ok (.tup [.int r, .int l, .int p]) μ' ∧ Drawn μ n μ' ∧ 1 ≤ r ∧ r ≤ most ∧ 1 ≤ l ∧ l ≤ r ∧ 1 ≤ p ∧ p ≤ 9
theorem ok_machine {c c' : Tab} (h : c' "_law_machine" = some (mkFn 2 1 2 m__law_machine c)) (s : S_out c) : S_machine c' := by
  intro n most μ hb h2 h3
  obtain ⟨r0, μ1, e1, d1, a1, a2⟩ := s n most μ hb h2 (by omega)
  obtain ⟨k, μ2, e2, d2, b1, b2⟩ := s n 2 μ1 (d1.bag hb) (by omega) (by omega)
  obtain ⟨room, hr1, hr2, hr⟩ : ∃ room : Int, 1 ≤ room ∧ room ≤ most ∧ room = if k = 0 then most else 1 + r0 := by
    by_cases h : k = 0
    · exact ⟨most, h2, by omega, by rw [if_pos h]⟩
    · exact ⟨1 + r0, by omega, by omega, by rw [if_neg h]⟩
  obtain ⟨l0, μ3, e3, d3, c1, c2⟩ := s n room μ2 (d2.bag (d1.bag hb)) hr1 (by omega)
  obtain ⟨p0, μ4, e4, d4, f1, f2⟩ := s n 9 μ3 (d3.bag (d2.bag (d1.bag hb))) (by omega) (by omega)
  have dd := ((d1.trans d2).trans d3).trans d4
  refine ⟨room, 1 + l0, 1 + p0, μ4, ?_, dd, hr1, hr2, by omega, by omega, by omega, by omega⟩
  rw [run_mk h rfl, gcM2]
  have : runS (m__law_machine c [some (.loc n), some (.int most), none] μ) = .ok (.tup [.int room, .int (1 + l0), .int (1 + p0)]) μ4 := by
    unfold m__law_machine
    have g2 : gc false μ1 (.ok (.bl (k == 0)) μ2) = .ok (.bl (k == 0)) μ2 := gc_drawn0 d2
    simp only [List.length_cons, List.length_nil, if_true, List.map_cons, List.map_nil, List.replicate_zero, List.replicate_succ, List.append_nil, List.cons_append, List.nil_append, seq_eq, sRet, sNx, sIf, sExpr, sSet, sRaise, eAn, eOr, eNo, eUn, eBin, eApp, esCons, esNil, eIf, eChain, eVar, eK, tNo, tTru, tBl, tAn, tOr', gE, gc_id, gc_ex, List.getElem?_cons_zero, List.getElem?_cons_succ, bind_ok, bind_ex, st_ok, st_ex, r_some, cmpD, binD, runS, eDef_eq, Tg.sets, set_tp, setE_z, setE_s, Option.map_some, List.set_cons_zero, List.set_cons_succ, Bool.false_eq_true, if_false, tru_bl, Bool.not_true, Bool.not_false, e1, addD_int, Option.map_some, e2, eqD_int, g2]
    by_cases h : k = 0
    · subst h
      rw [if_pos rfl] at hr
      subst hr
      simp [List.length_cons, List.length_nil, if_true, List.map_cons, List.map_nil, List.replicate_zero, List.replicate_succ, List.append_nil, List.cons_append, List.nil_append, seq_eq, sRet, sNx, sIf, sExpr, sSet, sRaise, eAn, eOr, eNo, eUn, eBin, eApp, esCons, esNil, eIf, eChain, eVar, eK, tNo, tTru, tBl, tAn, tOr', gE, gc_id, gc_ex, List.getElem?_cons_zero, List.getElem?_cons_succ, bind_ok, bind_ex, st_ok, st_ex, r_some, cmpD, binD, runS, eDef_eq, Tg.sets, set_tp, setE_z, setE_s, Option.map_some, List.set_cons_zero, List.set_cons_succ, Bool.false_eq_true, if_false, tru_bl, Bool.not_true, Bool.not_false, e3, addD_int, e4, tup3]
    · rw [if_neg h] at hr
      subst hr
      have hc : (k == 0) = false := by simpa using h
      simp [List.length_cons, List.length_nil, if_true, List.map_cons, List.map_nil, List.replicate_zero, List.replicate_succ, List.append_nil, List.cons_append, List.nil_append, seq_eq, sRet, sNx, sIf, sExpr, sSet, sRaise, eAn, eOr, eNo, eUn, eBin, eApp, esCons, esNil, eIf, eChain, eVar, eK, tNo, tTru, tBl, tAn, tOr', gE, gc_id, gc_ex, List.getElem?_cons_zero, List.getElem?_cons_succ, bind_ok, bind_ex, st_ok, st_ex, r_some, cmpD, binD, runS, eDef_eq, Tg.sets, set_tp, setE_z, setE_s, Option.map_some, List.set_cons_zero, List.set_cons_succ, Bool.false_eq_true, if_false, tru_bl, Bool.not_true, Bool.not_false, e3, addD_int, e4, tup3, hc]
  rw [show ([D.loc n, D.int most].map some ++ List.replicate 1 none) = [some (.loc n), some (.int most), none] from rfl, this, gc_drawn0 dd]
/-- whether a rule keeps up -/
def goodB (r l a g b : Int) : Bool := (decide (1 ≤ a) && decide (a ≤ r)) && ((decide (0 ≤ g) && decide (g ≤ 5)) && decide (l + (if (b == 2 && l % 2 == 1) = true then 1 else 0) ≤ r))
def S_good (c : Tab) : Prop := ∀ r l p a g b μ, run c "_law_good_rule" [.tup [.int r, .int l, p], .int a, .int g, .int b] μ = .ok (.bl (goodB r l a g b)) μ
theorem ok_good {c c' : Tab} (h : c' "_law_good_rule" = some (mkFn 4 1 2 m__law_good_rule c)) : S_good c' := by
  intro r l p a g b μ
  rw [run_mk h rfl, gcM2]
  have h1 : runS (m__law_good_rule c [some (.tup [.int r, .int l, p]), some (.int a), some (.int g), some (.int b), none] μ) = .ok (.bl (goodB r l a g b)) μ := by
    unfold m__law_good_rule
    simp only [List.length_cons, List.length_nil, if_true, List.map_cons, List.map_nil, List.replicate_zero, List.replicate_succ, List.append_nil, List.cons_append, List.nil_append, seq_eq, sRet, sNx, sIf, sExpr, sSet, sRaise, eAn, eOr, eNo, eUn, eBin, eApp, esCons, esNil, eIf, eChain, eVar, eK, tNo, tTru, tBl, tAn, tOr', gE, gc_id, gc_ex, List.getElem?_cons_zero, List.getElem?_cons_succ, bind_ok, bind_ex, st_ok, st_ex, r_some, cmpD, binD, runS, eDef_eq, Tg.sets, set_tp, setE_z, setE_s, Option.map_some, List.set_cons_zero, List.set_cons_succ, Bool.false_eq_true, if_false, tru_bl, Bool.not_true, Bool.not_false, ix3_0, ix3_1, eqD_int, modD_int (show (0 : Int) < 2 by omega), icmp]
    unfold goodB
    cases h : (b == 2) <;> by_cases h1 : 1 ≤ a <;> by_cases h2 : a ≤ r <;> by_cases h3 : 0 ≤ g <;> by_cases h4 : g ≤ 5 <;> simp [List.length_cons, List.length_nil, if_true, List.map_cons, List.map_nil, List.replicate_zero, List.replicate_succ, List.append_nil, List.cons_append, List.nil_append, seq_eq, sRet, sNx, sIf, sExpr, sSet, sRaise, eAn, eOr, eNo, eUn, eBin, eApp, esCons, esNil, eIf, eChain, eVar, eK, tNo, tTru, tBl, tAn, tOr', gE, gc_id, gc_ex, List.getElem?_cons_zero, List.getElem?_cons_succ, bind_ok, bind_ex, st_ok, st_ex, r_some, cmpD, binD, runS, eDef_eq, Tg.sets, set_tp, setE_z, setE_s, Option.map_some, List.set_cons_zero, List.set_cons_succ, Bool.false_eq_true, if_false, tru_bl, Bool.not_true, Bool.not_false, h1, h2, h3, h4, ix3_0, ix3_1, icmp, intD_bl, addD_int, modD_int (show (0 : Int) < 2 by omega), eqD_int]
  rw [show ([D.tup [.int r, .int l, p], .int a, .int g, .int b].map some ++ List.replicate 1 none) = [some (.tup [.int r, .int l, p]), some (.int a), some (.int g), some (.int b), none] from rfl, h1, gc_id]
def ruleD (a g b : Int) : D := .tup [.int a, .int g, .int b]
/-- the rules with a least and an age -/
def rb (r l a g : Int) : List D := (([1, 2] : List Int).filter fun b => goodB r l a g b).map (ruleD a g)
def rg (r l a : Int) (k : Nat) : List D := (List.range k).flatMap fun (g : Nat) => rb r l a g
def ra (r l : Int) (k : Nat) : List D := (List.range k).flatMap fun (i : Nat) => rg r l (1 + i) 6
theorem rb_len {r l a g : Int} : (rb r l a g).length ≤ 2 := by
  unfold rb
  rw [List.length_map]
  exact List.length_filter_le _ _
theorem rg_succ {r l a : Int} {k : Nat} : rg r l a (k + 1) = rg r l a k ++ rb r l a k := by
  unfold rg
  rw [List.range_succ, List.flatMap_append, List.flatMap_singleton]
theorem rg_len {r l a : Int} : ∀ k, (rg r l a k).length ≤ 2 * k
  | 0 => by simp [rg]
  | k + 1 => by
    rw [rg_succ, List.length_append]
    have := rg_len (r := r) (l := l) (a := a) k
    have := rb_len (r := r) (l := l) (a := a) (g := k)
    omega
theorem ra_succ {r l : Int} {k : Nat} : ra r l (k + 1) = ra r l k ++ rg r l (1 + k) 6 := by
  unfold ra
  rw [List.range_succ, List.flatMap_append, List.flatMap_singleton]
theorem ra_len {r l : Int} : ∀ k, (ra r l k).length ≤ 12 * k
  | 0 => by simp [ra]
  | k + 1 => by
    rw [ra_succ, List.length_append]
    have := ra_len (r := r) (l := l) k
    have := rg_len (r := r) (l := l) (a := 1 + k) 6
    omega
theorem rb_low {n : Nat} {r l a g : Int} : D.lows n (rb r l a g) = true := lows_map fun _ _ => rfl
theorem rg_low {n : Nat} {r l a : Int} {k : Nat} : D.lows n (rg r l a k) = true := by
  rw [lows_all]
  intro x hx
  obtain ⟨g, _, h⟩ := List.mem_flatMap.mp hx
  exact lows_all.mp rb_low x h
theorem ra_low {n : Nat} {r l : Int} {k : Nat} : D.lows n (ra r l k) = true := by
  rw [lows_all]
  intro x hx
  obtain ⟨g, _, h⟩ := List.mem_flatMap.mp hx
  exact lows_all.mp rg_low x h
theorem append_last {μ : Mem} {acc : List D} {y : D} (h : acc.length < 16777216) : appendD (.loc μ.length) [y] (μ ++ [.lst acc]) = some (.non, μ ++ [.lst (acc ++ [y])]) := by
  unfold appendD
  simp only [lst_at_new, h, if_true, set_new0, List.set_cons_zero]
theorem kind_at {μ : Mem} {n : Nat} {xs : List D} (h : lstAt μ n = some xs) : kindD μ (.loc n) = "list" := by
  unfold kindD
  simp only [h]
theorem kind_last {μ : Mem} {acc : List D} : kindD (μ ++ [.lst acc]) (.loc μ.length) = "list" := kind_at lst_at_new
theorem append_at {μ : Mem} {n : Nat} {acc : List D} {y : D} (h : lstAt μ n = some acc) (hl : acc.length < 16777216) : appendD (.loc n) [y] μ = some (.non, μ.set n (.lst (acc ++ [y]))) := by
  unfold appendD
  simp only [h, hl, if_true]
def S_every (c : Tab) : Prop := ∀ (r l : Int) (p : D) (μ : Mem), 0 ≤ r → r ≤ 1000 → run c "_law_every_rule" [.tup [.int r, .int l, p]] μ = .ok (.fl (ra r l r.toNat)) μ
section
variable {c : Tab} (s : S_good c)
include s
theorem ev_b1 {r l a g b : Int} {p : D} {μ : Mem} {acc : List D} (h : acc.length < 16777216) :
    _law_every_rule_b1 c [some (.tup [.int r, .int l, p]), some (.loc μ.length), some (.int a), some (.int g), some (.int b)] (μ ++ [.lst acc]) = .nx [some (.tup [.int r, .int l, p]), some (.loc μ.length), some (.int a), some (.int g), some (.int b)] (μ ++ [.lst (acc ++ if goodB r l a g b = true then [ruleD a g b] else [])]) := by
  unfold _law_every_rule_b1
  simp only [List.length_cons, List.length_nil, if_true, List.map_cons, List.map_nil, List.replicate_zero, List.replicate_succ, List.append_nil, List.cons_append, List.nil_append, seq_eq, sRet, sNx, sIf, sExpr, sSet, sRaise, eAn, eOr, eNo, eUn, eBin, eApp, esCons, esNil, eIf, eChain, eVar, eK, tNo, tTru, tBl, tAn, tOr', gE, gc_id, gc_ex, List.getElem?_cons_zero, List.getElem?_cons_succ, bind_ok, bind_ex, st_ok, st_ex, r_some, cmpD, binD, runS, eDef_eq, Tg.sets, set_tp, setE_z, setE_s, Option.map_some, List.set_cons_zero, List.set_cons_succ, Bool.false_eq_true, if_false, tru_bl, Bool.not_true, Bool.not_false, s r l p a g b]
  cases hg : goodB r l a g b with
  | false => simp
  | true => simp [List.length_cons, List.length_nil, if_true, List.map_cons, List.map_nil, List.replicate_zero, List.replicate_succ, List.append_nil, List.cons_append, List.nil_append, seq_eq, sRet, sNx, sIf, sExpr, sSet, sRaise, eAn, eOr, eNo, eUn, eBin, eApp, esCons, esNil, eIf, eChain, eVar, eK, tNo, tTru, tBl, tAn, tOr', gE, gc_id, gc_ex, List.getElem?_cons_zero, List.getElem?_cons_succ, bind_ok, bind_ex, st_ok, st_ex, r_some, cmpD, binD, runS, eDef_eq, Tg.sets, set_tp, setE_z, setE_s, Option.map_some, List.set_cons_zero, List.set_cons_succ, Bool.false_eq_true, if_false, tru_bl, Bool.not_true, Bool.not_false, eMt, kind_last, append_last h, tup3, ruleD]
theorem ev_b2 {r l a g : Int} {x : Option D} {p : D} {μ : Mem} {acc : List D} (h : acc.length + 2 < 16777216) :
    _law_every_rule_b2 c [some (.tup [.int r, .int l, p]), some (.loc μ.length), some (.int a), some (.int g), x] (μ ++ [.lst acc]) = .nx [some (.tup [.int r, .int l, p]), some (.loc μ.length), some (.int a), some (.int g), some (.int 2)] (μ ++ [.lst (acc ++ rb r l a g)]) := by
  have e : iSeq (eApp tupP (esCons (eK (.int 1)) (esCons (eK (.int 2)) esNil))) [some (.tup [.int r, .int l, p]), some (.loc μ.length), some (.int a), some (.int g), x] (μ ++ [.lst acc]) = .ok (.fix [.int 1, .int 2]) (μ ++ [.lst acc]) := rfl
  have hl : (acc ++ if goodB r l a g 1 = true then [ruleD a g 1] else []).length < 16777216 := by
    rw [List.length_append]
    split <;> simp <;> omega
  unfold _law_every_rule_b2 sFor
  rw [seq_eq, e]
  simp only [st_ok, Src.bnd, List.length_cons, List.length_nil]
  rw [foGo]
  simp only [List.length_cons, List.length_nil, if_true, List.map_cons, List.map_nil, List.replicate_zero, List.replicate_succ, List.append_nil, List.cons_append, List.nil_append, seq_eq, sRet, sNx, sIf, sExpr, sSet, sRaise, eAn, eOr, eNo, eUn, eBin, eApp, esCons, esNil, eIf, eChain, eVar, eK, tNo, tTru, tBl, tAn, tOr', gE, gc_id, gc_ex, List.getElem?_cons_zero, List.getElem?_cons_succ, bind_ok, bind_ex, st_ok, st_ex, r_some, cmpD, binD, runS, eDef_eq, Tg.sets, set_tp, setE_z, setE_s, Option.map_some, List.set_cons_zero, List.set_cons_succ, Bool.false_eq_true, if_false, tru_bl, Bool.not_true, Bool.not_false, Src.nxt, Option.map_some, ev_b1 s (show acc.length < 16777216 by omega)]
  rw [foGo]
  simp only [List.length_cons, List.length_nil, if_true, List.map_cons, List.map_nil, List.replicate_zero, List.replicate_succ, List.append_nil, List.cons_append, List.nil_append, seq_eq, sRet, sNx, sIf, sExpr, sSet, sRaise, eAn, eOr, eNo, eUn, eBin, eApp, esCons, esNil, eIf, eChain, eVar, eK, tNo, tTru, tBl, tAn, tOr', gE, gc_id, gc_ex, List.getElem?_cons_zero, List.getElem?_cons_succ, bind_ok, bind_ex, st_ok, st_ex, r_some, cmpD, binD, runS, eDef_eq, Tg.sets, set_tp, setE_z, setE_s, Option.map_some, List.set_cons_zero, List.set_cons_succ, Bool.false_eq_true, if_false, tru_bl, Bool.not_true, Bool.not_false, Src.nxt, Option.map_some, ev_b1 s hl]
  rw [foGo]
  simp only [List.length_cons, List.length_nil, if_true, List.map_cons, List.map_nil, List.replicate_zero, List.replicate_succ, List.append_nil, List.cons_append, List.nil_append, seq_eq, sRet, sNx, sIf, sExpr, sSet, sRaise, eAn, eOr, eNo, eUn, eBin, eApp, esCons, esNil, eIf, eChain, eVar, eK, tNo, tTru, tBl, tAn, tOr', gE, gc_id, gc_ex, List.getElem?_cons_zero, List.getElem?_cons_succ, bind_ok, bind_ex, st_ok, st_ex, r_some, cmpD, binD, runS, eDef_eq, Tg.sets, set_tp, setE_z, setE_s, Option.map_some, List.set_cons_zero, List.set_cons_succ, Bool.false_eq_true, if_false, tru_bl, Bool.not_true, Bool.not_false, Src.nxt, List.getElem?_nil]
  have : (acc ++ if goodB r l a g 1 = true then [ruleD a g 1] else []) ++ (if goodB r l a g 2 = true then [ruleD a g 2] else []) = acc ++ rb r l a g := by
    unfold rb
    cases h1 : goodB r l a g 1 <;> cases h2 : goodB r l a g 2 <;> simp [h1, h2]
  rw [this]
theorem ev_b3 {r l a : Int} {x y : Option D} {p : D} {μ : Mem} {acc : List D} (h : acc.length + 12 < 16777216) :
    ∃ x' y', _law_every_rule_b3 c [some (.tup [.int r, .int l, p]), some (.loc μ.length), some (.int a), x, y] (μ ++ [.lst acc]) = .nx [some (.tup [.int r, .int l, p]), some (.loc μ.length), some (.int a), x', y'] (μ ++ [.lst (acc ++ rg r l a 6)]) := by
  obtain ⟨ρ', μ', h5, ⟨x', y', h6, h7⟩⟩ := for_rng (it := iRg1 (esCons (eK (.int 6)) esNil)) (tg := .nm 3) (b := _law_every_rule_b2 c) (ρ := [some (.tup [.int r, .int l, p]), some (.loc μ.length), some (.int a), x, y]) (μ := μ ++ [.lst acc]) (μ1 := μ ++ [.lst acc]) (lo := 0) (N := 6)
    (fun i ρ μ' => ∃ x y, ρ = [some (.tup [.int r, .int l, p]), some (.loc μ.length), some (.int a), x, y] ∧ μ' = μ ++ [.lst (acc ++ rg r l a i)]) rfl ⟨x, y, rfl, by simp [rg]⟩
    (fun i ρ μ' hi ⟨x, y, e1, e2⟩ => by
      subst e1 e2
      have hb := ev_b2 s (r := r) (l := l) (a := a) (g := 0 + i) (x := y) (p := p) (μ := μ) (acc := acc ++ rg r l a i) (by
        have := rg_len (r := r) (l := l) (a := a) i
        rw [List.length_append]
        omega)
      refine ⟨_, _, _, rfl, hb, some (.int (0 + i)), some (.int 2), rfl, ?_⟩
      rw [rg_succ, List.append_assoc, Int.zero_add])
  refine ⟨x', y', ?_⟩
  unfold _law_every_rule_b3
  rw [seq_eq, h5]
  subst h6 h7
  rfl
theorem ok_every {c' : Tab} (h : c' "_law_every_rule" = some (mkFn 1 4 2 m__law_every_rule c)) : S_every c' := by
  intro r l p μ hr hr2
  have e : iRg2 (esCons (eK (.int 1)) (esCons (eBin (binD .Add) (gE (eBin ixD (eVar 0) (eK (.int 0)))) (eK (.int 1))) esNil)) [some (.tup [.int r, .int l, p]), some (.loc μ.length), none, none, none] (μ ++ [.lst []]) = .ok (.rng 1 r.toNat) (μ ++ [.lst []]) := by
    unfold iRg2
    simp only [List.length_cons, List.length_nil, if_true, List.map_cons, List.map_nil, List.replicate_zero, List.replicate_succ, List.append_nil, List.cons_append, List.nil_append, seq_eq, sRet, sNx, sIf, sExpr, sSet, sRaise, eAn, eOr, eNo, eUn, eBin, eApp, esCons, esNil, eIf, eChain, eVar, eK, tNo, tTru, tBl, tAn, tOr', gE, gc_id, gc_ex, List.getElem?_cons_zero, List.getElem?_cons_succ, bind_ok, bind_ex, st_ok, st_ex, r_some, cmpD, binD, runS, eDef_eq, Tg.sets, set_tp, setE_z, setE_s, Option.map_some, List.set_cons_zero, List.set_cons_succ, Bool.false_eq_true, if_false, tru_bl, Bool.not_true, Bool.not_false, ix3_0, addD_int]
    rw [rg2_ok (by omega) (by omega) (by omega) (by omega)]
    congr
    omega
  obtain ⟨ρ', μ', h5, ⟨x', y', z', h6, h7⟩⟩ := for_rng (it := iRg2 (esCons (eK (.int 1)) (esCons (eBin (binD .Add) (gE (eBin ixD (eVar 0) (eK (.int 0)))) (eK (.int 1))) esNil))) (tg := .nm 2) (b := _law_every_rule_b3 c) (ρ := [some (.tup [.int r, .int l, p]), some (.loc μ.length), none, none, none]) (μ := μ ++ [.lst []]) (N := r.toNat)
    (fun i ρ μ' => ∃ x y z, ρ = [some (.tup [.int r, .int l, p]), some (.loc μ.length), x, y, z] ∧ μ' = μ ++ [.lst (ra r l i)]) e ⟨none, none, none, rfl, by simp [ra]⟩
    (fun i ρ μ' hi ⟨x, y, z, e1, e2⟩ => by
      subst e1 e2
      obtain ⟨x', y', hb⟩ := ev_b3 s (r := r) (l := l) (a := 1 + i) (x := y) (y := z) (p := p) (μ := μ) (acc := ra r l i) (by
        have := ra_len (r := r) (l := l) i
        omega)
      refine ⟨_, _, _, rfl, hb, some (.int (1 + i)), x', y', rfl, ?_⟩
      rw [ra_succ])
  rw [run_mk h rfl, gcM2]
  have : runS (m__law_every_rule c [some (.tup [.int r, .int l, p]), none, none, none, none] μ) = .ok (.loc μ.length) (μ ++ [.lst (ra r l r.toNat)]) := by
    have hs : sSet (.nm 1) (eApp lstP esNil) [some (.tup [.int r, .int l, p]), none, none, none, none] μ = .nx [some (.tup [.int r, .int l, p]), some (.loc μ.length), none, none, none] (μ ++ [.lst []]) := rfl
    unfold m__law_every_rule
    rw [seq_eq, hs]
    simp only []
    rw [seq_eq, h5]
    subst h6 h7
    simp only [List.length_cons, List.length_nil, if_true, List.map_cons, List.map_nil, List.replicate_zero, List.replicate_succ, List.append_nil, List.cons_append, List.nil_append, seq_eq, sRet, sNx, sIf, sExpr, sSet, sRaise, eAn, eOr, eNo, eUn, eBin, eApp, esCons, esNil, eIf, eChain, eVar, eK, tNo, tTru, tBl, tAn, tOr', gE, gc_id, gc_ex, List.getElem?_cons_zero, List.getElem?_cons_succ, bind_ok, bind_ex, st_ok, st_ex, r_some, cmpD, binD, runS, eDef_eq, Tg.sets, set_tp, setE_z, setE_s, Option.map_some, List.set_cons_zero, List.set_cons_succ, Bool.false_eq_true, if_false, tru_bl, Bool.not_true, Bool.not_false]
  rw [show ([D.tup [.int r, .int l, p]].map some ++ List.replicate 4 none) = [some (.tup [.int r, .int l, p]), none, none, none, none] from rfl, this]
  exact gc_flA ra_low
end
theorem low_tints {n : Nat} {xs : List Int} : D.low n (.tup (xs.map .int)) = true := by rw [D.low]; exact low_ints
/-! rows -/
theorem row_ev {c : Tab} (s : S_out c) {n : Nat} {x2 x3 : Option D} {many : Int} (h1 : 1 ≤ many) (h2 : many ≤ 8192) {μ : Mem} (b : Bag μ n) :
    ∃ (z : Int) (μ' : Mem), gE (eApp intD (esCons (gE (eBin (cmpD .Eq) (eDef c "_law_out" (esCons (eVar 0) (esCons (eVar 2) esNil))) (eK (.int 0)))) esNil)) [some (.loc n), x2, some (.int many), x3] μ = .ok (.int z) μ' ∧ Drawn μ n μ' ∧ (z = 0 ∨ z = 1) := by
  obtain ⟨r, μ', e, d, q1, q2⟩ := s n many μ b h1 h2
  have g : ∀ v, gc false μ (.ok v μ') = .ok v μ' := fun v => gc_drawn0 d
  refine ⟨if (r == 0) = true then 1 else 0, μ', ?_, d, by split <;> simp⟩
  simp only [List.length_cons, List.length_nil, if_true, List.map_cons, List.map_nil, List.replicate_zero, List.replicate_succ, List.append_nil, List.cons_append, List.nil_append, seq_eq, sRet, sNx, sIf, sExpr, sSet, sRaise, eAn, eOr, eNo, eUn, eBin, eApp, esCons, esNil, eIf, eChain, eVar, eK, tNo, tTru, tBl, tAn, tOr', gE, gc_id, gc_ex, List.getElem?_cons_zero, List.getElem?_cons_succ, bind_ok, bind_ex, st_ok, st_ex, r_some, cmpD, binD, runS, eDef_eq, Tg.sets, set_tp, setE_z, setE_s, Option.map_some, List.set_cons_zero, List.set_cons_succ, Bool.false_eq_true, if_false, tru_bl, Bool.not_true, Bool.not_false, e, eqD_int, g, intD_bl]
def S_row (c : Tab) : Prop := ∀ n (most : Nat) μ, Bag μ n → most ≤ 8000 → ∃ (row : List Int) (μ' : Mem), run c "_law_row" [.loc n, .int most] μ = .ok (.tup (row.map .int)) μ' ∧ Drawn μ n μ' ∧ (∀ z ∈ row, z = 0 ∨ z = 1) ∧ row.length ≤ most
theorem ok_row {c c' : Tab} (h : c' "_law_row" = some (mkFn 2 2 2 m__law_row c)) (s : S_out c) (ss : S_some c) : S_row c' := by
  intro n most μ hb hm
  suffices hs : ∃ (row : List Int) (μ1 ν : Mem), runS (m__law_row c [some (.loc n), some (.int most), none, none] μ) = .ok (.tup (row.map .int)) (μ1 ++ ν) ∧ Drawn μ n μ1 ∧ (∀ z ∈ row, z = 0 ∨ z = 1) ∧ row.length ≤ most by
    obtain ⟨row, μ1, ν, e, d, q⟩ := hs
    refine ⟨row, μ1, ?_, d, q⟩
    rw [run_mk h rfl, gcM2, show ([D.loc n, D.int most].map some ++ List.replicate 2 none) = [some (.loc n), some (.int most), none, none] from rfl, e, gc_drawn d low_tints]
  have hn := hb.lt
  -- how thin
  obtain ⟨x, M1, e1, d1a, hx⟩ := ss n (.loc μ.length) [.int 1, .int 2, .int 2, .int 3, .int 6] (μ ++ [.lst [.int 1, .int 2, .int 2, .int 3, .int 6]]) hb.app (by show lstAt _ _ = _; exact lst_at_new) (by simp; omega) (by simp) (by simp)
  obtain ⟨μ1, rfl, d1⟩ := d1a.app hn
  obtain ⟨many, rfl, m1, m2⟩ : ∃ many : Int, x = .int many ∧ 1 ≤ many ∧ many ≤ 8192 := by
    simp only [List.mem_cons, List.not_mem_nil, or_false] at hx
    rcases hx with rfl | rfl | rfl | rfl | rfl <;> exact ⟨_, rfl, by omega, by omega⟩
  have b1 := d1.bag hb
  obtain ⟨k, M2, e2, d2a, k1, k2⟩ := s n (most + 1) (μ1 ++ [.lst [.int 1, .int 2, .int 2, .int 3, .int 6]]) b1.app (by omega) (by omega)
  obtain ⟨μ2, rfl, d2⟩ := d2a.app b1.lt
  have b2 := d2.bag b1
  -- the comprehension
  have hl1 : μ1.length = μ.length := d1.len
  have hl2 : μ2.length = μ.length := d2.len.trans hl1
  let ν : Mem := [.lst [.int 1, .int 2, .int 2, .int 3, .int 6]]
  replace e2 : run c "_law_out" [.loc n, .int (most + 1)] (μ1 ++ ν) = .ok (.int k) (μ2 ++ ν) := e2
  have hi : iRg1 (esCons (eDef c "_law_out" (esCons (eVar 0) (esCons (eBin (binD .Add) (eVar 1) (eK (.int 1))) esNil))) esNil) [some (.loc n), some (.int most), some (.int many), none] (μ1 ++ ν) = .ok (.rng 0 k.toNat) (μ2 ++ ν) := by
    unfold iRg1
    simp only [List.length_cons, List.length_nil, if_true, List.map_cons, List.map_nil, List.replicate_zero, List.replicate_succ, List.append_nil, List.cons_append, List.nil_append, seq_eq, sRet, sNx, sIf, sExpr, sSet, sRaise, eAn, eOr, eNo, eUn, eBin, eApp, esCons, esNil, eIf, eChain, eVar, eK, tNo, tTru, tBl, tAn, tOr', gE, gc_id, gc_ex, List.getElem?_cons_zero, List.getElem?_cons_succ, bind_ok, bind_ex, st_ok, st_ex, r_some, cmpD, binD, runS, eDef_eq, Tg.sets, set_tp, setE_z, setE_s, Option.map_some, List.set_cons_zero, List.set_cons_succ, Bool.false_eq_true, if_false, tru_bl, Bool.not_true, Bool.not_false, addD_int, e2]
    rw [rg1_ok (by omega) (by omega)]
  have hlc : ∃ (row : List Int) (μ3 : Mem), eLc (iRg1 (esCons (eDef c "_law_out" (esCons (eVar 0) (esCons (eBin (binD .Add) (eVar 1) (eK (.int 1))) esNil))) esNil)) (.nm 3) tYesT (gE (eApp intD (esCons (gE (eBin (cmpD .Eq) (eDef c "_law_out" (esCons (eVar 0) (esCons (eVar 2) esNil))) (eK (.int 0)))) esNil))) [3] [some (.loc n), some (.int most), some (.int many), none] (μ1 ++ ν) = .ok (.loc (μ2 ++ ν).length) (μ3 ++ (ν ++ [.lst (row.map .int)])) ∧ Drawn μ n μ3 ∧ (∀ z ∈ row, z = 0 ∨ z = 1) ∧ row.length ≤ k.toNat := by
    unfold eLc
    rw [hi, bind_ok]
    rw [if_pos (show ((Tg.nm 3).slots.all fun i => [3].contains i) = true from rfl)]
    obtain ⟨acc, M, q1, row, μ3, q2, q3, q4, q5, q6⟩ := lc_inv (src := .rng 0 k.toNat) (tg := .nm 3) (ifs := tYesT) (elt := gE (eApp intD (esCons (gE (eBin (cmpD .Eq) (eDef c "_law_out" (esCons (eVar 0) (esCons (eVar 2) esNil))) (eK (.int 0)))) esNil))) (ρ := wipeE [some (.loc n), some (.int most), some (.int many), none] [3]) (n := (μ2 ++ ν).length) (fun i : Nat => .int (0 + i)) (List.range k.toNat) (by rw [List.length_range]; omega)
      (fun pre acc M => ∃ (row : List Int) (μ3 : Mem), acc = row.map .int ∧ M = μ3 ++ (ν ++ [.lst acc]) ∧ Drawn μ n μ3 ∧ (∀ z ∈ row, z = 0 ∨ z = 1) ∧ row.length = pre.length)
      (fun pre acc M ⟨row, μ3, z1, z2, z3, z4, z5⟩ => by
        subst z1 z2
        refine ⟨?_, by simp [z5]⟩
        have : (μ2 ++ ν).length = (μ3 ++ ν).length := by simp [hl2, z3.len]
        rw [this, ← List.append_assoc]
        exact lst_at_new)
      (fun pre x post acc M hp ⟨row, μ3, z1, z2, z3, z4, z5⟩ => by
        subst z1 z2
        have hx : pre.length = x ∧ x < k.toNat := by
          have h1 : (List.range k.toNat)[pre.length]? = some x := by rw [hp]; simp
          rw [List.getElem?_range (by
            have : (List.range k.toNat).length = pre.length + (post.length + 1) := by rw [hp]; simp
            rw [List.length_range] at this
            omega)] at h1
          have h2 : pre.length = x := Option.some.inj h1
          have : (List.range k.toNat).length = pre.length + (post.length + 1) := by rw [hp]; simp
          rw [List.length_range] at this
          exact ⟨h2, by omega⟩
        refine ⟨by simp [Src.nxt, hx.1, hx.2], ?_⟩
        have b3 := z3.bag hb
        obtain ⟨z, M', w1, w2a, w3⟩ := row_ev s (n := n) (x2 := some (.int most)) (x3 := some (.int (0 + (x : Nat)))) m1 m2 (μ := μ3 ++ (ν ++ [.lst (row.map .int)])) b3.app
        obtain ⟨μ4, rfl, w2⟩ := w2a.app b3.lt
        have hm : (μ2 ++ ν).length = (μ4 ++ ν).length := by simp [hl2, w2.len, z3.len]
        have hat : lstAt (μ4 ++ (ν ++ [.lst (row.map .int)])) (μ2 ++ ν).length = some (row.map .int) := by
          rw [hm, ← List.append_assoc]
          exact lst_at_new
        refine ⟨_, true, _, rfl, rfl, fun h => Bool.noConfusion h, fun _ => ⟨.int z, _, w1, hat, row ++ [z], μ4, by simp, ?_, z3.trans w2, fun y hy => ?_, by simp [z5]⟩⟩
        · rw [hm, ← List.append_assoc, set_new0, List.set_cons_zero, ← List.append_assoc]
        · rcases List.mem_append.mp hy with hy | hy
          · exact z4 y hy
          · rw [List.mem_singleton.mp hy]; exact w3)
      (fun acc M _ => by simp [Src.nxt]) (List.range k.toNat) [] [] (μ2 ++ ν ++ [.lst []]) rfl ⟨[], μ2, rfl, by simp, d1.trans d2, by simp, rfl⟩
    refine ⟨row, μ3, ?_, q4, q5, by rw [q6, List.length_range]; omega⟩
    rw [List.length_range] at q1
    rw [q3, q2] at q1
    exact q1
  obtain ⟨row, μ3, e3, d3, r1, r2⟩ := hlc
  refine ⟨row, μ3, ν, ?_, d3, r1, by omega⟩
  have ht : tupleD [.loc (μ2 ++ ν).length] (μ3 ++ (ν ++ [.lst (row.map .int)])) = some (.tup (row.map .int), μ3 ++ (ν ++ [.lst (row.map .int)])) := by
    have : lstAt (μ3 ++ (ν ++ [.lst (row.map .int)])) (μ2 ++ ν).length = some (row.map .int) := by
      rw [show (μ2 ++ ν).length = (μ3 ++ ν).length by simp [hl2, d3.len], ← List.append_assoc]
      exact lst_at_new
    simp only [tupleD, seqD, this]
  have hl5 : lstP [.int 1, .int 2, .int 2, .int 3, .int 6] μ = some (.loc μ.length, μ ++ ν) := rfl
  unfold m__law_row
  replace e1 : run c "_law_some" [.loc n, .loc μ.length] (μ ++ ν) = .ok (.int many) (μ1 ++ ν) := e1
  have g : gc false (μ1 ++ ν) (.ok (.tup (row.map .int)) (μ3 ++ (ν ++ [.lst (row.map .int)]))) = .ok (.tup (row.map .int)) (μ3 ++ ν) := by
    have dd : Drawn (μ1 ++ ν) n (μ3 ++ ν) := by
      obtain ⟨a, b, rfl, q⟩ := d3
      obtain ⟨a1, b1', rfl, q1⟩ := d1
      refine ⟨a, b, ?_, q⟩
      rw [List.set_append_left _ _ (by simpa using hn), set_set]
    rw [← List.append_assoc]
    exact gc_drawn dd low_tints
  simp only [binD, cmpD] at e3
  simp only [List.length_cons, List.length_nil, if_true, List.map_cons, List.map_nil, List.replicate_zero, List.replicate_succ, List.append_nil, List.cons_append, List.nil_append, seq_eq, sRet, sNx, sIf, sExpr, sSet, sRaise, eAn, eOr, eNo, eUn, eBin, eApp, esCons, esNil, eIf, eChain, eVar, eK, tNo, tTru, tBl, tAn, tOr', gE, gc_id, gc_ex, List.getElem?_cons_zero, List.getElem?_cons_succ, bind_ok, bind_ex, st_ok, st_ex, r_some, cmpD, binD, runS, eDef_eq, Tg.sets, set_tp, setE_z, setE_s, Option.map_some, List.set_cons_zero, List.set_cons_succ, Bool.false_eq_true, if_false, tru_bl, Bool.not_true, Bool.not_false, hl5, e1, e3, ht, g]
end Ev

set_option Elab.async false
set_option linter.all false
set_option maxRecDepth 100000
set_option maxHeartbeats 4000000
set_option exponentiation.threshold 3000
namespace Ev
open PySem PySem.Spec PyProof.Rows L2
def S_bag (c : Tab) : Prop := ∀ (ns : List Int) (k : Nat) (μ : Mem), k < 1000 → ns.length ≤ 1000 → ∃ p q : Int, run c "_law_bag" [.fl (ns.map .int), .int k] μ = .ok (.loc μ.length) (μ ++ [.lst [.int p, .int q]]) ∧ 0 ≤ p ∧ 0 ≤ q ∧ q < 2147483648
theorem S_bag.use {c : Tab} (s : S_bag c) {ns : List Int} {k : Nat} {μ : Mem} (h1 : k < 1000) (h2 : ns.length ≤ 1000) : ∃ μ', run c "_law_bag" [.fl (ns.map .int), .int k] μ = .ok (.loc μ.length) μ' ∧ Bag μ' μ.length := by
  obtain ⟨p, q, e, h⟩ := s ns k μ h1 h2
  exact ⟨_, e, p, q, lst_at_new, h⟩
theorem pow18 {μ : Mem} : powD (.int 10) (.int 18) μ = some (.int 1000000000000000000, μ) := rfl
theorem pow60 {μ : Mem} : powD (.int 10) (.int 60) μ = some (.int (10 ^ 60), μ) := rfl
theorem pow50 {μ : Mem} : powD (.int 10) (.int 50) μ = some (.int (10 ^ 50), μ) := rfl
theorem abs_nn (i : Int) : 0 ≤ (if i < 0 then -i else i) := by split <;> omega
theorem big_mod {i : Int} {μ : Mem} : modD (.int i) (.int (10 ^ 60 * 10 ^ 60 * 10 ^ 60 * 10 ^ 50)) μ = some (.int (i % (10 ^ 60 * 10 ^ 60 * 10 ^ 60 * 10 ^ 50)), μ) := modD_int (by decide)
theorem big_m1 {μ : Mem} : mulD (.int (10 ^ 60)) (.int (10 ^ 60)) μ = some (.int (10 ^ 60 * 10 ^ 60), μ) := mulD_int (by decide) (by decide)
theorem big_m2 {μ : Mem} : mulD (.int (10 ^ 60 * 10 ^ 60)) (.int (10 ^ 60)) μ = some (.int (10 ^ 60 * 10 ^ 60 * 10 ^ 60), μ) := mulD_int (by decide) (by decide)
theorem big_m3 {μ : Mem} : mulD (.int (10 ^ 60 * 10 ^ 60 * 10 ^ 60)) (.int (10 ^ 50)) μ = some (.int (10 ^ 60 * 10 ^ 60 * 10 ^ 60 * 10 ^ 50), μ) := mulD_int (by decide) (by decide)
theorem bag_turn {c : Tab} {a b : Option D} {x z : Int} {μ : Mem} (hc : 0 ≤ x) : ∃ x', _law_bag_b1 c [a, b, some (.int x), some (.int z)] μ = .nx [a, b, some (.int x'), some (.int z)] μ ∧ 0 ≤ x' := by
  have hm := abs_nn z
  have h1 : 0 ≤ (if z < 0 then -z else z) % 1000003 := Int.emod_nonneg _ (by omega)
  have h2 : (if z < 0 then -z else z) % 1000003 < 1000003 := Int.emod_lt_of_pos _ (by omega)
  by_cases h : x < 1000000000000000000
  · refine ⟨x + (if z < 0 then -z else z) % 1000003 * 1, ?_, by omega⟩
    unfold _law_bag_b1
    simp only [List.length_cons, List.length_nil, if_true, List.map_cons, List.map_nil, List.replicate_zero, List.replicate_succ, List.append_nil, List.cons_append, List.nil_append, seq_eq, sRet, sNx, sIf, sExpr, sSet, sRaise, eAn, eOr, eNo, eUn, eBin, eApp, esCons, esNil, eIf, eChain, eVar, eK, tNo, tTru, tBl, tAn, tOr', gE, gc_id, gc_ex, List.getElem?_cons_zero, List.getElem?_cons_succ, bind_ok, bind_ex, st_ok, st_ex, r_some, cmpD, binD, runS, eDef_eq, Tg.sets, set_tp, setE_z, setE_s, Option.map_some, List.set_cons_zero, List.set_cons_succ, Bool.false_eq_true, if_false, tru_bl, Bool.not_true, Bool.not_false, intD_int, absD_int, modD_int (show (0 : Int) < 1000003 by omega), pow18, icmp, h, decide_true, intD_bl, mulD_int (small_nat h1 (by omega)) (show (1 : Int).natAbs < 2 ^ 2000 by decide), addD_int]
  · refine ⟨x + (if z < 0 then -z else z) % 1000003 * 0, ?_, by omega⟩
    unfold _law_bag_b1
    simp only [List.length_cons, List.length_nil, if_true, List.map_cons, List.map_nil, List.replicate_zero, List.replicate_succ, List.append_nil, List.cons_append, List.nil_append, seq_eq, sRet, sNx, sIf, sExpr, sSet, sRaise, eAn, eOr, eNo, eUn, eBin, eApp, esCons, esNil, eIf, eChain, eVar, eK, tNo, tTru, tBl, tAn, tOr', gE, gc_id, gc_ex, List.getElem?_cons_zero, List.getElem?_cons_succ, bind_ok, bind_ex, st_ok, st_ex, r_some, cmpD, binD, runS, eDef_eq, Tg.sets, set_tp, setE_z, setE_s, Option.map_some, List.set_cons_zero, List.set_cons_succ, Bool.false_eq_true, if_false, tru_bl, Bool.not_true, Bool.not_false, intD_int, absD_int, modD_int (show (0 : Int) < 1000003 by omega), pow18, icmp, h, decide_false, intD_bl, mulD_int (small_nat h1 (by omega)) (show (0 : Int).natAbs < 2 ^ 2000 by decide), addD_int]
theorem bag_loop {c : Tab} {ns : List Int} {k : Nat} {x : Int} {μ : Mem} (hx : 0 ≤ x) : ∃ x' y, sFor (iSeq (eSl (eVar 0) oNo (oSo (eK (.int 1))))) (.nm 3) (_law_bag_b1 c) [some (.fl (ns.map .int)), some (.int k), some (.int x), none] μ = .nx [some (.fl (ns.map .int)), some (.int k), some (.int x'), y] (μ ++ [.lst ((ns.take 1).map .int)]) ∧ 0 ≤ x' := by
  have hsl : slD (.fl (ns.map .int)) none (some 1) μ = some (.loc μ.length, μ ++ [.lst ((ns.take 1).map .int)]) := by
    show some (D.loc μ.length, μ ++ [MO.lst (cutD (ns.map .int) none (some 1))]) = _
    have : cutD (ns.map D.int) none (some 1) = (ns.take 1).map .int := by
      cases ns with
      | nil => rfl
      | cons z zs =>
        unfold cutD
        simp [HT.sIx]
    rw [this]
  have hi : iSeq (eSl (eVar 0) oNo (oSo (eK (.int 1)))) [some (.fl (ns.map .int)), some (.int k), some (.int x), none] μ = .ok (.lst μ.length) (μ ++ [.lst ((ns.take 1).map .int)]) := by
    refine iSeq_loc (xs := (ns.take 1).map .int) ?_ lst_at_new
    unfold eSl oNo oSo
    simp only [List.length_cons, List.length_nil, if_true, List.map_cons, List.map_nil, List.replicate_zero, List.replicate_succ, List.append_nil, List.cons_append, List.nil_append, seq_eq, sRet, sNx, sIf, sExpr, sSet, sRaise, eAn, eOr, eNo, eUn, eBin, eApp, esCons, esNil, eIf, eChain, eVar, eK, tNo, tTru, tBl, tAn, tOr', gE, gc_id, gc_ex, List.getElem?_cons_zero, List.getElem?_cons_succ, bind_ok, bind_ex, st_ok, st_ex, r_some, cmpD, binD, runS, eDef_eq, Tg.sets, set_tp, setE_z, setE_s, Option.map_some, List.set_cons_zero, List.set_cons_succ, Bool.false_eq_true, if_false, tru_bl, Bool.not_true, Bool.not_false, hsl]
  obtain ⟨ρ', μ', h1, x', y, h2, h3, h4⟩ := for_lst (it := iSeq (eSl (eVar 0) oNo (oSo (eK (.int 1))))) (tg := .nm 3) (b := _law_bag_b1 c) (n := μ.length) D.int (ns.take 1) (fun pre ρ μ' => ∃ x' y, ρ = [some (.fl (ns.map .int)), some (.int k), some (.int x'), y] ∧ μ' = μ ++ [.lst ((ns.take 1).map .int)] ∧ 0 ≤ x') hi ⟨x, none, rfl, rfl, hx⟩ (fun _ _ _ ⟨_, _, _, h, _⟩ => by rw [h]; exact lst_at_new)
    (fun pre z post ρ μ' hp ⟨x', y, h1, h2, h3⟩ => by
      subst h1 h2
      obtain ⟨x2, e2, p2⟩ := bag_turn (c := c) (a := some (.fl (ns.map .int))) (b := some (.int k)) (x := x') (z := z) (μ := μ ++ [.lst ((ns.take 1).map .int)]) h3
      exact ⟨_, _, _, rfl, e2, x2, _, rfl, rfl, p2⟩)
  subst h2 h3
  exact ⟨x', y, h1, h4⟩
theorem ok_bag {c c' : Tab} (h : c' "_law_bag" = some (mkFn 2 2 1 m__law_bag c)) : S_bag c' := by
  intro ns k μ hk hn
  suffices hs : ∃ p q : Int, runS (m__law_bag c [some (.fl (ns.map .int)), some (.int k), none, none] μ) = .ok (.loc (μ.length + 1)) (μ ++ [.lst ((ns.take 1).map .int), .lst [.int p, .int q]]) ∧ 0 ≤ p ∧ 0 ≤ q ∧ q < 2147483648 by
    obtain ⟨p, q, e, hh⟩ := hs
    refine ⟨p, q, ?_, hh⟩
    rw [run_mk h rfl, gcM1, show ([D.fl (ns.map .int), .int k].map some ++ List.replicate 2 none) = [some (.fl (ns.map .int)), some (.int k), none, none] from rfl, e]
    exact gc_loc (by omega) (by rw [List.getElem?_append_right (by omega), Nat.add_sub_cancel_left]; rfl) rfl
  have hm : mulD (.int 99991) (.int k) μ = some (.int (99991 * k), μ) := mulD_s (by omega) (by omega) (by omega) (by omega)
  have hlen : lenD [.fl (ns.map .int)] μ = some (.int ns.length, μ) := by rw [len_fl, List.length_map]
  -- the cell
  have hcell : ∃ x : Int, 0 ≤ x ∧ (sIf (tBl (gE (eBin (cmpD .Lt) (eVar 1) (gE (eApp lenD (esCons (eVar 0) esNil)))))) (sSeq (sSet (.nm 2) (eBin (binD .Mod) (gE (eApp absD (esCons (gE (eApp intD (esCons (gE (eBin ixD (eVar 0) (eVar 1))) esNil))) esNil))) (eBin (binD .Mult) (eBin (binD .Mult) (eBin (binD .Mult) (eBin (binD .Pow) (eK (.int 10)) (eK (.int 60))) (eBin (binD .Pow) (eK (.int 10)) (eK (.int 60)))) (eBin (binD .Pow) (eK (.int 10)) (eK (.int 60)))) (eBin (binD .Pow) (eK (.int 10)) (eK (.int 50)))))) sNx) sNx) [some (.fl (ns.map .int)), some (.int k), some (.int (99991 * k + 4242)), none] μ = .nx [some (.fl (ns.map .int)), some (.int k), some (.int x), none] μ := by
    by_cases hkn : k < ns.length
    · have hx : ixD (.fl (ns.map .int)) (.int k) μ = some (.int ns[k], μ) := ixD_seq (xs := ns.map .int) rfl (atI_get (by simp [hkn]))
      have hd : (k : Int) < ns.length := by omega
      refine ⟨(if ns[k] < 0 then -ns[k] else ns[k]) % (10 ^ 60 * 10 ^ 60 * 10 ^ 60 * 10 ^ 50), Int.emod_nonneg _ (by decide), ?_⟩
      simp only [List.length_cons, List.length_nil, if_true, List.map_cons, List.map_nil, List.replicate_zero, List.replicate_succ, List.append_nil, List.cons_append, List.nil_append, seq_eq, sRet, sNx, sIf, sExpr, sSet, sRaise, eAn, eOr, eNo, eUn, eBin, eApp, esCons, esNil, eIf, eChain, eVar, eK, tNo, tTru, tBl, tAn, tOr', gE, gc_id, gc_ex, List.getElem?_cons_zero, List.getElem?_cons_succ, bind_ok, bind_ex, st_ok, st_ex, r_some, cmpD, binD, runS, eDef_eq, Tg.sets, set_tp, setE_z, setE_s, Option.map_some, List.set_cons_zero, List.set_cons_succ, Bool.false_eq_true, if_false, tru_bl, Bool.not_true, Bool.not_false, hlen, icmp, hd, decide_true, hx, intD_int, absD_int, pow60, pow50, big_m1, big_m2, big_m3, big_mod]
    · have hd : ¬ (k : Int) < ns.length := by omega
      refine ⟨99991 * k + 4242, by omega, ?_⟩
      simp only [List.length_cons, List.length_nil, if_true, List.map_cons, List.map_nil, List.replicate_zero, List.replicate_succ, List.append_nil, List.cons_append, List.nil_append, seq_eq, sRet, sNx, sIf, sExpr, sSet, sRaise, eAn, eOr, eNo, eUn, eBin, eApp, esCons, esNil, eIf, eChain, eVar, eK, tNo, tTru, tBl, tAn, tOr', gE, gc_id, gc_ex, List.getElem?_cons_zero, List.getElem?_cons_succ, bind_ok, bind_ex, st_ok, st_ex, r_some, cmpD, binD, runS, eDef_eq, Tg.sets, set_tp, setE_z, setE_s, Option.map_some, List.set_cons_zero, List.set_cons_succ, Bool.false_eq_true, if_false, tru_bl, Bool.not_true, Bool.not_false, hlen, icmp, hd, decide_false]
  obtain ⟨x, hx, e1⟩ := hcell
  obtain ⟨x', y, e2, hx'⟩ := bag_loop (c := c) (ns := ns) (k := k) (μ := μ) hx
  have h1 : 0 ≤ x' % 2147483543 := Int.emod_nonneg _ (by omega)
  have h2 : x' % 2147483543 < 2147483543 := Int.emod_lt_of_pos _ (by omega)
  have h3 : 0 ≤ (x' % 2147483543 * 5 + 11 * k + 3) % 2147483543 := Int.emod_nonneg _ (by omega)
  have h4 : (x' % 2147483543 * 5 + 11 * k + 3) % 2147483543 < 2147483543 := Int.emod_lt_of_pos _ (by omega)
  refine ⟨if 1000000000000000000 ≤ x' then x' else 0, (x' % 2147483543 * 5 + 11 * k + 3) % 2147483543 + 1, ?_, by split <;> omega, by omega, by omega⟩
  unfold m__law_bag
  have s0 : sSet (.nm 2) (eBin (binD .Add) (eBin (binD .Mult) (eK (.int 99991)) (eVar 1)) (eK (.int 4242))) [some (.fl (ns.map .int)), some (.int k), none, none] μ = .nx [some (.fl (ns.map .int)), some (.int k), some (.int (99991 * k + 4242)), none] μ := by
    simp only [List.length_cons, List.length_nil, if_true, List.map_cons, List.map_nil, List.replicate_zero, List.replicate_succ, List.append_nil, List.cons_append, List.nil_append, seq_eq, sRet, sNx, sIf, sExpr, sSet, sRaise, eAn, eOr, eNo, eUn, eBin, eApp, esCons, esNil, eIf, eChain, eVar, eK, tNo, tTru, tBl, tAn, tOr', gE, gc_id, gc_ex, List.getElem?_cons_zero, List.getElem?_cons_succ, bind_ok, bind_ex, st_ok, st_ex, r_some, cmpD, binD, runS, eDef_eq, Tg.sets, set_tp, setE_z, setE_s, Option.map_some, List.set_cons_zero, List.set_cons_succ, Bool.false_eq_true, if_false, tru_bl, Bool.not_true, Bool.not_false, hm, addD_int]
  rw [seq_eq, s0]
  simp only []
  rw [seq_eq, e1]
  simp only []
  rw [seq_eq, e2]
  have lst2 : ∀ {a b : D} {μ : Mem}, lstP [a, b] μ = some (.loc μ.length, μ ++ [.lst [a, b]]) := rfl
  by_cases h : (1000000000000000000 : Int) ≤ x'
  · simp [List.length_cons, List.length_nil, if_true, List.map_cons, List.map_nil, List.replicate_zero, List.replicate_succ, List.append_nil, List.cons_append, List.nil_append, seq_eq, sRet, sNx, sIf, sExpr, sSet, sRaise, eAn, eOr, eNo, eUn, eBin, eApp, esCons, esNil, eIf, eChain, eVar, eK, tNo, tTru, tBl, tAn, tOr', gE, gc_id, gc_ex, List.getElem?_cons_zero, List.getElem?_cons_succ, bind_ok, bind_ex, st_ok, st_ex, r_some, cmpD, binD, runS, eDef_eq, Tg.sets, set_tp, setE_z, setE_s, Option.map_some, List.set_cons_zero, List.set_cons_succ, Bool.false_eq_true, if_false, tru_bl, Bool.not_true, Bool.not_false, pow18, icmp, h, modD_int (show (0 : Int) < 2147483543 by omega), mulD_s (show -4294967296 < x' % 2147483543 by omega) (show x' % 2147483543 < 4294967296 by omega) (show (-4294967296 : Int) < 5 by omega) (show (5 : Int) < 4294967296 by omega), mulD_s (show (-4294967296 : Int) < 11 by omega) (show (11 : Int) < 4294967296 by omega) (show (-4294967296 : Int) < k by omega) (show (k : Int) < 4294967296 by omega), addD_int, intD_int, lst2]
  · simp [List.length_cons, List.length_nil, if_true, List.map_cons, List.map_nil, List.replicate_zero, List.replicate_succ, List.append_nil, List.cons_append, List.nil_append, seq_eq, sRet, sNx, sIf, sExpr, sSet, sRaise, eAn, eOr, eNo, eUn, eBin, eApp, esCons, esNil, eIf, eChain, eVar, eK, tNo, tTru, tBl, tAn, tOr', gE, gc_id, gc_ex, List.getElem?_cons_zero, List.getElem?_cons_succ, bind_ok, bind_ex, st_ok, st_ex, r_some, cmpD, binD, runS, eDef_eq, Tg.sets, set_tp, setE_z, setE_s, Option.map_some, List.set_cons_zero, List.set_cons_succ, Bool.false_eq_true, if_false, tru_bl, Bool.not_true, Bool.not_false, pow18, icmp, h, modD_int (show (0 : Int) < 2147483543 by omega), mulD_s (show -4294967296 < x' % 2147483543 by omega) (show x' % 2147483543 < 4294967296 by omega) (show (-4294967296 : Int) < 5 by omega) (show (5 : Int) < 4294967296 by omega), mulD_s (show (-4294967296 : Int) < 11 by omega) (show (11 : Int) < 4294967296 by omega) (show (-4294967296 : Int) < k by omega) (show (k : Int) < 4294967296 by omega), addD_int, intD_int, lst2]
end Ev

set_option Elab.async false
set_option linter.all false
set_option maxRecDepth 100000
set_option maxHeartbeats 4000000
namespace Ev
open PySem PySem.Spec PyProof.Rows L2
/-! ### == of values of a form -/
structure PyOf (μ : Mem) (n : Nat) (d : D) (p : PyData) : Prop where
  py : ∀ k, n < k → toPyN μ k d = some p
  lay : p.canLay0 = true
  dep : p.depth ≤ n
section
variable {μ : Mem} {n m : Nat} {d e : D} {p q : PyData}
theorem PyOf.mono (h : PyOf μ n d p) (hn : n ≤ m) : PyOf μ m d p := ⟨fun k hk => h.py k (by omega), h.lay, by have := h.dep; omega⟩
theorem succ_of {n k : Nat} (h : n < k) : ∃ j, k = j + 1 ∧ n ≤ j := ⟨k - 1, by omega, by omega⟩
theorem PyOf.non : PyOf μ 0 .non .none := ⟨fun k hk => by obtain ⟨j, rfl, _⟩ := succ_of hk; exact pyN_non, rfl, Nat.le_refl _⟩
theorem PyOf.int {i : Int} : PyOf μ 0 (.int i) (.int i) := ⟨fun k hk => by obtain ⟨j, rfl, _⟩ := succ_of hk; exact pyN_int, rfl, Nat.le_refl _⟩
theorem PyOf.bl {b : Bool} : PyOf μ 0 (.bl b) (.bool b) := ⟨fun k hk => by obtain ⟨j, rfl, _⟩ := succ_of hk; exact pyN_bl, rfl, Nat.le_refl _⟩
theorem PyOf.str {x : Str} (h : PyData.strOk x = true) : PyOf μ 0 (.str x) (.str x) := ⟨fun k hk => by obtain ⟨j, rfl, _⟩ := succ_of hk; exact pyN_str, h, Nat.le_refl _⟩
inductive PyAll (μ : Mem) (n : Nat) : List D → List PyData → Prop
  | nil : PyAll μ n [] []
  | cons {d : D} {p : PyData} {ds : List D} {ps : List PyData} : PyOf μ n d p → PyAll μ n ds ps → PyAll μ n (d :: ds) (p :: ps)
theorem PyAll.mapO {k : Nat} (hk : n < k) : ∀ {ds : List D} {ps : List PyData}, PyAll μ n ds ps → mapO (toPyN μ k) ds = some ps
  | _, _, .nil => rfl
  | _, _, .cons h t => mapO_cons (h.py k hk) (t.mapO hk)
theorem PyAll.lay : ∀ {ds : List D} {ps : List PyData}, PyAll μ n ds ps → PyData.canLayAll0 ps = true
  | _, _, .nil => rfl
  | _, _, .cons h t => by simp only [PyData.canLayAll0, h.lay, t.lay, Bool.and_self]
theorem PyAll.dep : ∀ {ds : List D} {ps : List PyData}, PyAll μ n ds ps → PyData.depthAll ps ≤ n
  | _, _, .nil => Nat.zero_le _
  | _, _, .cons h t => by
    simp only [PyData.depthAll]
    have := h.dep
    have := t.dep
    omega
theorem PyAll.map {α : Type} {f : α → D} {g : α → PyData} {xs : List α} (h : ∀ x ∈ xs, PyOf μ n (f x) (g x)) : PyAll μ n (xs.map f) (xs.map g) := by
  induction xs with
  | nil => exact .nil
  | cons x xs ih => exact .cons (h x (by simp)) (ih fun y hy => h y (by simp [hy]))
theorem PyOf.tup {ds : List D} {ps : List PyData} (h : PyAll μ n ds ps) : PyOf μ (n + 1) (.tup ds) (.tuple ps) :=
  ⟨fun k hk => by obtain ⟨j, rfl, hj⟩ := succ_of hk; rw [pyN_tup, h.mapO hj]; rfl, by simp only [PyData.canLay0, h.lay], by simp only [PyData.depth]; have := h.dep; omega⟩
theorem PyOf.fl {ds : List D} {ps : List PyData} (h : PyAll μ n ds ps) : PyOf μ (n + 1) (.fl ds) (.list ps) :=
  ⟨fun k hk => by obtain ⟨j, rfl, hj⟩ := succ_of hk; rw [pyN_fl, h.mapO hj]; rfl, by simp only [PyData.canLay0, h.lay], by simp only [PyData.depth]; have := h.dep; omega⟩
theorem PyOf.loc {i : Nat} {ds : List D} {ps : List PyData} (hl : lstAt μ i = some ds) (h : PyAll μ n ds ps) : PyOf μ (n + 1) (.loc i) (.list ps) :=
  ⟨fun k hk => by obtain ⟨j, rfl, hj⟩ := succ_of hk; rw [pyN_loc hl, h.mapO hj]; rfl, by simp only [PyData.canLay0, h.lay], by simp only [PyData.depth]; have := h.dep; omega⟩
theorem eqM_of (h : PyOf μ n d p) (h' : PyOf μ m e q) (hn : n ≤ 11) (hm : m ≤ 11) : eqM μ d e = some (PyData.eqv p q) := by
  have s1 : SeqAt.shaped p = true := by
    unfold SeqAt.shaped
    have := h.dep
    rw [h.lay, decide_eq_true (show p.depth ≤ 64 by omega)]; rfl
  have s2 : SeqAt.shaped q = true := by
    unfold SeqAt.shaped
    have := h'.dep
    rw [h'.lay, decide_eq_true (show q.depth ≤ 64 by omega)]; rfl
  unfold eqM toPyM
  rw [h.py 12 (by omega), h'.py 12 (by omega)]
  simp only [s1, s2, Bool.and_self, if_true]
theorem eqD_of (h : PyOf μ n d p) (h' : PyOf μ m e q) (hn : n ≤ 11) (hm : m ≤ 11) : eqD d e μ = some (.bl (PyData.eqv p q), μ) := by
  unfold eqD; rw [eqM_of h h' hn hm]; rfl
theorem neD_of (h : PyOf μ n d p) (h' : PyOf μ m e q) (hn : n ≤ 11) (hm : m ≤ 11) : neD d e μ = some (.bl (!PyData.eqv p q), μ) := by
  unfold neD; rw [eqM_of h h' hn hm]; rfl
end
/-- values of a type, told as D and as data -/
structure Enc {α : Type} [DecidableEq α] (e : α → D) (p : α → PyData) (n : Nat) : Prop where
  py : ∀ μ a, PyOf μ n (e a) (p a)
  eqv : ∀ a b, PyData.eqv (p a) (p b) = decide (a = b)
section
variable {α β γ : Type} [DecidableEq α] [DecidableEq β] [DecidableEq γ] {e : α → D} {p : α → PyData} {e' : β → D} {p' : β → PyData} {e'' : γ → D} {p'' : γ → PyData} {n m l : Nat}
theorem Enc.int : Enc D.int PyData.int 0 := ⟨fun μ a => .int, fun a b => by
  show (a == b) = decide (a = b)
  rfl⟩
theorem Enc.mono (h : Enc e p n) (hn : n ≤ m) : Enc e p m := ⟨fun μ a => (h.py μ a).mono hn, h.eqv⟩
theorem eqvAll_map (h : Enc e p n) : ∀ (as bs : List α), PyData.eqvAll (as.map p) (bs.map p) = decide (as = bs)
  | [], [] => by simp [PyData.eqvAll]
  | [], _ :: _ => by simp [PyData.eqvAll]
  | _ :: _, [] => by simp [PyData.eqvAll]
  | a :: as, b :: bs => by
    rw [List.map_cons, List.map_cons, PyData.eqvAll, h.eqv, eqvAll_map h as bs, ← Bool.decide_and]
    simp
theorem Enc.tupL (h : Enc e p n) : Enc (fun as : List α => D.tup (as.map e)) (fun as => .tuple (as.map p)) (n + 1) :=
  ⟨fun μ as => .tup (.map fun x _ => h.py μ x), fun as bs => by rw [PyData.eqv]; exact eqvAll_map h as bs⟩
theorem Enc.flL (h : Enc e p n) : Enc (fun as : List α => D.fl (as.map e)) (fun as => .list (as.map p)) (n + 1) :=
  ⟨fun μ as => .fl (.map fun x _ => h.py μ x), fun as bs => by rw [PyData.eqv]; exact eqvAll_map h as bs⟩
theorem Enc.pair (h : Enc e p n) (h' : Enc e' p' n) : Enc (fun x : α × β => D.tup [e x.1, e' x.2]) (fun x => .tuple [p x.1, p' x.2]) (n + 1) :=
  ⟨fun μ x => .tup (.cons (h.py μ _) (.cons (h'.py μ _) .nil)), fun ⟨a, b⟩ ⟨c, d⟩ => by
    rw [PyData.eqv, PyData.eqvAll, PyData.eqvAll, PyData.eqvAll, h.eqv, h'.eqv, Bool.and_true, ← Bool.decide_and]
    simp⟩
theorem Enc.trip (h : Enc e p n) (h' : Enc e' p' n) (h'' : Enc e'' p'' n) : Enc (fun x : α × β × γ => D.tup [e x.1, e' x.2.1, e'' x.2.2]) (fun x => .tuple [p x.1, p' x.2.1, p'' x.2.2]) (n + 1) :=
  ⟨fun μ x => .tup (.cons (h.py μ _) (.cons (h'.py μ _) (.cons (h''.py μ _) .nil))), fun ⟨a, b, c⟩ ⟨d, f, g⟩ => by
    rw [PyData.eqv, PyData.eqvAll, PyData.eqvAll, PyData.eqvAll, PyData.eqvAll, h.eqv, h'.eqv, h''.eqv, Bool.and_true, ← Bool.decide_and, ← Bool.decide_and]
    simp⟩
theorem Enc.eqD (h : Enc e p n) (hn : n ≤ 11 := by omega) {a b : α} {μ : Mem} : eqD (e a) (e b) μ = some (.bl (decide (a = b)), μ) := by
  rw [eqD_of (h.py μ a) (h.py μ b) hn hn, h.eqv]
theorem Enc.neD (h : Enc e p n) (hn : n ≤ 11 := by omega) {a b : α} {μ : Mem} : neD (e a) (e b) μ = some (.bl (!decide (a = b)), μ) := by
  rw [neD_of (h.py μ a) (h.py μ b) hn hn, h.eqv]
/-- lists, by value or of the store -/
def IsL (μ : Mem) (d : D) (xs : List D) : Prop := d = .fl xs ∨ ∃ i, d = .loc i ∧ lstAt μ i = some xs
theorem IsL.py (h : Enc e p n) {μ : Mem} {d : D} {as : List α} (x : IsL μ d (as.map e)) : PyOf μ (n + 1) d (.list (as.map p)) := by
  rcases x with rfl | ⟨i, rfl, hi⟩
  · exact .fl (.map fun x _ => h.py μ x)
  · exact .loc hi (.map fun x _ => h.py μ x)
theorem IsL.eqD (h : Enc e p n) (hn : n ≤ 10) {μ : Mem} {d d' : D} {as bs : List α} (x : IsL μ d (as.map e)) (y : IsL μ d' (bs.map e)) : Ev.eqD d d' μ = some (.bl (decide (as = bs)), μ) := by
  rw [eqD_of (x.py h) (y.py h) (by omega) (by omega), PyData.eqv, eqvAll_map h]
theorem IsL.neD (h : Enc e p n) (hn : n ≤ 10) {μ : Mem} {d d' : D} {as bs : List α} (x : IsL μ d (as.map e)) (y : IsL μ d' (bs.map e)) : Ev.neD d d' μ = some (.bl (!decide (as = bs)), μ) := by
  rw [neD_of (x.py h) (y.py h) (by omega) (by omega), PyData.eqv, eqvAll_map h]
end
/-! stands, links -/
abbrev Stand := Int × List Int × Int
def stD (s : Stand) : D := .tup [.int s.1, .tup (s.2.1.map .int), .int s.2.2]
def stP (s : Stand) : PyData := .tuple [.int s.1, .tuple (s.2.1.map .int), .int s.2.2]
theorem enc_st : Enc stD stP 2 := (Enc.int.mono (by omega : 0 ≤ 1)).trip Enc.int.tupL (Enc.int.mono (by omega))
def p2D (s : Int × Int) : D := .tup [.int s.1, .int s.2]
def p2P (s : Int × Int) : PyData := .tuple [.int s.1, .int s.2]
theorem enc_p2 : Enc p2D p2P 1 := Enc.int.pair Enc.int
def p3D (s : Int × Int × Int) : D := .tup [.int s.1, .int s.2.1, .int s.2.2]
def p3P (s : Int × Int × Int) : PyData := .tuple [.int s.1, .int s.2.1, .int s.2.2]
theorem enc_p3 : Enc p3D p3P 1 := Enc.int.trip Enc.int Enc.int
end Ev

set_option Elab.async false
set_option linter.all false
set_option maxRecDepth 100000
set_option maxHeartbeats 4000000
namespace Ev
open PySem PySem.Spec PyProof.Rows L2
-- starts: 0 rule, 1 ages
noncomputable def m_starts (call : Tab) : S := (sSeq (sIf (tBl (gE (eBin (cmpD .GtE) (gE (eApp lenD (esCons (eVar 1) esNil))) (gE (eBin ixD (eVar 0) (eK (.int 0))))))) (sSeq (sRet (eK (.bl true))) sNx) sNx) (sSeq (sRet (eAn (gE (eBin (cmpD .NotEq) (eVar 1) (eApp tupP esNil))) (eAn (gE (eBin (cmpD .NotEq) (gE (eBin ixD (eVar 0) (eK (.int 1)))) (eK (.int 5)))) (gE (eBin (cmpD .GtE) (gE (eBin ixD (eVar 1) (eK (.int 0)))) (gE (eBin ixD (eVar 0) (eK (.int 1))))))))) sNx))
-- step: 0 machine, 1 rule, 2 stand, 3 coming, 4 taken, 5 older, 6 busy, 7 ages, 8 phase, 9 room, 10 length, 11 age
noncomputable def m_step (call : Tab) : S := (sSeq (sSet (.tp [(.nm 6), (.nm 7), (.nm 8)]) (eVar 2)) (sSeq (sSet (.tp [(.nm 9), (.nm 10)]) (eSl (eVar 0) oNo (oSo (eK (.int 2))))) (sSeq (sIf (tBl (gE (eBin (cmpD .Eq) (eVar 3) (eK (.int 1))))) (sSeq (sSet (.nm 7) (eBin (binD .Add) (eVar 7) (eApp tupP (esCons (eK (.int 0)) esNil)))) sNx) sNx) (sSeq (sSet (.nm 4) (eK (.int 0))) (sSeq (sIf (tAn (tBl (gE (eBin (cmpD .Eq) (eVar 6) (eK (.int 0))))) (tAn (tBl (gE (eBin (cmpD .Eq) (eVar 8) (eK (.int 0))))) (tTru (eDef call "starts" (esCons (eVar 1) (esCons (eVar 7) esNil)))))) (sSeq (sSet (.nm 4) (gE (eApp minD (esCons (eVar 9) (esCons (gE (eApp lenD (esCons (eVar 7) esNil))) esNil))))) (sSeq (sSet (.tp [(.nm 7), (.nm 6)]) (eApp tupP (esCons (eSl (eVar 7) (oSo (eVar 4)) oNo) (esCons (eVar 10) esNil)))) sNx)) sNx) (sSeq (sSet (.nm 5) (gE (eApp tupleD (esCons (eLc (iSeq (eVar 7)) (.nm 11) tYesT (eBin (binD .Add) (eVar 11) (eK (.int 1))) [11]) esNil)))) (sSeq (sRet (eApp tupP (esCons (eApp tupP (esCons (gE (eApp maxD (esCons (eK (.int 0)) (esCons (eBin (binD .Sub) (eVar 6) (eK (.int 1))) esNil)))) (esCons (eVar 5) (esCons (eBin (binD .Mod) (eBin (binD .Add) (eVar 8) (eK (.int 1))) (gE (eBin ixD (eVar 1) (eK (.int 2))))) esNil)))) (esCons (eVar 4) (esCons (gE (eApp lenD (esCons (eVar 7) esNil))) esNil))))) sNx)))))))
-- _law_tick: 0 machine, 1 rule, 2 stand, 3 coming, 4 queue, 5 begins, 6 taken, 7 left, 8 phase, 9 busy, 10 ages, 11 age
noncomputable def m__law_tick (call : Tab) : S := (sSeq (sSet (.tp [(.nm 9), (.nm 10), (.nm 8)]) (eVar 2)) (sSeq (sSet (.nm 4) (eBin (binD .Add) (gE (eApp listD2 (esCons (eVar 10) esNil))) (eBin (binD .Mult) (eApp lstP (esCons (eK (.int 0)) esNil)) (eVar 3)))) (sSeq (sSet (.nm 5) (eAn (gE (eBin (cmpD .Eq) (eVar 9) (eK (.int 0)))) (eAn (gE (eBin (cmpD .Eq) (eVar 8) (eK (.int 0)))) (gE (eBin (cmpD .NotEq) (eVar 4) (eApp lstP esNil)))))) (sSeq (sIf (tAn (tTru (eVar 5)) (tBl (gE (eBin (cmpD .Lt) (gE (eApp lenD (esCons (eVar 4) esNil))) (gE (eBin ixD (eVar 1) (eK (.int 0)))))))) (sSeq (sSet (.nm 5) (eAn (gE (eBin (cmpD .Lt) (gE (eBin ixD (eVar 1) (eK (.int 1)))) (eK (.int 5)))) (gE (eBin (cmpD .GtE) (gE (eBin ixD (eVar 4) (eK (.int 0)))) (gE (eBin ixD (eVar 1) (eK (.int 1)))))))) sNx) sNx) (sSeq (sSet (.nm 6) (eK (.int 0))) (sSeq (sIf (tTru (eVar 5)) (sSeq (sSet (.tp [(.nm 6), (.nm 9)]) (eApp tupP (esCons (gE (eApp minD (esCons (gE (eApp lenD (esCons (eVar 4) esNil))) (esCons (gE (eBin ixD (eVar 0) (eK (.int 0)))) esNil)))) (esCons (gE (eBin ixD (eVar 0) (eK (.int 1)))) esNil)))) sNx) sNx) (sSeq (sSet (.nm 7) (eSl (eVar 4) (oSo (eVar 6)) oNo)) (sSeq (sSet (.nm 8) (eIf (tBl (gE (eBin (cmpD .Eq) (eBin (binD .Add) (eVar 8) (eK (.int 1))) (gE (eBin ixD (eVar 1) (eK (.int 2))))))) (eK (.int 0)) (eBin (binD .Add) (eVar 8) (eK (.int 1))))) (sSeq (sRet (eApp tupP (esCons (eApp tupP (esCons (eBin (binD .Sub) (eVar 9) (gE (eApp intD (esCons (gE (eBin (cmpD .Gt) (eVar 9) (eK (.int 0)))) esNil)))) (esCons (gE (eApp tupleD (esCons (eLc (iSeq (eVar 7)) (.nm 11) tYesT (eBin (binD .Add) (eVar 11) (eK (.int 1))) [11]) esNil))) (esCons (eVar 8) esNil)))) (esCons (eVar 6) (esCons (gE (eApp lenD (esCons (eVar 7) esNil))) esNil))))) sNx)))))))))
/-! ### lists made by a comprehension, used at once -/
section
variable {lc : E} {ρ : Env} {μ : Mem} {xs : List D}
theorem tup_lc (h : lc ρ μ = .ok (.loc μ.length) (μ ++ [.lst xs])) (hl : D.lows μ.length xs = true) : gE (eApp tupleD (esCons lc esNil)) ρ μ = .ok (.tup xs) μ := by
  have ht : tupleD [.loc μ.length] (μ ++ [.lst xs]) = some (.tup xs, μ ++ [.lst xs]) := by simp only [tupleD, seqD, lst_at_new]
  simp only [gE, eApp, esCons, esNil, h, bind_ok, ht, r_some]
  exact gc_low hl
theorem sum_lc {is : List Int} (h : lc ρ μ = .ok (.loc μ.length) (μ ++ [.lst (is.map .int)])) : gE (eApp sumD (esCons lc esNil)) ρ μ = .ok (.int is.sum) μ := by
  have hi : intsD (is.map .int) = some is := by
    clear h
    induction is with
    | nil => rfl
    | cons i is ih => rw [List.map_cons, intsD, ih]; rfl
  have ht : sumD [.loc μ.length] (μ ++ [.lst (is.map .int)]) = some (.int is.sum, μ ++ [.lst (is.map .int)]) := by simp only [sumD, lsD, lst_at_new, hi]
  simp only [gE, eApp, esCons, esNil, h, bind_ok, ht, r_some]
  exact gc_low rfl
end
theorem ix_hd {x : D} {xs : List D} {μ : Mem} : ixD (.tup (x :: xs)) (.int 0) μ = some (x, μ) := ixD_seq (xs := x :: xs) rfl (atI_get (i := 0) rfl)
theorem ne_nil {q : List Int} {μ : Mem} : neD (.tup (q.map .int)) (.tup []) μ = some (.bl (!decide (q = [])), μ) := Enc.int.tupL.neD (b := [])
theorem tup0 {μ : Mem} : tupP [] μ = some (.tup [], μ) := rfl
theorem len_ints {q : List Int} {μ : Mem} : lenD [.tup (q.map .int)] μ = some (.int q.length, μ) := by rw [len_tup, List.length_map]
theorem sum_len {n m : Nat} (h : n + m ≤ 16777216) : sumLen n m = true := decide_eq_true (by rw [sizeLine_eq]; exact h)
theorem cat_ints {p q : List Int} {μ : Mem} (h : p.length + q.length ≤ 16777216) : addD (.tup (p.map .int)) (.tup (q.map .int)) μ = some (.tup ((p ++ q).map .int), μ) := by
  unfold addD
  simp only [List.length_map, sum_len h, if_true, List.map_append]
theorem cut_from {xs : List D} {k : Nat} : cutD xs (some (k : Int)) none = xs.drop k := by
  unfold cutD
  rw [HT.sIx_nat, HT.sIx_none]
  by_cases h : k ≤ xs.length
  · rw [Nat.min_eq_left h]
    exact List.take_of_length_le (by rw [List.length_drop]; omega)
  · rw [Nat.min_eq_right (by omega), List.drop_of_length_le (Nat.le_refl _), List.drop_of_length_le (by omega)]
    simp
theorem sl_from {q : List Int} {k : Int} {μ : Mem} (h : 0 ≤ k) : slD (.tup (q.map .int)) (some k) none μ = some (.tup ((q.drop k.toNat).map .int), μ) := by
  obtain ⟨n, rfl⟩ := Int.eq_ofNat_of_zero_le h
  show some (D.tup (cutD _ (some (n : Int)) none), μ) = _
  rw [cut_from, List.map_drop]; rfl
/-! ### a tick -/
def qOf (ages : List Int) (coming : Int) : List Int := if coming = 1 then ages ++ [0] else ages
def startsB (a g : Int) (q : List Int) : Bool := decide (a ≤ q.length) || (!decide (q = []) && (!decide (g = 5) && decide (g ≤ q.headD 0)))
def begB (a g : Int) (s : Stand) (coming : Int) : Bool := decide (s.1 = 0) && (decide (s.2.2 = 0) && startsB a g (qOf s.2.1 coming))
def takenOf (r a g : Int) (s : Stand) (coming : Int) : Int := if begB a g s coming = true then (if ((qOf s.2.1 coming).length : Int) < r then (qOf s.2.1 coming).length else r) else 0
def leftOf (r a g : Int) (s : Stand) (coming : Int) : List Int := (qOf s.2.1 coming).drop (takenOf r a g s coming).toNat
def busyOf (l a g : Int) (s : Stand) (coming : Int) : Int := if begB a g s coming = true then l else s.1
def stepP (r l a g b : Int) (s : Stand) (coming : Int) : Stand × Int × Int :=
  ((if busyOf l a g s coming - 1 > 0 then busyOf l a g s coming - 1 else 0, (leftOf r a g s coming).map (· + 1), (s.2.2 + 1) % b), takenOf r a g s coming, (leftOf r a g s coming).length)
def outD (o : Stand × Int × Int) : D := .tup [stD o.1, .int o.2.1, .int o.2.2]
theorem qOf_len {ages : List Int} {coming : Int} : (qOf ages coming).length ≤ ages.length + 1 := by
  unfold qOf; split <;> simp
theorem taken_nn {r a g : Int} {s : Stand} {coming : Int} (hr : 0 ≤ r) : 0 ≤ takenOf r a g s coming := by
  unfold takenOf; split
  · split <;> omega
  · omega
def S_starts (c : Tab) : Prop := ∀ a g b (q : List Int) μ, run c "starts" [.tup [.int a, .int g, .int b], .tup (q.map .int)] μ = .ok (.bl (startsB a g q)) μ
theorem ok_starts {c c' : Tab} (h : c' "starts" = some (mkFn 2 0 2 m_starts c)) : S_starts c' := by
  intro a g b q μ
  rw [run_mk h rfl, gcM2]
  have : runS (m_starts c [some (.tup [.int a, .int g, .int b]), some (.tup (q.map .int))] μ) = .ok (.bl (startsB a g q)) μ := by
    unfold m_starts
    simp only [List.length_cons, List.length_nil, if_true, List.map_cons, List.map_nil, List.replicate_zero, List.replicate_succ, List.append_nil, List.cons_append, List.nil_append, seq_eq, sRet, sNx, sIf, sExpr, sSet, sRaise, eAn, eOr, eNo, eUn, eBin, eApp, esCons, esNil, eIf, eChain, eVar, eK, tNo, tTru, tBl, tAn, tOr', gE, gc_id, gc_ex, List.getElem?_cons_zero, List.getElem?_cons_succ, bind_ok, bind_ex, st_ok, st_ex, r_some, cmpD, binD, runS, eDef_eq, Tg.sets, set_tp, setE_z, setE_s, Option.map_some, List.set_cons_zero, List.set_cons_succ, Bool.false_eq_true, if_false, tru_bl, Bool.not_true, Bool.not_false, len_ints, ix3_0, icmp]
    by_cases h1 : a ≤ q.length
    · simp [h1, List.length_cons, List.length_nil, if_true, List.map_cons, List.map_nil, List.replicate_zero, List.replicate_succ, List.append_nil, List.cons_append, List.nil_append, seq_eq, sRet, sNx, sIf, sExpr, sSet, sRaise, eAn, eOr, eNo, eUn, eBin, eApp, esCons, esNil, eIf, eChain, eVar, eK, tNo, tTru, tBl, tAn, tOr', gE, gc_id, gc_ex, List.getElem?_cons_zero, List.getElem?_cons_succ, bind_ok, bind_ex, st_ok, st_ex, r_some, cmpD, binD, runS, eDef_eq, Tg.sets, set_tp, setE_z, setE_s, Option.map_some, List.set_cons_zero, List.set_cons_succ, Bool.false_eq_true, if_false, tru_bl, Bool.not_true, Bool.not_false, startsB]
    · simp only [h1, decide_false, List.length_cons, List.length_nil, if_true, List.map_cons, List.map_nil, List.replicate_zero, List.replicate_succ, List.append_nil, List.cons_append, List.nil_append, seq_eq, sRet, sNx, sIf, sExpr, sSet, sRaise, eAn, eOr, eNo, eUn, eBin, eApp, esCons, esNil, eIf, eChain, eVar, eK, tNo, tTru, tBl, tAn, tOr', gE, gc_id, gc_ex, List.getElem?_cons_zero, List.getElem?_cons_succ, bind_ok, bind_ex, st_ok, st_ex, r_some, cmpD, binD, runS, eDef_eq, Tg.sets, set_tp, setE_z, setE_s, Option.map_some, List.set_cons_zero, List.set_cons_succ, Bool.false_eq_true, if_false, tru_bl, Bool.not_true, Bool.not_false, tup0, ne_nil, ix3_1, neD_int]
      cases q with
      | nil =>
        have : ¬ (a ≤ 0) := by simpa using h1
        simp [List.length_cons, List.length_nil, if_true, List.map_cons, List.map_nil, List.replicate_zero, List.replicate_succ, List.append_nil, List.cons_append, List.nil_append, seq_eq, sRet, sNx, sIf, sExpr, sSet, sRaise, eAn, eOr, eNo, eUn, eBin, eApp, esCons, esNil, eIf, eChain, eVar, eK, tNo, tTru, tBl, tAn, tOr', gE, gc_id, gc_ex, List.getElem?_cons_zero, List.getElem?_cons_succ, bind_ok, bind_ex, st_ok, st_ex, r_some, cmpD, binD, runS, eDef_eq, Tg.sets, set_tp, setE_z, setE_s, Option.map_some, List.set_cons_zero, List.set_cons_succ, Bool.false_eq_true, if_false, tru_bl, Bool.not_true, Bool.not_false, startsB, this]
      | cons x xs =>
        have h2 : ¬ (a ≤ ((x :: xs).length : Int)) := h1
        by_cases h3 : g = 5
        · subst h3
          unfold startsB
          simp only [decide_eq_false h2]
          simp [List.length_cons, List.length_nil, if_true, List.map_cons, List.map_nil, List.replicate_zero, List.replicate_succ, List.append_nil, List.cons_append, List.nil_append, seq_eq, sRet, sNx, sIf, sExpr, sSet, sRaise, eAn, eOr, eNo, eUn, eBin, eApp, esCons, esNil, eIf, eChain, eVar, eK, tNo, tTru, tBl, tAn, tOr', gE, gc_id, gc_ex, List.getElem?_cons_zero, List.getElem?_cons_succ, bind_ok, bind_ex, st_ok, st_ex, r_some, cmpD, binD, runS, eDef_eq, Tg.sets, set_tp, setE_z, setE_s, Option.map_some, List.set_cons_zero, List.set_cons_succ, Bool.false_eq_true, if_false, tru_bl, Bool.not_true, Bool.not_false, neD_int]
        · unfold startsB
          simp only [decide_eq_false h2]
          have h4 : (g == 5) = false := by simpa using h3
          simp [List.length_cons, List.length_nil, if_true, List.map_cons, List.map_nil, List.replicate_zero, List.replicate_succ, List.append_nil, List.cons_append, List.nil_append, seq_eq, sRet, sNx, sIf, sExpr, sSet, sRaise, eAn, eOr, eNo, eUn, eBin, eApp, esCons, esNil, eIf, eChain, eVar, eK, tNo, tTru, tBl, tAn, tOr', gE, gc_id, gc_ex, List.getElem?_cons_zero, List.getElem?_cons_succ, bind_ok, bind_ex, st_ok, st_ex, r_some, cmpD, binD, runS, eDef_eq, Tg.sets, set_tp, setE_z, setE_s, Option.map_some, List.set_cons_zero, List.set_cons_succ, Bool.false_eq_true, if_false, tru_bl, Bool.not_true, Bool.not_false, neD_int, h4, h3, ix_hd, icmp, ix3_1]
  rw [show ([D.tup [.int a, .int g, .int b], .tup (q.map .int)].map some ++ List.replicate 0 none) = [some (.tup [.int a, .int g, .int b]), some (.tup (q.map .int))] from rfl, this, gc_id]
def S_step (c : Tab) : Prop := ∀ r l p a g b (s : Stand) coming μ, 0 ≤ r → 0 < b → s.2.1.length ≤ 1000000 → run c "step" [.tup [.int r, .int l, .int p], .tup [.int a, .int g, .int b], stD s, .int coming] μ = .ok (outD (stepP r l a g b s coming)) μ
theorem ok_step {c c' : Tab} (h : c' "step" = some (mkFn 4 8 2 m_step c)) (ss : S_starts c) : S_step c' := by
  intro r l p a g b ⟨busy, ages, phase⟩ coming μ hr hb hl
  rw [run_mk h rfl, gcM2]
  have : runS (m_step c [some (.tup [.int r, .int l, .int p]), some (.tup [.int a, .int g, .int b]), some (stD (busy, ages, phase)), some (.int coming), none, none, none, none, none, none, none, none] μ) = .ok (outD (stepP r l a g b (busy, ages, phase) coming)) μ := by
    have hcut : slD (.tup [.int r, .int l, .int p]) none (some 2) μ = some (.tup [.int r, .int l], μ) := rfl
    -- the end, whatever stands in the slots
    have tail : ∀ (t bz : Int) (q : List Int) (x10 : Option D), q.length ≤ 1000001 →
        runS ((sSeq (sSet (.nm 5) (gE (eApp tupleD (esCons (eLc (iSeq (eVar 7)) (.nm 11) tYesT (eBin (binD .Add) (eVar 11) (eK (.int 1))) [11]) esNil)))) (sSeq (sRet (eApp tupP (esCons (eApp tupP (esCons (gE (eApp maxD (esCons (eK (.int 0)) (esCons (eBin (binD .Sub) (eVar 6) (eK (.int 1))) esNil)))) (esCons (eVar 5) (esCons (eBin (binD .Mod) (eBin (binD .Add) (eVar 8) (eK (.int 1))) (gE (eBin ixD (eVar 1) (eK (.int 2))))) esNil)))) (esCons (eVar 4) (esCons (gE (eApp lenD (esCons (eVar 7) esNil))) esNil))))) sNx))
          [some (.tup [.int r, .int l, .int p]), some (.tup [.int a, .int g, .int b]), some (stD (busy, ages, phase)), some (.int coming), some (.int t), none, some (.int bz), some (.tup (q.map .int)), some (.int phase), some (.int r), some (.int l), x10] μ)
        = .ok (.tup [.tup [.int (if bz - 1 > 0 then bz - 1 else 0), .tup ((q.map (· + 1)).map .int), .int ((phase + 1) % b)], .int t, .int q.length]) μ := by
      intro t bz q x10 hq
      have hlc := eLc_fix (it := iSeq (eVar 7)) (tg := .nm 11) (ifs := tYesT) (elt := eBin (binD .Add) (eVar 11) (eK (.int 1))) (own := [11]) (ρ := [some (.tup [.int r, .int l, .int p]), some (.tup [.int a, .int g, .int b]), some (stD (busy, ages, phase)), some (.int coming), some (.int t), none, some (.int bz), some (.tup (q.map .int)), some (.int phase), some (.int r), some (.int l), x10]) (μ := μ) (μ1 := μ) D.int q (fun _ => true) (fun x => .int (x + 1)) (by omega) (iSeq_tup rfl) rfl
        (fun x _ acc => ⟨_, rfl, rfl, fun _ => rfl⟩)
      rw [List.filter_eq_self.mpr (fun _ _ => rfl)] at hlc
      have ht := tup_lc hlc (lows_map fun _ _ => rfl)
      have hm : (q.map (· + 1)).map D.int = q.map fun x => D.int (x + 1) := by rw [List.map_map]; rfl
      simp only [binD] at ht
      rw [hm]
      rw [seq_eq]
      unfold sSet
      rw [binD, ht]
      simp only [List.length_cons, List.length_nil, if_true, List.map_cons, List.map_nil, List.replicate_zero, List.replicate_succ, List.append_nil, List.cons_append, List.nil_append, seq_eq, sRet, sNx, sIf, sExpr, sSet, sRaise, eAn, eOr, eNo, eUn, eBin, eApp, esCons, esNil, eIf, eChain, eVar, eK, tNo, tTru, tBl, tAn, tOr', gE, gc_id, gc_ex, List.getElem?_cons_zero, List.getElem?_cons_succ, bind_ok, bind_ex, st_ok, st_ex, r_some, cmpD, binD, runS, eDef_eq, Tg.sets, set_tp, setE_z, setE_s, Option.map_some, List.set_cons_zero, List.set_cons_succ, Bool.false_eq_true, if_false, tru_bl, Bool.not_true, Bool.not_false, subD_int, maxD_int, addD_int, ix3_2, modD_int hb, tup3, len_ints]
    have hq : (qOf ages coming).length ≤ 1000001 := by
      have := qOf_len (ages := ages) (coming := coming)
      have : ages.length ≤ 1000000 := hl
      omega
    -- up to the queue
    have hq7 : addD (.tup (ages.map .int)) (.tup [.int 0]) μ = some (.tup ((ages ++ [0]).map .int), μ) := cat_ints (q := [0]) (by have : ages.length ≤ 1000000 := hl; simp; omega)
    have hout : outD (stepP r l a g b (busy, ages, phase) coming) = .tup [.tup [.int (if busyOf l a g (busy, ages, phase) coming - 1 > 0 then busyOf l a g (busy, ages, phase) coming - 1 else 0), .tup (((leftOf r a g (busy, ages, phase) coming).map (· + 1)).map .int), .int ((phase + 1) % b)], .int (takenOf r a g (busy, ages, phase) coming), .int (leftOf r a g (busy, ages, phase) coming).length] := rfl
    have hlf : (leftOf r a g (busy, ages, phase) coming).length ≤ 1000001 := by
      unfold leftOf
      rw [List.length_drop]
      show (qOf ages coming).length - _ ≤ _
      omega
    rw [hout, ← tail _ _ _ none hlf]
    unfold m_step
    have e1 : ∀ (k : S), runS (sSeq (sIf (tBl (gE (eBin (cmpD .Eq) (eVar 3) (eK (.int 1))))) (sSeq (sSet (.nm 7) (eBin (binD .Add) (eVar 7) (eApp tupP (esCons (eK (.int 0)) esNil)))) sNx) sNx) k [some (.tup [.int r, .int l, .int p]), some (.tup [.int a, .int g, .int b]), some (stD (busy, ages, phase)), some (.int coming), none, none, some (.int busy), some (.tup (ages.map .int)), some (.int phase), some (.int r), some (.int l), none] μ) =
        runS (k [some (.tup [.int r, .int l, .int p]), some (.tup [.int a, .int g, .int b]), some (stD (busy, ages, phase)), some (.int coming), none, none, some (.int busy), some (.tup ((qOf ages coming).map .int)), some (.int phase), some (.int r), some (.int l), none] μ) := by
      intro k
      simp only [List.length_cons, List.length_nil, if_true, List.map_cons, List.map_nil, List.replicate_zero, List.replicate_succ, List.append_nil, List.cons_append, List.nil_append, seq_eq, sRet, sNx, sIf, sExpr, sSet, sRaise, eAn, eOr, eNo, eUn, eBin, eApp, esCons, esNil, eIf, eChain, eVar, eK, tNo, tTru, tBl, tAn, tOr', gE, gc_id, gc_ex, List.getElem?_cons_zero, List.getElem?_cons_succ, bind_ok, bind_ex, st_ok, st_ex, r_some, cmpD, binD, runS, eDef_eq, Tg.sets, set_tp, setE_z, setE_s, Option.map_some, List.set_cons_zero, List.set_cons_succ, Bool.false_eq_true, if_false, tru_bl, Bool.not_true, Bool.not_false, eqD_int, tup1, hq7]
      unfold qOf
      by_cases hc : coming = 1 <;> simp [hc]
    have e0 : ∀ (k : S), runS (sSeq (sSet (.tp [(.nm 6), (.nm 7), (.nm 8)]) (eVar 2)) (sSeq (sSet (.tp [(.nm 9), (.nm 10)]) (eSl (eVar 0) oNo (oSo (eK (.int 2))))) k) [some (.tup [.int r, .int l, .int p]), some (.tup [.int a, .int g, .int b]), some (stD (busy, ages, phase)), some (.int coming), none, none, none, none, none, none, none, none] μ) =
        runS (k [some (.tup [.int r, .int l, .int p]), some (.tup [.int a, .int g, .int b]), some (stD (busy, ages, phase)), some (.int coming), none, none, some (.int busy), some (.tup (ages.map .int)), some (.int phase), some (.int r), some (.int l), none] μ) := by
      intro k
      simp only [List.length_cons, List.length_nil, if_true, List.map_cons, List.map_nil, List.replicate_zero, List.replicate_succ, List.append_nil, List.cons_append, List.nil_append, seq_eq, sRet, sNx, sIf, sExpr, sSet, sRaise, eAn, eOr, eNo, eUn, eBin, eApp, esCons, esNil, eIf, eChain, eVar, eK, tNo, tTru, tBl, tAn, tOr', gE, gc_id, gc_ex, List.getElem?_cons_zero, List.getElem?_cons_succ, bind_ok, bind_ex, st_ok, st_ex, r_some, cmpD, binD, runS, eDef_eq, Tg.sets, set_tp, setE_z, setE_s, Option.map_some, List.set_cons_zero, List.set_cons_succ, Bool.false_eq_true, if_false, tru_bl, Bool.not_true, Bool.not_false, stD, eSl, oNo, oSo, hcut]
    rw [e0, e1]
    have hbeg : begB a g (busy, ages, phase) coming = (decide (busy = 0) && (decide (phase = 0) && startsB a g (qOf ages coming))) := rfl
    have hnn : 0 ≤ (if ((qOf ages coming).length : Int) < r then ((qOf ages coming).length : Int) else r) := by split <;> omega
    have e2 : ∀ (k : S), runS (sSeq (sSet (.nm 4) (eK (.int 0))) (sSeq (sIf (tAn (tBl (gE (eBin (cmpD .Eq) (eVar 6) (eK (.int 0))))) (tAn (tBl (gE (eBin (cmpD .Eq) (eVar 8) (eK (.int 0))))) (tTru (eDef c "starts" (esCons (eVar 1) (esCons (eVar 7) esNil)))))) (sSeq (sSet (.nm 4) (gE (eApp minD (esCons (eVar 9) (esCons (gE (eApp lenD (esCons (eVar 7) esNil))) esNil))))) (sSeq (sSet (.tp [(.nm 7), (.nm 6)]) (eApp tupP (esCons (eSl (eVar 7) (oSo (eVar 4)) oNo) (esCons (eVar 10) esNil)))) sNx)) sNx) k)
          [some (.tup [.int r, .int l, .int p]), some (.tup [.int a, .int g, .int b]), some (stD (busy, ages, phase)), some (.int coming), none, none, some (.int busy), some (.tup ((qOf ages coming).map .int)), some (.int phase), some (.int r), some (.int l), none] μ) =
        runS (k [some (.tup [.int r, .int l, .int p]), some (.tup [.int a, .int g, .int b]), some (stD (busy, ages, phase)), some (.int coming), some (.int (takenOf r a g (busy, ages, phase) coming)), none, some (.int (busyOf l a g (busy, ages, phase) coming)), some (.tup ((leftOf r a g (busy, ages, phase) coming).map .int)), some (.int phase), some (.int r), some (.int l), none] μ) := by
      intro k
      have k1 : begB a g (busy, ages, phase) coming = false → takenOf r a g (busy, ages, phase) coming = 0 ∧ busyOf l a g (busy, ages, phase) coming = busy ∧ leftOf r a g (busy, ages, phase) coming = qOf ages coming := fun hf => by
        have h0 : takenOf r a g (busy, ages, phase) coming = 0 := by unfold takenOf; rw [hf]; rfl
        refine ⟨h0, by unfold busyOf; rw [hf]; rfl, ?_⟩
        unfold leftOf
        rw [h0]; rfl
      simp only [List.length_cons, List.length_nil, if_true, List.map_cons, List.map_nil, List.replicate_zero, List.replicate_succ, List.append_nil, List.cons_append, List.nil_append, seq_eq, sRet, sNx, sIf, sExpr, sSet, sRaise, eAn, eOr, eNo, eUn, eBin, eApp, esCons, esNil, eIf, eChain, eVar, eK, tNo, tTru, tBl, tAn, tOr', gE, gc_id, gc_ex, List.getElem?_cons_zero, List.getElem?_cons_succ, bind_ok, bind_ex, st_ok, st_ex, r_some, cmpD, binD, runS, eDef_eq, Tg.sets, set_tp, setE_z, setE_s, Option.map_some, List.set_cons_zero, List.set_cons_succ, Bool.false_eq_true, if_false, tru_bl, Bool.not_true, Bool.not_false, eqD_int, ss a g b (qOf ages coming) μ]
      by_cases h1 : busy = 0
      · by_cases h2 : phase = 0
        · cases h3 : startsB a g (qOf ages coming) with
          | true =>
            have hbt : begB a g (busy, ages, phase) coming = true := by rw [hbeg, h3]; simp [h1, h2]
            have k2 : takenOf r a g (busy, ages, phase) coming = (if ((qOf ages coming).length : Int) < r then ((qOf ages coming).length : Int) else r) := by unfold takenOf; rw [hbt]; rfl
            have k3 : busyOf l a g (busy, ages, phase) coming = l := by unfold busyOf; rw [hbt]; rfl
            have k4 : leftOf r a g (busy, ages, phase) coming = (qOf ages coming).drop (takenOf r a g (busy, ages, phase) coming).toNat := rfl
            rw [k4, k3, k2]
            simp [List.length_cons, List.length_nil, if_true, List.map_cons, List.map_nil, List.replicate_zero, List.replicate_succ, List.append_nil, List.cons_append, List.nil_append, seq_eq, sRet, sNx, sIf, sExpr, sSet, sRaise, eAn, eOr, eNo, eUn, eBin, eApp, esCons, esNil, eIf, eChain, eVar, eK, tNo, tTru, tBl, tAn, tOr', gE, gc_id, gc_ex, List.getElem?_cons_zero, List.getElem?_cons_succ, bind_ok, bind_ex, st_ok, st_ex, r_some, cmpD, binD, runS, eDef_eq, Tg.sets, set_tp, setE_z, setE_s, Option.map_some, List.set_cons_zero, List.set_cons_succ, Bool.false_eq_true, if_false, tru_bl, Bool.not_true, Bool.not_false, h1, h2, len_ints, minD_int, eSl, oSo, oNo, sl_from hnn, tup2]
          | false =>
            obtain ⟨q1, q2, q3⟩ := k1 (by rw [hbeg, h3]; simp)
            rw [q1, q2, q3]
            simp [List.length_cons, List.length_nil, if_true, List.map_cons, List.map_nil, List.replicate_zero, List.replicate_succ, List.append_nil, List.cons_append, List.nil_append, seq_eq, sRet, sNx, sIf, sExpr, sSet, sRaise, eAn, eOr, eNo, eUn, eBin, eApp, esCons, esNil, eIf, eChain, eVar, eK, tNo, tTru, tBl, tAn, tOr', gE, gc_id, gc_ex, List.getElem?_cons_zero, List.getElem?_cons_succ, bind_ok, bind_ex, st_ok, st_ex, r_some, cmpD, binD, runS, eDef_eq, Tg.sets, set_tp, setE_z, setE_s, Option.map_some, List.set_cons_zero, List.set_cons_succ, Bool.false_eq_true, if_false, tru_bl, Bool.not_true, Bool.not_false, h1, h2]
        · obtain ⟨q1, q2, q3⟩ := k1 (by rw [hbeg]; simp [h2])
          rw [q1, q2, q3]
          have h2' : (phase == 0) = false := by simpa using h2
          simp [List.length_cons, List.length_nil, if_true, List.map_cons, List.map_nil, List.replicate_zero, List.replicate_succ, List.append_nil, List.cons_append, List.nil_append, seq_eq, sRet, sNx, sIf, sExpr, sSet, sRaise, eAn, eOr, eNo, eUn, eBin, eApp, esCons, esNil, eIf, eChain, eVar, eK, tNo, tTru, tBl, tAn, tOr', gE, gc_id, gc_ex, List.getElem?_cons_zero, List.getElem?_cons_succ, bind_ok, bind_ex, st_ok, st_ex, r_some, cmpD, binD, runS, eDef_eq, Tg.sets, set_tp, setE_z, setE_s, Option.map_some, List.set_cons_zero, List.set_cons_succ, Bool.false_eq_true, if_false, tru_bl, Bool.not_true, Bool.not_false, h1, h2']
      · obtain ⟨q1, q2, q3⟩ := k1 (by rw [hbeg]; simp [h1])
        rw [q1, q2, q3]
        have h1' : (busy == 0) = false := by simpa using h1
        simp [List.length_cons, List.length_nil, if_true, List.map_cons, List.map_nil, List.replicate_zero, List.replicate_succ, List.append_nil, List.cons_append, List.nil_append, seq_eq, sRet, sNx, sIf, sExpr, sSet, sRaise, eAn, eOr, eNo, eUn, eBin, eApp, esCons, esNil, eIf, eChain, eVar, eK, tNo, tTru, tBl, tAn, tOr', gE, gc_id, gc_ex, List.getElem?_cons_zero, List.getElem?_cons_succ, bind_ok, bind_ex, st_ok, st_ex, r_some, cmpD, binD, runS, eDef_eq, Tg.sets, set_tp, setE_z, setE_s, Option.map_some, List.set_cons_zero, List.set_cons_succ, Bool.false_eq_true, if_false, tru_bl, Bool.not_true, Bool.not_false, h1']
    rw [e2]
  rw [show ([D.tup [.int r, .int l, .int p], .tup [.int a, .int g, .int b], stD (busy, ages, phase), .int coming].map some ++ List.replicate 8 none) = [some (.tup [.int r, .int l, .int p]), some (.tup [.int a, .int g, .int b]), some (stD (busy, ages, phase)), some (.int coming), none, none, none, none, none, none, none, none] from rfl, this, gc_id]
/-! ### the law's tick -/
def S_law_tick (c : Tab) : Prop := ∀ r l p a g b (s : Stand) coming μ, 0 ≤ r → 0 ≤ l → 1 ≤ a → g ≤ 5 → 0 ≤ s.1 → 0 ≤ s.2.2 → s.2.2 < b → s.2.1.length ≤ 1000 → (coming = 0 ∨ coming = 1) → run c "_law_tick" [.tup [.int r, .int l, .int p], .tup [.int a, .int g, .int b], stD s, .int coming] μ = .ok (outD (stepP r l a g b s coming)) μ
theorem lst1 {x : D} {μ : Mem} : lstP [x] μ = some (.loc μ.length, μ ++ [.lst [x]]) := rfl
theorem lst0 {μ : Mem} : lstP [] μ = some (.loc μ.length, μ ++ [.lst []]) := rfl
theorem ok_law_tick {c c' : Tab} (h : c' "_law_tick" = some (mkFn 4 8 2 m__law_tick c)) : S_law_tick c' := by
  intro r l p a g b ⟨busy, ages, phase⟩ coming μ hr hlnn ha hg hbz hph hpb hl hc
  dsimp only at hbz hph hpb hl
  rw [run_mk h rfl, gcM2]
  let Q := qOf ages coming
  let M : Mem := μ ++ [.lst (ages.map .int), .lst [.int 0], .lst (if coming = 1 then [.int 0] else []), .lst ((qOf ages coming).map .int)]
  have hQ : (qOf ages coming).length ≤ 1001 := by
    have := qOf_len (ages := ages) (coming := coming)
    omega
  have hat : lstAt M (μ.length + 3) = some ((qOf ages coming).map .int) := at_new
  suffices hs : ∃ ν, runS (m__law_tick c [some (.tup [.int r, .int l, .int p]), some (.tup [.int a, .int g, .int b]), some (stD (busy, ages, phase)), some (.int coming), none, none, none, none, none, none, none, none] μ) = .ok (outD (stepP r l a g b (busy, ages, phase) coming)) (μ ++ ν) by
    obtain ⟨ν, e⟩ := hs
    rw [show ([D.tup [.int r, .int l, .int p], .tup [.int a, .int g, .int b], stD (busy, ages, phase), .int coming].map some ++ List.replicate 8 none) = [some (.tup [.int r, .int l, .int p]), some (.tup [.int a, .int g, .int b]), some (stD (busy, ages, phase)), some (.int coming), none, none, none, none, none, none, none, none] from rfl, e]
    refine gc_low ?_
    unfold outD stD
    simp only [D.low, D.lows, low_ints, Bool.and_self, Bool.and_true]
  have s1 : sSet (.tp [(.nm 9), (.nm 10), (.nm 8)]) (eVar 2) [some (.tup [.int r, .int l, .int p]), some (.tup [.int a, .int g, .int b]), some (stD (busy, ages, phase)), some (.int coming), none, none, none, none, none, none, none, none] μ = .nx [some (.tup [.int r, .int l, .int p]), some (.tup [.int a, .int g, .int b]), some (stD (busy, ages, phase)), some (.int coming), none, none, none, none, some (.int phase), some (.int busy), some (.tup (ages.map .int)), none] μ := by
    simp only [List.length_cons, List.length_nil, if_true, List.map_cons, List.map_nil, List.replicate_zero, List.replicate_succ, List.append_nil, List.cons_append, List.nil_append, seq_eq, sRet, sNx, sIf, sExpr, sSet, sRaise, eAn, eOr, eNo, eUn, eBin, eApp, esCons, esNil, eIf, eChain, eVar, eK, tNo, tTru, tBl, tAn, tOr', gE, gc_id, gc_ex, List.getElem?_cons_zero, List.getElem?_cons_succ, bind_ok, bind_ex, st_ok, st_ex, r_some, cmpD, binD, runS, eDef_eq, Tg.sets, set_tp, setE_z, setE_s, Option.map_some, List.set_cons_zero, List.set_cons_succ, Bool.false_eq_true, if_false, tru_bl, Bool.not_true, Bool.not_false, stD]
  have s2 : sSet (.nm 4) (eBin (binD .Add) (gE (eApp listD2 (esCons (eVar 10) esNil))) (eBin (binD .Mult) (eApp lstP (esCons (eK (.int 0)) esNil)) (eVar 3))) [some (.tup [.int r, .int l, .int p]), some (.tup [.int a, .int g, .int b]), some (stD (busy, ages, phase)), some (.int coming), none, none, none, none, some (.int phase), some (.int busy), some (.tup (ages.map .int)), none] μ
      = .nx [some (.tup [.int r, .int l, .int p]), some (.tup [.int a, .int g, .int b]), some (stD (busy, ages, phase)), some (.int coming), some (.loc (μ.length + 3)), none, none, none, some (.int phase), some (.int busy), some (.tup (ages.map .int)), none] M := by
    have l1 : listD2 [.tup (ages.map .int)] μ = some (.loc μ.length, μ ++ [.lst (ages.map .int)]) := rfl
    have l2 : mulD (.loc (μ.length + 1)) (.int coming) (μ ++ [.lst (ages.map .int), .lst [.int 0]]) = some (.loc (μ.length + 2), μ ++ [.lst (ages.map .int), .lst [.int 0], .lst (if coming = 1 then [.int 0] else [])]) := by
      have : lstAt (μ ++ [.lst (ages.map .int), .lst [.int 0]]) (μ.length + 1) = some [.int 0] := at_new
      rcases hc with rfl | rfl <;> simp [mulD, this]
    have l3 : addD (.loc μ.length) (.loc (μ.length + 2)) (μ ++ [.lst (ages.map .int), .lst [.int 0], .lst (if coming = 1 then [.int 0] else [])]) = some (.loc (μ.length + 3), M) := by
      have e1 : lstAt (μ ++ [.lst (ages.map .int), .lst [.int 0], .lst (if coming = 1 then [.int 0] else [])]) μ.length = some (ages.map .int) := at_new0
      have e2 : lstAt (μ ++ [.lst (ages.map .int), .lst [.int 0], .lst (if coming = 1 then [.int 0] else [])]) (μ.length + 2) = some (if coming = 1 then [.int 0] else []) := at_new
      have e3 : sumLen (ages.map D.int).length (if coming = 1 then [D.int 0] else []).length = true := sum_len (by rw [List.length_map]; split <;> simp <;> omega)
      unfold addD
      simp only [e1, e2, e3, if_true]
      have : ages.map D.int ++ (if coming = 1 then [D.int 0] else []) = (qOf ages coming).map .int := by
        unfold qOf; split <;> simp
      rw [this]
      simp [M]
    have g1 : gc false μ (.ok (.loc μ.length) (μ ++ [.lst (ages.map .int)])) = .ok (.loc μ.length) (μ ++ [.lst (ages.map .int)]) := gc_newA low_ints
    simp only [List.length_cons, List.length_nil, if_true, List.map_cons, List.map_nil, List.replicate_zero, List.replicate_succ, List.append_nil, List.cons_append, List.nil_append, seq_eq, sRet, sNx, sIf, sExpr, sSet, sRaise, eAn, eOr, eNo, eUn, eBin, eApp, esCons, esNil, eIf, eChain, eVar, eK, tNo, tTru, tBl, tAn, tOr', gE, gc_id, gc_ex, List.getElem?_cons_zero, List.getElem?_cons_succ, bind_ok, bind_ex, st_ok, st_ex, r_some, cmpD, binD, runS, eDef_eq, Tg.sets, set_tp, setE_z, setE_s, Option.map_some, List.set_cons_zero, List.set_cons_succ, Bool.false_eq_true, if_false, tru_bl, Bool.not_true, Bool.not_false, l1, g1, lst1, List.length_append, List.append_assoc, Nat.zero_add, l2, l3]
  -- whether a run begins
  have hbeg : begB a g (busy, ages, phase) coming = (decide (busy = 0) && (decide (phase = 0) && startsB a g (qOf ages coming))) := rfl
  have hlen : lenD [.loc (μ.length + 3)] M = some (.int (qOf ages coming).length, M) := by rw [lenD_seq (th := .loc (μ.length + 3)) (xs := (qOf ages coming).map .int) hat, List.length_map]
  have s3 : ∀ (k : S) (x6 x7 x11 : Option D), sSeq (sSet (.nm 5) (eAn (gE (eBin (cmpD .Eq) (eVar 9) (eK (.int 0)))) (eAn (gE (eBin (cmpD .Eq) (eVar 8) (eK (.int 0)))) (gE (eBin (cmpD .NotEq) (eVar 4) (eApp lstP esNil)))))) (sSeq (sIf (tAn (tTru (eVar 5)) (tBl (gE (eBin (cmpD .Lt) (gE (eApp lenD (esCons (eVar 4) esNil))) (gE (eBin ixD (eVar 1) (eK (.int 0)))))))) (sSeq (sSet (.nm 5) (eAn (gE (eBin (cmpD .Lt) (gE (eBin ixD (eVar 1) (eK (.int 1)))) (eK (.int 5)))) (gE (eBin (cmpD .GtE) (gE (eBin ixD (eVar 4) (eK (.int 0)))) (gE (eBin ixD (eVar 1) (eK (.int 1)))))))) sNx) sNx) k)
        [some (.tup [.int r, .int l, .int p]), some (.tup [.int a, .int g, .int b]), some (stD (busy, ages, phase)), some (.int coming), some (.loc (μ.length + 3)), none, x6, x7, some (.int phase), some (.int busy), some (.tup (ages.map .int)), x11] M
      = k [some (.tup [.int r, .int l, .int p]), some (.tup [.int a, .int g, .int b]), some (stD (busy, ages, phase)), some (.int coming), some (.loc (μ.length + 3)), some (.bl (begB a g (busy, ages, phase) coming)), x6, x7, some (.int phase), some (.int busy), some (.tup (ages.map .int)), x11] M := by
    intro k x6 x7 x11
    have hne : neD (.loc (μ.length + 3)) (.loc M.length) (M ++ [.lst []]) = some (.bl (!decide (qOf ages coming = [])), M ++ [.lst []]) :=
      IsL.neD (as := qOf ages coming) (bs := []) Enc.int (by omega) (.inr ⟨_, rfl, at_app hat⟩) (.inr ⟨_, rfl, lst_at_new⟩)
    have g0 : ∀ b : Bool, gc false M (.ok (.bl b) (M ++ [.lst []])) = .ok (.bl b) M := fun b => gc_low rfl
    simp only [List.length_cons, List.length_nil, if_true, List.map_cons, List.map_nil, List.replicate_zero, List.replicate_succ, List.append_nil, List.cons_append, List.nil_append, seq_eq, sRet, sNx, sIf, sExpr, sSet, sRaise, eAn, eOr, eNo, eUn, eBin, eApp, esCons, esNil, eIf, eChain, eVar, eK, tNo, tTru, tBl, tAn, tOr', gE, gc_id, gc_ex, List.getElem?_cons_zero, List.getElem?_cons_succ, bind_ok, bind_ex, st_ok, st_ex, r_some, cmpD, binD, runS, eDef_eq, Tg.sets, set_tp, setE_z, setE_s, Option.map_some, List.set_cons_zero, List.set_cons_succ, Bool.false_eq_true, if_false, tru_bl, Bool.not_true, Bool.not_false, eqD_int]
    by_cases h1 : busy = 0
    · by_cases h2 : phase = 0
      · have hbb : begB a g (busy, ages, phase) coming = startsB a g (qOf ages coming) := by rw [hbeg]; simp [h1, h2]
        rw [hbb]
        simp only [h1, h2, beq_self_eq_true, List.length_cons, List.length_nil, if_true, List.map_cons, List.map_nil, List.replicate_zero, List.replicate_succ, List.append_nil, List.cons_append, List.nil_append, seq_eq, sRet, sNx, sIf, sExpr, sSet, sRaise, eAn, eOr, eNo, eUn, eBin, eApp, esCons, esNil, eIf, eChain, eVar, eK, tNo, tTru, tBl, tAn, tOr', gE, gc_id, gc_ex, List.getElem?_cons_zero, List.getElem?_cons_succ, bind_ok, bind_ex, st_ok, st_ex, r_some, cmpD, binD, runS, eDef_eq, Tg.sets, set_tp, setE_z, setE_s, Option.map_some, List.set_cons_zero, List.set_cons_succ, Bool.false_eq_true, if_false, tru_bl, Bool.not_true, Bool.not_false, lst0, hne, g0, hlen, ix3_0, icmp]
        cases hq : qOf ages coming with
        | nil =>
          have : startsB a g [] = false := by
            have : ¬ a ≤ 0 := by omega
            simp [startsB, this]
          simp [List.length_cons, List.length_nil, if_true, List.map_cons, List.map_nil, List.replicate_zero, List.replicate_succ, List.append_nil, List.cons_append, List.nil_append, seq_eq, sRet, sNx, sIf, sExpr, sSet, sRaise, eAn, eOr, eNo, eUn, eBin, eApp, esCons, esNil, eIf, eChain, eVar, eK, tNo, tTru, tBl, tAn, tOr', gE, gc_id, gc_ex, List.getElem?_cons_zero, List.getElem?_cons_succ, bind_ok, bind_ex, st_ok, st_ex, r_some, cmpD, binD, runS, eDef_eq, Tg.sets, set_tp, setE_z, setE_s, Option.map_some, List.set_cons_zero, List.set_cons_succ, Bool.false_eq_true, if_false, tru_bl, Bool.not_true, Bool.not_false, this]
        | cons x xs =>
          have hix : ixD (.loc (μ.length + 3)) (.int 0) M = some (.int x, M) := ixD_seq (xs := (qOf ages coming).map .int) hat (by rw [hq]; exact atI_get (i := 0) rfl)
          by_cases h3 : ((x :: xs).length : Int) < a
          · have h4 : ¬ a ≤ ((x :: xs).length : Int) := by omega
            have : startsB a g (x :: xs) = (!decide (g = 5) && decide (g ≤ x)) := by
              unfold startsB
              rw [decide_eq_false h4]
              simp
            rw [this]
            by_cases h5 : g < 5
            · have h6 : g ≠ 5 := by omega
              have h3' : (xs.length : Int) + 1 < a := by simpa using h3
              simp [List.length_cons, List.length_nil, if_true, List.map_cons, List.map_nil, List.replicate_zero, List.replicate_succ, List.append_nil, List.cons_append, List.nil_append, seq_eq, sRet, sNx, sIf, sExpr, sSet, sRaise, eAn, eOr, eNo, eUn, eBin, eApp, esCons, esNil, eIf, eChain, eVar, eK, tNo, tTru, tBl, tAn, tOr', gE, gc_id, gc_ex, List.getElem?_cons_zero, List.getElem?_cons_succ, bind_ok, bind_ex, st_ok, st_ex, r_some, cmpD, binD, runS, eDef_eq, Tg.sets, set_tp, setE_z, setE_s, Option.map_some, List.set_cons_zero, List.set_cons_succ, Bool.false_eq_true, if_false, tru_bl, Bool.not_true, Bool.not_false, h3', h5, h6, ix3_1, icmp, hix]
            · have h6 : g = 5 := by omega
              subst h6
              have h3' : (xs.length : Int) + 1 < a := by simpa using h3
              simp [List.length_cons, List.length_nil, if_true, List.map_cons, List.map_nil, List.replicate_zero, List.replicate_succ, List.append_nil, List.cons_append, List.nil_append, seq_eq, sRet, sNx, sIf, sExpr, sSet, sRaise, eAn, eOr, eNo, eUn, eBin, eApp, esCons, esNil, eIf, eChain, eVar, eK, tNo, tTru, tBl, tAn, tOr', gE, gc_id, gc_ex, List.getElem?_cons_zero, List.getElem?_cons_succ, bind_ok, bind_ex, st_ok, st_ex, r_some, cmpD, binD, runS, eDef_eq, Tg.sets, set_tp, setE_z, setE_s, Option.map_some, List.set_cons_zero, List.set_cons_succ, Bool.false_eq_true, if_false, tru_bl, Bool.not_true, Bool.not_false, h3', ix3_1, icmp]
          · have h4 : a ≤ ((x :: xs).length : Int) := by omega
            have : startsB a g (x :: xs) = true := by
              unfold startsB
              rw [decide_eq_true h4]; rfl
            rw [this]
            have h3' : ¬ (xs.length : Int) + 1 < a := by simpa using h3
            simp [List.length_cons, List.length_nil, if_true, List.map_cons, List.map_nil, List.replicate_zero, List.replicate_succ, List.append_nil, List.cons_append, List.nil_append, seq_eq, sRet, sNx, sIf, sExpr, sSet, sRaise, eAn, eOr, eNo, eUn, eBin, eApp, esCons, esNil, eIf, eChain, eVar, eK, tNo, tTru, tBl, tAn, tOr', gE, gc_id, gc_ex, List.getElem?_cons_zero, List.getElem?_cons_succ, bind_ok, bind_ex, st_ok, st_ex, r_some, cmpD, binD, runS, eDef_eq, Tg.sets, set_tp, setE_z, setE_s, Option.map_some, List.set_cons_zero, List.set_cons_succ, Bool.false_eq_true, if_false, tru_bl, Bool.not_true, Bool.not_false, h3']
      · have hbb : begB a g (busy, ages, phase) coming = false := by rw [hbeg]; simp [h2]
        have h2' : (phase == 0) = false := by simpa using h2
        rw [hbb]
        simp [List.length_cons, List.length_nil, if_true, List.map_cons, List.map_nil, List.replicate_zero, List.replicate_succ, List.append_nil, List.cons_append, List.nil_append, seq_eq, sRet, sNx, sIf, sExpr, sSet, sRaise, eAn, eOr, eNo, eUn, eBin, eApp, esCons, esNil, eIf, eChain, eVar, eK, tNo, tTru, tBl, tAn, tOr', gE, gc_id, gc_ex, List.getElem?_cons_zero, List.getElem?_cons_succ, bind_ok, bind_ex, st_ok, st_ex, r_some, cmpD, binD, runS, eDef_eq, Tg.sets, set_tp, setE_z, setE_s, Option.map_some, List.set_cons_zero, List.set_cons_succ, Bool.false_eq_true, if_false, tru_bl, Bool.not_true, Bool.not_false, h1, h2']
    · have hbb : begB a g (busy, ages, phase) coming = false := by rw [hbeg]; simp [h1]
      have h1' : (busy == 0) = false := by simpa using h1
      rw [hbb]
      simp [List.length_cons, List.length_nil, if_true, List.map_cons, List.map_nil, List.replicate_zero, List.replicate_succ, List.append_nil, List.cons_append, List.nil_append, seq_eq, sRet, sNx, sIf, sExpr, sSet, sRaise, eAn, eOr, eNo, eUn, eBin, eApp, esCons, esNil, eIf, eChain, eVar, eK, tNo, tTru, tBl, tAn, tOr', gE, gc_id, gc_ex, List.getElem?_cons_zero, List.getElem?_cons_succ, bind_ok, bind_ex, st_ok, st_ex, r_some, cmpD, binD, runS, eDef_eq, Tg.sets, set_tp, setE_z, setE_s, Option.map_some, List.set_cons_zero, List.set_cons_succ, Bool.false_eq_true, if_false, tru_bl, Bool.not_true, Bool.not_false, h1']
  -- what is taken
  have hminnn : 0 ≤ (if r < ((qOf ages coming).length : Int) then r else ((qOf ages coming).length : Int)) := by split <;> omega
  have hmin : (if r < ((qOf ages coming).length : Int) then r else ((qOf ages coming).length : Int)) = (if ((qOf ages coming).length : Int) < r then ((qOf ages coming).length : Int) else r) := by split <;> split <;> omega
  have s4 : ∀ (k : S) (x7 x11 : Option D), sSeq (sSet (.nm 6) (eK (.int 0))) (sSeq (sIf (tTru (eVar 5)) (sSeq (sSet (.tp [(.nm 6), (.nm 9)]) (eApp tupP (esCons (gE (eApp minD (esCons (gE (eApp lenD (esCons (eVar 4) esNil))) (esCons (gE (eBin ixD (eVar 0) (eK (.int 0)))) esNil)))) (esCons (gE (eBin ixD (eVar 0) (eK (.int 1)))) esNil)))) sNx) sNx) k)
        [some (.tup [.int r, .int l, .int p]), some (.tup [.int a, .int g, .int b]), some (stD (busy, ages, phase)), some (.int coming), some (.loc (μ.length + 3)), some (.bl (begB a g (busy, ages, phase) coming)), none, x7, some (.int phase), some (.int busy), some (.tup (ages.map .int)), x11] M
      = k [some (.tup [.int r, .int l, .int p]), some (.tup [.int a, .int g, .int b]), some (stD (busy, ages, phase)), some (.int coming), some (.loc (μ.length + 3)), some (.bl (begB a g (busy, ages, phase) coming)), some (.int (takenOf r a g (busy, ages, phase) coming)), x7, some (.int phase), some (.int (busyOf l a g (busy, ages, phase) coming)), some (.tup (ages.map .int)), x11] M := by
    intro k x7 x11
    unfold takenOf busyOf
    rw [← hmin]
    simp only [List.length_cons, List.length_nil, if_true, List.map_cons, List.map_nil, List.replicate_zero, List.replicate_succ, List.append_nil, List.cons_append, List.nil_append, seq_eq, sRet, sNx, sIf, sExpr, sSet, sRaise, eAn, eOr, eNo, eUn, eBin, eApp, esCons, esNil, eIf, eChain, eVar, eK, tNo, tTru, tBl, tAn, tOr', gE, gc_id, gc_ex, List.getElem?_cons_zero, List.getElem?_cons_succ, bind_ok, bind_ex, st_ok, st_ex, r_some, cmpD, binD, runS, eDef_eq, Tg.sets, set_tp, setE_z, setE_s, Option.map_some, List.set_cons_zero, List.set_cons_succ, Bool.false_eq_true, if_false, tru_bl, Bool.not_true, Bool.not_false, hlen, ix3_0, ix3_1, minD_int, tup2]
    cases begB a g (busy, ages, phase) coming <;> simp [List.length_cons, List.length_nil, if_true, List.map_cons, List.map_nil, List.replicate_zero, List.replicate_succ, List.append_nil, List.cons_append, List.nil_append, seq_eq, sRet, sNx, sIf, sExpr, sSet, sRaise, eAn, eOr, eNo, eUn, eBin, eApp, esCons, esNil, eIf, eChain, eVar, eK, tNo, tTru, tBl, tAn, tOr', gE, gc_id, gc_ex, List.getElem?_cons_zero, List.getElem?_cons_succ, bind_ok, bind_ex, st_ok, st_ex, r_some, cmpD, binD, runS, eDef_eq, Tg.sets, set_tp, setE_z, setE_s, Option.map_some, List.set_cons_zero, List.set_cons_succ, Bool.false_eq_true, if_false, tru_bl, Bool.not_true, Bool.not_false]
  -- the rest
  have htn := taken_nn (r := r) (a := a) (g := g) (s := (busy, ages, phase)) (coming := coming) hr
  obtain ⟨tk, htk⟩ : ∃ n : Nat, takenOf r a g (busy, ages, phase) coming = n := ⟨_, (Int.toNat_of_nonneg htn).symm⟩
  have hleft : leftOf r a g (busy, ages, phase) coming = (qOf ages coming).drop tk := by unfold leftOf; rw [htk]; rfl
  have hsl : slD (.loc (μ.length + 3)) (some (tk : Int)) none M = some (.loc M.length, M ++ [.lst ((leftOf r a g (busy, ages, phase) coming).map .int)]) := by
    have : slD (.loc (μ.length + 3)) (some (tk : Int)) none M = some (.loc M.length, M ++ [.lst (cutD ((qOf ages coming).map .int) (some (tk : Int)) none)]) := by
      simp only [slD, seqD, hat]
    rw [this, cut_from, hleft, List.map_drop]
  have hll : (leftOf r a g (busy, ages, phase) coming).length ≤ 1001 := by rw [hleft, List.length_drop]; omega
  have hbn : 0 ≤ busyOf l a g (busy, ages, phase) coming := by
    unfold busyOf
    split
    · exact hlnn
    · exact hbz
  refine ⟨[.lst (ages.map .int), .lst [.int 0], .lst (if coming = 1 then [.int 0] else []), .lst ((qOf ages coming).map .int), .lst ((leftOf r a g (busy, ages, phase) coming).map .int)], ?_⟩
  unfold m__law_tick
  rw [seq_eq, s1]
  simp only []
  rw [seq_eq, s2]
  simp only []
  rw [s3, s4, htk]
  have hlc := eLc_lst (it := iSeq (eVar 7)) (tg := .nm 11) (ifs := tYesT) (elt := eBin (binD .Add) (eVar 11) (eK (.int 1))) (own := [11])
    (ρ := [some (.tup [.int r, .int l, .int p]), some (.tup [.int a, .int g, .int b]), some (stD (busy, ages, phase)), some (.int coming), some (.loc (μ.length + 3)), some (.bl (begB a g (busy, ages, phase) coming)), some (.int tk), some (.loc M.length), some (.int ((phase + 1) % b)), some (.int (busyOf l a g (busy, ages, phase) coming)), some (.tup (ages.map .int)), none]) (μ := M ++ [.lst ((leftOf r a g (busy, ages, phase) coming).map .int)]) (μ1 := M ++ [.lst ((leftOf r a g (busy, ages, phase) coming).map .int)]) (n := M.length) D.int (leftOf r a g (busy, ages, phase) coming) (fun _ => true) (fun x => .int (x + 1)) (by omega) (iSeq_loc (xs := (leftOf r a g (busy, ages, phase) coming).map .int) rfl lst_at_new) lst_at_new rfl
    (fun x _ acc => ⟨_, rfl, rfl, fun _ => rfl⟩)
  rw [List.filter_eq_self.mpr (fun _ _ => rfl)] at hlc
  have ht := tup_lc hlc (lows_map fun _ _ => rfl)
  have hph2 : (if phase + 1 == b then (0 : Int) else phase + 1) = (phase + 1) % b := by
    by_cases he : phase + 1 = b
    · simp [he]
    · have : (phase + 1 == b) = false := by simpa using he
      rw [this]
      simp only [Bool.false_eq_true, if_false]
      exact (Int.emod_eq_of_lt (by omega) (by omega)).symm
  have hlen2 : lenD [.loc M.length] (M ++ [.lst ((leftOf r a g (busy, ages, phase) coming).map .int)]) = some (.int (leftOf r a g (busy, ages, phase) coming).length, M ++ [.lst ((leftOf r a g (busy, ages, phase) coming).map .int)]) := by rw [lenD_seq (th := .loc M.length) (xs := (leftOf r a g (busy, ages, phase) coming).map .int) lst_at_new, List.length_map]
  have s5 : sSet (.nm 8) (eIf (tBl (gE (eBin (cmpD .Eq) (eBin (binD .Add) (eVar 8) (eK (.int 1))) (gE (eBin ixD (eVar 1) (eK (.int 2))))))) (eK (.int 0)) (eBin (binD .Add) (eVar 8) (eK (.int 1))))
      [some (.tup [.int r, .int l, .int p]), some (.tup [.int a, .int g, .int b]), some (stD (busy, ages, phase)), some (.int coming), some (.loc (μ.length + 3)), some (.bl (begB a g (busy, ages, phase) coming)), some (.int tk), some (.loc M.length), some (.int phase), some (.int (busyOf l a g (busy, ages, phase) coming)), some (.tup (ages.map .int)), none] (M ++ [.lst ((leftOf r a g (busy, ages, phase) coming).map .int)])
      = .nx [some (.tup [.int r, .int l, .int p]), some (.tup [.int a, .int g, .int b]), some (stD (busy, ages, phase)), some (.int coming), some (.loc (μ.length + 3)), some (.bl (begB a g (busy, ages, phase) coming)), some (.int tk), some (.loc M.length), some (.int ((phase + 1) % b)), some (.int (busyOf l a g (busy, ages, phase) coming)), some (.tup (ages.map .int)), none] (M ++ [.lst ((leftOf r a g (busy, ages, phase) coming).map .int)]) := by
    rw [← hph2]
    simp only [List.length_cons, List.length_nil, if_true, List.map_cons, List.map_nil, List.replicate_zero, List.replicate_succ, List.append_nil, List.cons_append, List.nil_append, seq_eq, sRet, sNx, sIf, sExpr, sSet, sRaise, eAn, eOr, eNo, eUn, eBin, eApp, esCons, esNil, eIf, eChain, eVar, eK, tNo, tTru, tBl, tAn, tOr', gE, gc_id, gc_ex, List.getElem?_cons_zero, List.getElem?_cons_succ, bind_ok, bind_ex, st_ok, st_ex, r_some, cmpD, binD, runS, eDef_eq, Tg.sets, set_tp, setE_z, setE_s, Option.map_some, List.set_cons_zero, List.set_cons_succ, Bool.false_eq_true, if_false, tru_bl, Bool.not_true, Bool.not_false, addD_int, ix3_2, eqD_int]
    cases (phase + 1 == b) <;> simp [List.length_cons, List.length_nil, if_true, List.map_cons, List.map_nil, List.replicate_zero, List.replicate_succ, List.append_nil, List.cons_append, List.nil_append, seq_eq, sRet, sNx, sIf, sExpr, sSet, sRaise, eAn, eOr, eNo, eUn, eBin, eApp, esCons, esNil, eIf, eChain, eVar, eK, tNo, tTru, tBl, tAn, tOr', gE, gc_id, gc_ex, List.getElem?_cons_zero, List.getElem?_cons_succ, bind_ok, bind_ex, st_ok, st_ex, r_some, cmpD, binD, runS, eDef_eq, Tg.sets, set_tp, setE_z, setE_s, Option.map_some, List.set_cons_zero, List.set_cons_succ, Bool.false_eq_true, if_false, tru_bl, Bool.not_true, Bool.not_false]
  have s6 : sSet (.nm 7) (eSl (eVar 4) (oSo (eVar 6)) oNo) [some (.tup [.int r, .int l, .int p]), some (.tup [.int a, .int g, .int b]), some (stD (busy, ages, phase)), some (.int coming), some (.loc (μ.length + 3)), some (.bl (begB a g (busy, ages, phase) coming)), some (.int tk), none, some (.int phase), some (.int (busyOf l a g (busy, ages, phase) coming)), some (.tup (ages.map .int)), none] M
      = .nx [some (.tup [.int r, .int l, .int p]), some (.tup [.int a, .int g, .int b]), some (stD (busy, ages, phase)), some (.int coming), some (.loc (μ.length + 3)), some (.bl (begB a g (busy, ages, phase) coming)), some (.int tk), some (.loc M.length), some (.int phase), some (.int (busyOf l a g (busy, ages, phase) coming)), some (.tup (ages.map .int)), none] (M ++ [.lst ((leftOf r a g (busy, ages, phase) coming).map .int)]) := by
    simp only [List.length_cons, List.length_nil, if_true, List.map_cons, List.map_nil, List.replicate_zero, List.replicate_succ, List.append_nil, List.cons_append, List.nil_append, seq_eq, sRet, sNx, sIf, sExpr, sSet, sRaise, eAn, eOr, eNo, eUn, eBin, eApp, esCons, esNil, eIf, eChain, eVar, eK, tNo, tTru, tBl, tAn, tOr', gE, gc_id, gc_ex, List.getElem?_cons_zero, List.getElem?_cons_succ, bind_ok, bind_ex, st_ok, st_ex, r_some, cmpD, binD, runS, eDef_eq, Tg.sets, set_tp, setE_z, setE_s, Option.map_some, List.set_cons_zero, List.set_cons_succ, Bool.false_eq_true, if_false, tru_bl, Bool.not_true, Bool.not_false, eSl, oSo, oNo, hsl]
  rw [seq_eq, s6]
  simp only []
  rw [seq_eq, s5]
  have hbz2 : busyOf l a g (busy, ages, phase) coming - (if decide (0 < busyOf l a g (busy, ages, phase) coming) = true then 1 else 0) = (if busyOf l a g (busy, ages, phase) coming - 1 > 0 then busyOf l a g (busy, ages, phase) coming - 1 else 0) := by
    by_cases h1 : 0 < busyOf l a g (busy, ages, phase) coming
    · simp only [h1, decide_true, if_true]
      split <;> omega
    · simp only [h1, decide_false, Bool.false_eq_true, if_false]
      split <;> omega
  have hout : outD (stepP r l a g b (busy, ages, phase) coming) = .tup [.tup [.int (if busyOf l a g (busy, ages, phase) coming - 1 > 0 then busyOf l a g (busy, ages, phase) coming - 1 else 0), .tup (((leftOf r a g (busy, ages, phase) coming).map (· + 1)).map .int), .int ((phase + 1) % b)], .int (takenOf r a g (busy, ages, phase) coming), .int (leftOf r a g (busy, ages, phase) coming).length] := rfl
  have hm : ((leftOf r a g (busy, ages, phase) coming).map (· + 1)).map D.int = (leftOf r a g (busy, ages, phase) coming).map fun x => D.int (x + 1) := by rw [List.map_map]; rfl
  rw [hout, hm, htk, ← hbz2]
  generalize gE (eApp tupleD (esCons (eLc (iSeq (eVar 7)) (.nm 11) tYesT (eBin (binD .Add) (eVar 11) (eK (.int 1))) [11]) esNil)) = Z at ht ⊢
  simp only [List.length_cons, List.length_nil, if_true, List.map_cons, List.map_nil, List.replicate_zero, List.replicate_succ, List.append_nil, List.cons_append, List.nil_append, seq_eq, sRet, sNx, sIf, sExpr, sSet, sRaise, eAn, eOr, eNo, eUn, eBin, eApp, esCons, esNil, eIf, eChain, eVar, eK, tNo, tTru, tBl, tAn, tOr', gE, gc_id, gc_ex, List.getElem?_cons_zero, List.getElem?_cons_succ, bind_ok, bind_ex, st_ok, st_ex, r_some, cmpD, binD, runS, eDef_eq, Tg.sets, set_tp, setE_z, setE_s, Option.map_some, List.set_cons_zero, List.set_cons_succ, Bool.false_eq_true, if_false, tru_bl, Bool.not_true, Bool.not_false, ht, icmp, intD_bl, subD_int, tup3, hlen2]
  simp [M]
end Ev

set_option Elab.async false
set_option linter.all false
set_option maxRecDepth 100000
set_option maxHeartbeats 4000000
namespace Ev
open PySem PySem.Spec PyProof.Rows L2
-- paid_in: 0 machine, 1 taken, 2 waiting
noncomputable def m_paid_in (call : Tab) : S := (sSeq (sRet (eBin (binD .Add) (eBin (binD .Mult) (gE (eBin ixD (eVar 0) (eK (.int 2)))) (gE (eApp intD (esCons (gE (eBin (cmpD .Gt) (eVar 1) (eK (.int 0)))) esNil)))) (eVar 2))) sNx)
-- followed: 0 machine, 1 rule, 2 row, 3 stand, 4 found, 5 coming, 6 taken, 7 waiting
noncomputable def followed_b1 (call : Tab) : S := (sSeq (sSet (.tp [(.nm 3), (.nm 6), (.nm 7)]) (eDef call "step" (esCons (eVar 0) (esCons (eVar 1) (esCons (eVar 3) (esCons (eVar 5) esNil)))))) (sSeq (sExpr (eMt "list" appendD (eVar 4) (esCons (eApp tupP (esCons (eVar 6) (esCons (eVar 7) esNil))) esNil))) sNx))
noncomputable def m_followed (call : Tab) : S := (sSeq (sSet (.nm 3) (eK (.tup [.int 0, .tup [], .int 0]))) (sSeq (sSet (.nm 4) (eApp lstP esNil)) (sSeq (sFor (iSeq (eVar 2)) (.nm 5) (followed_b1 call)) (sSeq (sRet (eApp tupP (esCons (eVar 3) (esCons (eVar 4) esNil)))) sNx))))
-- total: 0 machine, 1 pairs, 2 taken, 3 waiting
noncomputable def m_total (call : Tab) : S := (sSeq (sRet (gE (eApp sumD (esCons (eLc (iSeq (eVar 1)) (.tp [(.nm 2), (.nm 3)]) tYesT (eDef call "paid_in" (esCons (eVar 0) (esCons (eVar 2) (esCons (eVar 3) esNil)))) [2, 3]) esNil)))) sNx)
-- _law_led: 0 machine, 1 rule, 2 row, 3 coming, 4 stand, 5 found, 6 taken, 7 waiting
noncomputable def _law_led_b1 (call : Tab) : S := (sSeq (sSet (.tp [(.nm 4), (.nm 6), (.nm 7)]) (eDef call "_law_tick" (esCons (eVar 0) (esCons (eVar 1) (esCons (eVar 4) (esCons (eVar 3) esNil)))))) (sSeq (sExpr (eMt "list" appendD (eVar 5) (esCons (eApp tupP (esCons (eVar 6) (esCons (eVar 7) esNil))) esNil))) sNx))
noncomputable def m__law_led (call : Tab) : S := (sSeq (sSet (.tp [(.nm 4), (.nm 5)]) (eApp tupP (esCons (eApp tupP (esCons (eK (.int 0)) (esCons (eApp tupP esNil) (esCons (eK (.int 0)) esNil)))) (esCons (eApp lstP esNil) esNil)))) (sSeq (sFor (iSeq (eVar 2)) (.nm 3) (_law_led_b1 call)) (sSeq (sRet (eApp tupP (esCons (eVar 4) (esCons (eVar 5) esNil)))) sNx)))
-- _law_bill: 0 machine, 1 pairs, 2 taken, 3 waiting
noncomputable def m__law_bill (call : Tab) : S := (sSeq (sRet (gE (eApp sumD (esCons (eLc (iSeq (eVar 1)) (.tp [(.nm 2), (.nm 3)]) tYesT (eBin (binD .Add) (eBin (binD .Mult) (gE (eBin ixD (eVar 0) (eK (.int 2)))) (gE (eApp intD (esCons (gE (eBin (cmpD .Gt) (eVar 2) (eK (.int 0)))) esNil)))) (eVar 3)) [2, 3]) esNil)))) sNx)
/-! ### rows led tick by tick -/
def led (r l a g b : Int) (row : List Int) : Stand × List (Int × Int) := row.foldl (fun q x => ((stepP r l a g b q.1 x).1, q.2 ++ [(stepP r l a g b q.1 x).2])) ((0, [], 0), [])
theorem led_snoc {r l a g b : Int} {row : List Int} {x : Int} : led r l a g b (row ++ [x]) = ((stepP r l a g b (led r l a g b row).1 x).1, (led r l a g b row).2 ++ [(stepP r l a g b (led r l a g b row).1 x).2]) := by
  unfold led; rw [List.foldl_append]; rfl
/-- what holds of stands -/
structure StOk (b : Int) (n : Nat) (s : Stand) : Prop where
  busy : 0 ≤ s.1
  ph : 0 ≤ s.2.2
  pb : s.2.2 < b
  len : s.2.1.length ≤ n
theorem StOk.step {r l a g b : Int} {n : Nat} {s : Stand} (h : StOk b n s) (hb : 0 < b) (x : Int) : StOk b (n + 1) (stepP r l a g b s x).1 where
  busy := by
    show 0 ≤ (if busyOf l a g s x - 1 > 0 then busyOf l a g s x - 1 else 0)
    by_cases h : busyOf l a g s x - 1 > 0
    · rw [if_pos h]; omega
    · rw [if_neg h]; omega
  ph := Int.emod_nonneg _ (by omega)
  pb := Int.emod_lt_of_pos _ hb
  len := by
    show ((leftOf r a g s x).map (· + 1)).length ≤ n + 1
    rw [List.length_map]
    unfold leftOf
    rw [List.length_drop]
    have := qOf_len (ages := s.2.1) (coming := x)
    have := h.len
    omega
theorem led_ind (P : List Int → Stand → Prop) {r l a g b : Int} (h0 : P [] (0, [], 0)) (hs : ∀ row x s, P row s → P (row ++ [x]) (stepP r l a g b s x).1) : ∀ row, P row (led r l a g b row).1 := fun row => by
  have : ∀ m row, row.length = m → P row (led r l a g b row).1 := fun m => by
    induction m with
    | zero => intro row h; rw [List.length_eq_zero_iff.mp h]; exact h0
    | succ m ih =>
      intro row h
      obtain ⟨pre, x, rfl⟩ : ∃ pre x, row = pre ++ [x] := ⟨row.dropLast, row.getLast (by intro e; rw [e] at h; cases h), (List.dropLast_concat_getLast _).symm⟩
      rw [led_snoc]
      exact hs _ _ _ (ih pre (by simpa using h))
  exact this _ row rfl
theorem led_ok {r l a g b : Int} (hb : 0 < b) (row : List Int) : StOk b row.length (led r l a g b row).1 :=
  led_ind (fun row s => StOk b row.length s) ⟨by decide, by decide, hb, Nat.zero_le _⟩ (fun row x s h => by rw [List.length_append]; exact h.step hb x) row
theorem led_len {r l a g b : Int} (row : List Int) : (led r l a g b row).2.length = row.length := by
  have : ∀ m row, row.length = m → (led r l a g b row).2.length = row.length := fun m => by
    induction m with
    | zero => intro row h; rw [List.length_eq_zero_iff.mp h]; rfl
    | succ m ih =>
      intro row h
      obtain ⟨pre, x, rfl⟩ : ∃ pre x, row = pre ++ [x] := ⟨row.dropLast, row.getLast (by intro e; rw [e] at h; cases h), (List.dropLast_concat_getLast _).symm⟩
      rw [led_snoc]
      simp [ih pre (by simpa using h)]
  exact this _ row rfl
theorem low_st {n : Nat} {s : Stand} : D.low n (stD s) = true := by
  unfold stD
  simp only [D.low, D.lows, low_ints, Bool.and_self, Bool.and_true]
theorem low_p2 {n : Nat} {s : Int × Int} : D.low n (p2D s) = true := rfl
theorem lows_p2 {n : Nat} {ps : List (Int × Int)} : D.lows n (ps.map p2D) = true := lows_map fun _ _ => rfl
theorem gc_frz2 {μ ν : Mem} {x : D} {m : Nat} {xs : List D} (hx : D.low μ.length x = true) (hm : μ.length ≤ m) (h1 : lstAt (μ ++ ν) m = some xs) (h : D.lows μ.length xs = true) : gc true μ (.ok (.tup [x, .loc m]) (μ ++ ν)) = .ok (.tup [x, .fl xs]) μ := by
  have hl : ¬ (μ ++ ν).length = μ.length := fun e => by
    have hz : ν = [] := List.length_eq_zero_iff.mp (by rw [List.length_append] at e; omega)
    rw [hz, List.append_nil] at h1
    exact absurd (lstAt_lt h1) (by omega)
  have nl : ¬ D.low μ.length (.loc m) = true := fun e => by
    have := of_decide_eq_true (show decide (m < μ.length) = true from e)
    omega
  have nlt : ¬ D.low μ.length (.tup [x, .loc m]) = true := fun e => by
    simp only [D.low, D.lows, Bool.and_true, Bool.and_eq_true] at e
    exact nl e.2
  have hf1 : frz μ.length (μ ++ ν) 11 (.loc m) = some (.fl xs) := by
    unfold frz
    rw [if_neg nl]
    have h1' : lstA (μ ++ ν) m = some xs := h1
    simp only [h1', mapF_low h, Option.map_some]
  have hf : frz μ.length (μ ++ ν) 12 (.tup [x, .loc m]) = some (.tup [x, .fl xs]) := by
    unfold frz
    rw [if_neg nlt]
    simp only [mapF, frz_low hx, hf1, Option.map_some]
  unfold gc
  simp only [if_neg hl, if_pos KeepP.app, if_neg nlt, hf, List.take_left, if_true]
/-- the loop of followed, of the law's led -/
theorem p2_eq {o : Stand × Int × Int} : outD o = .tup [stD o.1, .int o.2.1, .int o.2.2] := rfl
def S_followed (c : Tab) : Prop := ∀ r l p a g b (row : List Int) μ, 0 ≤ r → 0 < b → row.length ≤ 100000 → run c "followed" [.tup [.int r, .int l, .int p], .tup [.int a, .int g, .int b], .tup (row.map .int)] μ = .ok (.tup [stD (led r l a g b row).1, .fl ((led r l a g b row).2.map p2D)]) μ
theorem ok_followed {c c' : Tab} (h : c' "followed" = some (mkFn 3 5 2 m_followed c)) (ss : S_step c) : S_followed c' := by
  intro r l p a g b row μ hr hb hl
  rw [run_mk h rfl, gcM2]
  have hloop := for_fix (it := iSeq (eVar 2)) (tg := .nm 5) (b := followed_b1 c) (ρ := [some (.tup [.int r, .int l, .int p]), some (.tup [.int a, .int g, .int b]), some (.tup (row.map .int)), some (stD (0, [], 0)), some (.loc μ.length), none, none, none]) (μ := μ ++ [.lst []]) (μ1 := μ ++ [.lst []]) D.int row
    (fun pre ρ μ' => ∃ x5 x6 x7, ρ = [some (.tup [.int r, .int l, .int p]), some (.tup [.int a, .int g, .int b]), some (.tup (row.map .int)), some (stD (led r l a g b pre).1), some (.loc μ.length), x5, x6, x7] ∧ μ' = μ ++ [.lst ((led r l a g b pre).2.map p2D)])
    (iSeq_tup rfl) ⟨none, none, none, rfl, rfl⟩
    (fun pre x post ρ μ' hp ⟨x5, x6, x7, e1, e2⟩ => by
      subst e1 e2
      have hpl : pre.length ≤ 100000 := by rw [hp] at hl; simp at hl; omega
      have hst := led_ok (r := r) (l := l) (a := a) (g := g) hb pre
      have hs := ss r l p a g b (led r l a g b pre).1 x (μ ++ [.lst ((led r l a g b pre).2.map p2D)]) hr hb (by have := hst.len; omega)
      have hap : appendD (.loc μ.length) [.tup [.int (stepP r l a g b (led r l a g b pre).1 x).2.1, .int (stepP r l a g b (led r l a g b pre).1 x).2.2]] (μ ++ [.lst ((led r l a g b pre).2.map p2D)]) = some (.non, μ ++ [.lst ((led r l a g b pre).2.map p2D ++ [.tup [.int (stepP r l a g b (led r l a g b pre).1 x).2.1, .int (stepP r l a g b (led r l a g b pre).1 x).2.2]])]) :=
        append_last (by rw [List.length_map, led_len]; omega)
      refine ⟨[some (.tup [.int r, .int l, .int p]), some (.tup [.int a, .int g, .int b]), some (.tup (row.map .int)), some (stD (led r l a g b pre).1), some (.loc μ.length), some (.int x), x6, x7], _, _, rfl, ?_, some (.int x), some (.int (stepP r l a g b (led r l a g b pre).1 x).2.1), some (.int (stepP r l a g b (led r l a g b pre).1 x).2.2), rfl, rfl⟩
      unfold followed_b1
      simp only [List.length_cons, List.length_nil, if_true, List.map_cons, List.map_nil, List.replicate_zero, List.replicate_succ, List.append_nil, List.cons_append, List.nil_append, seq_eq, sRet, sNx, sIf, sExpr, sSet, sRaise, eAn, eOr, eNo, eUn, eBin, eApp, esCons, esNil, eIf, eChain, eVar, eK, tNo, tTru, tBl, tAn, tOr', gE, gc_id, gc_ex, List.getElem?_cons_zero, List.getElem?_cons_succ, bind_ok, bind_ex, st_ok, st_ex, r_some, cmpD, binD, runS, eDef_eq, Tg.sets, set_tp, setE_z, setE_s, Option.map_some, List.set_cons_zero, List.set_cons_succ, Bool.false_eq_true, if_false, tru_bl, Bool.not_true, Bool.not_false, hs, p2_eq, eMt, kind_last, tup2, hap, led_snoc, List.map_append]
      rfl)
  obtain ⟨ρ', μ', h5, x5, x6, x7, e1, e2⟩ := hloop
  subst e1 e2
  have : runS (m_followed c [some (.tup [.int r, .int l, .int p]), some (.tup [.int a, .int g, .int b]), some (.tup (row.map .int)), none, none, none, none, none] μ) = .ok (.tup [stD (led r l a g b row).1, .loc μ.length]) (μ ++ [.lst ((led r l a g b row).2.map p2D)]) := by
    unfold m_followed
    have hs : sSeq (sSet (.nm 3) (eK (.tup [.int 0, .tup [], .int 0]))) (sSet (.nm 4) (eApp lstP esNil)) [some (.tup [.int r, .int l, .int p]), some (.tup [.int a, .int g, .int b]), some (.tup (row.map .int)), none, none, none, none, none] μ = .nx [some (.tup [.int r, .int l, .int p]), some (.tup [.int a, .int g, .int b]), some (.tup (row.map .int)), some (stD (0, [], 0)), some (.loc μ.length), none, none, none] (μ ++ [.lst []]) := rfl
    simp only [List.length_cons, List.length_nil, if_true, List.map_cons, List.map_nil, List.replicate_zero, List.replicate_succ, List.append_nil, List.cons_append, List.nil_append, seq_eq, sRet, sNx, sIf, sExpr, sSet, sRaise, eAn, eOr, eNo, eUn, eBin, eApp, esCons, esNil, eIf, eChain, eVar, eK, tNo, tTru, tBl, tAn, tOr', gE, gc_id, gc_ex, List.getElem?_cons_zero, List.getElem?_cons_succ, bind_ok, bind_ex, st_ok, st_ex, r_some, cmpD, binD, runS, eDef_eq, Tg.sets, set_tp, setE_z, setE_s, Option.map_some, List.set_cons_zero, List.set_cons_succ, Bool.false_eq_true, if_false, tru_bl, Bool.not_true, Bool.not_false, lst0]
    have h5' := h5
    unfold stD at h5'
    simp only [List.map_nil] at h5'
    rw [h5']
    simp only [List.length_cons, List.length_nil, if_true, List.map_cons, List.map_nil, List.replicate_zero, List.replicate_succ, List.append_nil, List.cons_append, List.nil_append, seq_eq, sRet, sNx, sIf, sExpr, sSet, sRaise, eAn, eOr, eNo, eUn, eBin, eApp, esCons, esNil, eIf, eChain, eVar, eK, tNo, tTru, tBl, tAn, tOr', gE, gc_id, gc_ex, List.getElem?_cons_zero, List.getElem?_cons_succ, bind_ok, bind_ex, st_ok, st_ex, r_some, cmpD, binD, runS, eDef_eq, Tg.sets, set_tp, setE_z, setE_s, Option.map_some, List.set_cons_zero, List.set_cons_succ, Bool.false_eq_true, if_false, tru_bl, Bool.not_true, Bool.not_false, tup2]
    rfl
  rw [show ([D.tup [.int r, .int l, .int p], .tup [.int a, .int g, .int b], .tup (row.map .int)].map some ++ List.replicate 5 none) = [some (.tup [.int r, .int l, .int p]), some (.tup [.int a, .int g, .int b]), some (.tup (row.map .int)), none, none, none, none, none] from rfl, this]
  exact gc_frz2 low_st (Nat.le_refl _) lst_at_new lows_p2
def S_law_led (c : Tab) : Prop := ∀ r l p a g b (row : List Int) μ, 0 ≤ r → 0 ≤ l → 1 ≤ a → g ≤ 5 → 0 < b → row.length ≤ 1000 → (∀ z ∈ row, z = 0 ∨ z = 1) → run c "_law_led" [.tup [.int r, .int l, .int p], .tup [.int a, .int g, .int b], .tup (row.map .int)] μ = .ok (.tup [stD (led r l a g b row).1, .fl ((led r l a g b row).2.map p2D)]) μ
theorem ok_law_led {c c' : Tab} (h : c' "_law_led" = some (mkFn 3 5 2 m__law_led c)) (ss : S_law_tick c) : S_law_led c' := by
  intro r l p a g b row μ hr hl0 ha hg hb hl h01
  rw [run_mk h rfl, gcM2]
  have hloop := for_fix (it := iSeq (eVar 2)) (tg := .nm 3) (b := _law_led_b1 c) (ρ := [some (.tup [.int r, .int l, .int p]), some (.tup [.int a, .int g, .int b]), some (.tup (row.map .int)), none, some (stD (0, [], 0)), some (.loc μ.length), none, none]) (μ := μ ++ [.lst []]) (μ1 := μ ++ [.lst []]) D.int row
    (fun pre ρ μ' => ∃ x5 x6 x7, ρ = [some (.tup [.int r, .int l, .int p]), some (.tup [.int a, .int g, .int b]), some (.tup (row.map .int)), x5, some (stD (led r l a g b pre).1), some (.loc μ.length), x6, x7] ∧ μ' = μ ++ [.lst ((led r l a g b pre).2.map p2D)])
    (iSeq_tup rfl) ⟨none, none, none, rfl, rfl⟩
    (fun pre x post ρ μ' hp ⟨x5, x6, x7, e1, e2⟩ => by
      subst e1 e2
      have hpl : pre.length ≤ 1000 := by rw [hp] at hl; simp at hl; omega
      have hst := led_ok (r := r) (l := l) (a := a) (g := g) hb pre
      have hs := ss r l p a g b (led r l a g b pre).1 x (μ ++ [.lst ((led r l a g b pre).2.map p2D)]) hr hl0 ha hg hst.busy hst.ph hst.pb (by have := hst.len; omega) (h01 x (by rw [hp]; simp))
      have hap : appendD (.loc μ.length) [.tup [.int (stepP r l a g b (led r l a g b pre).1 x).2.1, .int (stepP r l a g b (led r l a g b pre).1 x).2.2]] (μ ++ [.lst ((led r l a g b pre).2.map p2D)]) = some (.non, μ ++ [.lst ((led r l a g b pre).2.map p2D ++ [.tup [.int (stepP r l a g b (led r l a g b pre).1 x).2.1, .int (stepP r l a g b (led r l a g b pre).1 x).2.2]])]) :=
        append_last (by rw [List.length_map, led_len]; omega)
      refine ⟨[some (.tup [.int r, .int l, .int p]), some (.tup [.int a, .int g, .int b]), some (.tup (row.map .int)), some (.int x), some (stD (led r l a g b pre).1), some (.loc μ.length), x6, x7], _, _, rfl, ?_, some (.int x), some (.int (stepP r l a g b (led r l a g b pre).1 x).2.1), some (.int (stepP r l a g b (led r l a g b pre).1 x).2.2), rfl, rfl⟩
      unfold _law_led_b1
      simp only [List.length_cons, List.length_nil, if_true, List.map_cons, List.map_nil, List.replicate_zero, List.replicate_succ, List.append_nil, List.cons_append, List.nil_append, seq_eq, sRet, sNx, sIf, sExpr, sSet, sRaise, eAn, eOr, eNo, eUn, eBin, eApp, esCons, esNil, eIf, eChain, eVar, eK, tNo, tTru, tBl, tAn, tOr', gE, gc_id, gc_ex, List.getElem?_cons_zero, List.getElem?_cons_succ, bind_ok, bind_ex, st_ok, st_ex, r_some, cmpD, binD, runS, eDef_eq, Tg.sets, set_tp, setE_z, setE_s, Option.map_some, List.set_cons_zero, List.set_cons_succ, Bool.false_eq_true, if_false, tru_bl, Bool.not_true, Bool.not_false, hs, p2_eq, eMt, kind_last, tup2, hap, led_snoc, List.map_append]
      rfl)
  obtain ⟨ρ', μ', h5, x5, x6, x7, e1, e2⟩ := hloop
  subst e1 e2
  have : runS (m__law_led c [some (.tup [.int r, .int l, .int p]), some (.tup [.int a, .int g, .int b]), some (.tup (row.map .int)), none, none, none, none, none] μ) = .ok (.tup [stD (led r l a g b row).1, .loc μ.length]) (μ ++ [.lst ((led r l a g b row).2.map p2D)]) := by
    unfold m__law_led
    simp only [List.length_cons, List.length_nil, if_true, List.map_cons, List.map_nil, List.replicate_zero, List.replicate_succ, List.append_nil, List.cons_append, List.nil_append, seq_eq, sRet, sNx, sIf, sExpr, sSet, sRaise, eAn, eOr, eNo, eUn, eBin, eApp, esCons, esNil, eIf, eChain, eVar, eK, tNo, tTru, tBl, tAn, tOr', gE, gc_id, gc_ex, List.getElem?_cons_zero, List.getElem?_cons_succ, bind_ok, bind_ex, st_ok, st_ex, r_some, cmpD, binD, runS, eDef_eq, Tg.sets, set_tp, setE_z, setE_s, Option.map_some, List.set_cons_zero, List.set_cons_succ, Bool.false_eq_true, if_false, tru_bl, Bool.not_true, Bool.not_false, lst0, tup0, tup3, tup2]
    have h5' := h5
    unfold stD at h5'
    simp only [List.map_nil] at h5'
    rw [h5']
    simp only [List.length_cons, List.length_nil, if_true, List.map_cons, List.map_nil, List.replicate_zero, List.replicate_succ, List.append_nil, List.cons_append, List.nil_append, seq_eq, sRet, sNx, sIf, sExpr, sSet, sRaise, eAn, eOr, eNo, eUn, eBin, eApp, esCons, esNil, eIf, eChain, eVar, eK, tNo, tTru, tBl, tAn, tOr', gE, gc_id, gc_ex, List.getElem?_cons_zero, List.getElem?_cons_succ, bind_ok, bind_ex, st_ok, st_ex, r_some, cmpD, binD, runS, eDef_eq, Tg.sets, set_tp, setE_z, setE_s, Option.map_some, List.set_cons_zero, List.set_cons_succ, Bool.false_eq_true, if_false, tru_bl, Bool.not_true, Bool.not_false, tup2]
    rfl
  rw [show ([D.tup [.int r, .int l, .int p], .tup [.int a, .int g, .int b], .tup (row.map .int)].map some ++ List.replicate 5 none) = [some (.tup [.int r, .int l, .int p]), some (.tup [.int a, .int g, .int b]), some (.tup (row.map .int)), none, none, none, none, none] from rfl, this]
  exact gc_frz2 low_st (Nat.le_refl _) lst_at_new lows_p2
/-! what ticks cost -/
def payP (p : Int) (x : Int × Int) : Int := p * (if 0 < x.1 then 1 else 0) + x.2
def billP (p : Int) (ps : List (Int × Int)) : Int := (ps.map (payP p)).sum
def S_paid_in (c : Tab) : Prop := ∀ r l p t w μ, -4294967296 < p → p < 4294967296 → run c "paid_in" [.tup [.int r, .int l, .int p], .int t, .int w] μ = .ok (.int (payP p (t, w))) μ
theorem ok_paid_in {c c' : Tab} (h : c' "paid_in" = some (mkFn 3 0 2 m_paid_in c)) : S_paid_in c' := by
  intro r l p t w μ h1 h2
  rw [run_mk h rfl, gcM2]
  unfold m_paid_in payP
  by_cases ht : 0 < t
  · simp [List.length_cons, List.length_nil, if_true, List.map_cons, List.map_nil, List.replicate_zero, List.replicate_succ, List.append_nil, List.cons_append, List.nil_append, seq_eq, sRet, sNx, sIf, sExpr, sSet, sRaise, eAn, eOr, eNo, eUn, eBin, eApp, esCons, esNil, eIf, eChain, eVar, eK, tNo, tTru, tBl, tAn, tOr', gE, gc_id, gc_ex, List.getElem?_cons_zero, List.getElem?_cons_succ, bind_ok, bind_ex, st_ok, st_ex, r_some, cmpD, binD, runS, eDef_eq, Tg.sets, set_tp, setE_z, setE_s, Option.map_some, List.set_cons_zero, List.set_cons_succ, Bool.false_eq_true, if_false, tru_bl, Bool.not_true, Bool.not_false, ix3_2, icmp, ht, intD_bl, mulD_s h1 h2 (show (-4294967296 : Int) < 1 by omega) (show (1 : Int) < 4294967296 by omega), addD_int]
  · simp [List.length_cons, List.length_nil, if_true, List.map_cons, List.map_nil, List.replicate_zero, List.replicate_succ, List.append_nil, List.cons_append, List.nil_append, seq_eq, sRet, sNx, sIf, sExpr, sSet, sRaise, eAn, eOr, eNo, eUn, eBin, eApp, esCons, esNil, eIf, eChain, eVar, eK, tNo, tTru, tBl, tAn, tOr', gE, gc_id, gc_ex, List.getElem?_cons_zero, List.getElem?_cons_succ, bind_ok, bind_ex, st_ok, st_ex, r_some, cmpD, binD, runS, eDef_eq, Tg.sets, set_tp, setE_z, setE_s, Option.map_some, List.set_cons_zero, List.set_cons_succ, Bool.false_eq_true, if_false, tru_bl, Bool.not_true, Bool.not_false, ix3_2, icmp, ht, intD_bl, mulD_s h1 h2 (show (-4294967296 : Int) < 0 by omega) (show (0 : Int) < 4294967296 by omega), addD_int]
def S_total (c : Tab) : Prop := ∀ r l p (ps : List (Int × Int)) μ, -4294967296 < p → p < 4294967296 → ps.length < 16777216 → run c "total" [.tup [.int r, .int l, .int p], .fl (ps.map p2D)] μ = .ok (.int (billP p ps)) μ
theorem ok_total {c c' : Tab} (h : c' "total" = some (mkFn 2 2 2 m_total c)) (s : S_paid_in c) : S_total c' := by
  intro r l p ps μ h1 h2 hl
  rw [run_mk h rfl, gcM2]
  have hlc := eLc_fix (it := iSeq (eVar 1)) (tg := .tp [.nm 2, .nm 3]) (ifs := tYesT) (elt := eDef c "paid_in" (esCons (eVar 0) (esCons (eVar 2) (esCons (eVar 3) esNil)))) (own := [2, 3]) (ρ := [some (.tup [.int r, .int l, .int p]), some (.fl (ps.map p2D)), none, none]) (μ := μ) (μ1 := μ) p2D ps (fun _ => true) (fun x => .int (payP p x)) hl (iSeq_fl rfl) rfl
    (fun x _ acc => ⟨[some (.tup [.int r, .int l, .int p]), some (.fl (ps.map p2D)), some (.int x.1), some (.int x.2)], rfl, rfl, fun _ => by
      simp only [List.length_cons, List.length_nil, if_true, List.map_cons, List.map_nil, List.replicate_zero, List.replicate_succ, List.append_nil, List.cons_append, List.nil_append, seq_eq, sRet, sNx, sIf, sExpr, sSet, sRaise, eAn, eOr, eNo, eUn, eBin, eApp, esCons, esNil, eIf, eChain, eVar, eK, tNo, tTru, tBl, tAn, tOr', gE, gc_id, gc_ex, List.getElem?_cons_zero, List.getElem?_cons_succ, bind_ok, bind_ex, st_ok, st_ex, r_some, cmpD, binD, runS, eDef_eq, Tg.sets, set_tp, setE_z, setE_s, Option.map_some, List.set_cons_zero, List.set_cons_succ, Bool.false_eq_true, if_false, tru_bl, Bool.not_true, Bool.not_false, s r l p x.1 x.2 _ h1 h2]⟩)
  rw [List.filter_eq_self.mpr (fun _ _ => rfl), show (ps.map fun x => D.int (payP p x)) = (ps.map (payP p)).map .int by rw [List.map_map]; rfl] at hlc
  have ht := sum_lc hlc
  have : runS (m_total c [some (.tup [.int r, .int l, .int p]), some (.fl (ps.map p2D)), none, none] μ) = .ok (.int (billP p ps)) μ := by
    unfold m_total
    rw [seq_eq]
    unfold sRet
    rw [ht]
    rfl
  rw [show ([D.tup [.int r, .int l, .int p], .fl (ps.map p2D)].map some ++ List.replicate 2 none) = [some (.tup [.int r, .int l, .int p]), some (.fl (ps.map p2D)), none, none] from rfl, this, gc_id]
def S_law_bill (c : Tab) : Prop := ∀ r l p (ps : List (Int × Int)) μ, -4294967296 < p → p < 4294967296 → ps.length < 16777216 → run c "_law_bill" [.tup [.int r, .int l, .int p], .fl (ps.map p2D)] μ = .ok (.int (billP p ps)) μ
theorem ok_law_bill {c c' : Tab} (h : c' "_law_bill" = some (mkFn 2 2 2 m__law_bill c)) : S_law_bill c' := by
  intro r l p ps μ h1 h2 hl
  rw [run_mk h rfl, gcM2]
  have hlc := eLc_fix (it := iSeq (eVar 1)) (tg := .tp [.nm 2, .nm 3]) (ifs := tYesT) (elt := (eBin (binD .Add) (eBin (binD .Mult) (gE (eBin ixD (eVar 0) (eK (.int 2)))) (gE (eApp intD (esCons (gE (eBin (cmpD .Gt) (eVar 2) (eK (.int 0)))) esNil)))) (eVar 3))) (own := [2, 3]) (ρ := [some (.tup [.int r, .int l, .int p]), some (.fl (ps.map p2D)), none, none]) (μ := μ) (μ1 := μ) p2D ps (fun _ => true) (fun x => .int (payP p x)) hl (iSeq_fl rfl) rfl
    (fun x _ acc => ⟨[some (.tup [.int r, .int l, .int p]), some (.fl (ps.map p2D)), some (.int x.1), some (.int x.2)], rfl, rfl, fun _ => by
      unfold payP
      by_cases ht : 0 < x.1
      · simp [List.length_cons, List.length_nil, if_true, List.map_cons, List.map_nil, List.replicate_zero, List.replicate_succ, List.append_nil, List.cons_append, List.nil_append, seq_eq, sRet, sNx, sIf, sExpr, sSet, sRaise, eAn, eOr, eNo, eUn, eBin, eApp, esCons, esNil, eIf, eChain, eVar, eK, tNo, tTru, tBl, tAn, tOr', gE, gc_id, gc_ex, List.getElem?_cons_zero, List.getElem?_cons_succ, bind_ok, bind_ex, st_ok, st_ex, r_some, cmpD, binD, runS, eDef_eq, Tg.sets, set_tp, setE_z, setE_s, Option.map_some, List.set_cons_zero, List.set_cons_succ, Bool.false_eq_true, if_false, tru_bl, Bool.not_true, Bool.not_false, ix3_2, icmp, ht, intD_bl, mulD_s h1 h2 (show (-4294967296 : Int) < 1 by omega) (show (1 : Int) < 4294967296 by omega), addD_int]
      · simp [List.length_cons, List.length_nil, if_true, List.map_cons, List.map_nil, List.replicate_zero, List.replicate_succ, List.append_nil, List.cons_append, List.nil_append, seq_eq, sRet, sNx, sIf, sExpr, sSet, sRaise, eAn, eOr, eNo, eUn, eBin, eApp, esCons, esNil, eIf, eChain, eVar, eK, tNo, tTru, tBl, tAn, tOr', gE, gc_id, gc_ex, List.getElem?_cons_zero, List.getElem?_cons_succ, bind_ok, bind_ex, st_ok, st_ex, r_some, cmpD, binD, runS, eDef_eq, Tg.sets, set_tp, setE_z, setE_s, Option.map_some, List.set_cons_zero, List.set_cons_succ, Bool.false_eq_true, if_false, tru_bl, Bool.not_true, Bool.not_false, ix3_2, icmp, ht, intD_bl, mulD_s h1 h2 (show (-4294967296 : Int) < 0 by omega) (show (0 : Int) < 4294967296 by omega), addD_int]⟩)
  rw [List.filter_eq_self.mpr (fun _ _ => rfl), show (ps.map fun x => D.int (payP p x)) = (ps.map (payP p)).map .int by rw [List.map_map]; rfl] at hlc
  have ht := sum_lc hlc
  have : runS (m__law_bill c [some (.tup [.int r, .int l, .int p]), some (.fl (ps.map p2D)), none, none] μ) = .ok (.int (billP p ps)) μ := by
    unfold m__law_bill
    rw [seq_eq]
    unfold sRet
    rw [ht]
    rfl
  rw [show ([D.tup [.int r, .int l, .int p], .fl (ps.map p2D)].map some ++ List.replicate 2 none) = [some (.tup [.int r, .int l, .int p]), some (.fl (ps.map p2D)), none, none] from rfl, this, gc_id]
end Ev

set_option Elab.async false
set_option linter.all false
set_option maxRecDepth 100000
set_option maxHeartbeats 4000000
namespace Ev
open PySem PySem.Spec PyProof.Rows L2
-- cost: 0 machine, 1 rule, 2 row
noncomputable def m_cost (call : Tab) : S := (sSeq (sExpr (eDef call "need_machine" (esCons (eVar 0) esNil))) (sSeq (sExpr (eDef call "need_rule" (esCons (eVar 0) (esCons (eVar 1) esNil)))) (sSeq (sExpr (eDef call "need_row" (esCons (eVar 2) esNil))) (sSeq (sRet (eDef call "total" (esCons (eVar 0) (esCons (gE (eBin ixD (eDef call "followed" (esCons (eVar 0) (esCons (eVar 1) (esCons (eVar 2) esNil)))) (eK (.int 1)))) esNil)))) sNx))))
-- begun: 0 machine, 1 rule, 2 row, 3 tick, 4 pair
noncomputable def m_begun (call : Tab) : S := (sSeq (sExpr (eDef call "need_machine" (esCons (eVar 0) esNil))) (sSeq (sExpr (eDef call "need_rule" (esCons (eVar 0) (esCons (eVar 1) esNil)))) (sSeq (sExpr (eDef call "need_row" (esCons (eVar 2) esNil))) (sSeq (sRet (eLc (iEn (esCons (gE (eBin ixD (eDef call "followed" (esCons (eVar 0) (esCons (eVar 1) (esCons (eVar 2) esNil)))) (eK (.int 1)))) esNil)) (.tp [(.nm 3), (.nm 4)]) (tBl (gE (eBin (cmpD .Gt) (gE (eBin ixD (eVar 4) (eK (.int 0)))) (eK (.int 0))))) (eApp tupP (esCons (eVar 3) (esCons (gE (eBin ixD (eVar 4) (eK (.int 0)))) esNil))) [3, 4])) sNx))))
-- stand_behind: 0 machine, 1 rule, 2 row
noncomputable def m_stand_behind (call : Tab) : S := (sSeq (sExpr (eDef call "need_machine" (esCons (eVar 0) esNil))) (sSeq (sExpr (eDef call "need_rule" (esCons (eVar 0) (esCons (eVar 1) esNil)))) (sSeq (sExpr (eDef call "need_row" (esCons (eVar 2) esNil))) (sSeq (sRet (gE (eBin ixD (eDef call "followed" (esCons (eVar 0) (esCons (eVar 1) (esCons (eVar 2) esNil)))) (eK (.int 0))))) sNx))))
/-! ### values that are checked -/
structure MOk (r l p : Int) : Prop where
  l1 : 1 ≤ l
  lr : l ≤ r
  r3 : r ≤ 3
  p1 : 1 ≤ p
  p9 : p ≤ 9
structure ROk (r l a g b : Int) : Prop where
  a1 : 1 ≤ a
  ar : a ≤ r
  g0 : 0 ≤ g
  g5 : g ≤ 5
  b12 : b = 1 ∨ b = 2
  lasts : (l + b - 1) / b * b ≤ r
abbrev mD (r l p : Int) : D := .tup [.int r, .int l, .int p]
theorem okTT_ints {μ : Mem} {xs : List Int} : okTT μ (.tup (xs.map .int)) := ⟨rfl, fun ys e x hx => by
  cases e
  obtain ⟨i, _, rfl⟩ := List.mem_map.mp hx
  rfl⟩
theorem okTT_3 {μ : Mem} {a b c : Int} : okTT μ (.tup [.int a, .int b, .int c]) := okTT_ints (xs := [a, b, c])
theorem mach_ok {r l p : Int} (h : MOk r l p) : machB (mD r l p) = true := by
  obtain ⟨h1, h2, h3, h4, h5⟩ := h
  have : 1 ≤ r := by omega
  simp [mD, machB, intB, h1, h2, h3, h4, h5, this]
theorem rule_ok {r l a g b : Int} (h : ROk r l a g b) : ruleB r l (ruleD a g b) = true := by
  obtain ⟨h1, h2, h3, h4, h5, h6⟩ := h
  have : 1 ≤ b ∧ b ≤ 2 := by omega
  simp [ruleD, ruleB, intB, h1, h2, h3, h4, this.1, this.2, h6]
theorem rule_inv {r l a g b : Int} (h : ruleB r l (ruleD a g b) = true) : ROk r l a g b := by
  simp [ruleD, ruleB, intB] at h
  obtain ⟨⟨⟨h1, h2⟩, h3, h4⟩, ⟨h5, h6⟩, h7⟩ := h
  exact ⟨h1, h2, h3, h4, by omega, h7⟩
theorem row_ok {row : List Int} (h : ∀ z ∈ row, z = 0 ∨ z = 1) (hl : row.length ≤ 60) : rowB (.tup (row.map .int)) = true := by
  unfold rowB
  simp only [List.length_map, hl, decide_true, Bool.true_and, List.all_map, List.all_eq_true]
  intro z hz
  rcases h z hz with rfl | rfl <;> rfl
/-- the rules drawn by the laws -/
theorem good_rule {r l a g b : Int} (h1 : 1 ≤ l) (h2 : l ≤ r) (h3 : r ≤ 3) (hb : b = 1 ∨ b = 2) (hg : goodB r l a g b = true) : ROk r l a g b := by
  unfold goodB at hg
  simp only [Bool.and_eq_true, decide_eq_true_eq] at hg
  obtain ⟨⟨q1, q2⟩, ⟨q3, q4⟩, q5⟩ := hg
  refine ⟨q1, q2, q3, q4, hb, ?_⟩
  have hll : l = 1 ∨ l = 2 ∨ l = 3 := by omega
  rcases hb with rfl | rfl <;> rcases hll with rfl | rfl | rfl <;> simp at q5 ⊢ <;> omega
theorem ra_mem {r l : Int} {k : Nat} {x : D} (h : x ∈ ra r l k) : ∃ a g b, x = ruleD a g b ∧ (b = 1 ∨ b = 2) ∧ goodB r l a g b = true := by
  obtain ⟨i, _, h⟩ := List.mem_flatMap.mp h
  obtain ⟨j, _, h⟩ := List.mem_flatMap.mp h
  obtain ⟨b, hb, rfl⟩ := List.mem_map.mp h
  obtain ⟨h1, h2⟩ := List.mem_filter.mp hb
  refine ⟨_, _, b, rfl, ?_, h2⟩
  simpa using h1
theorem ra_ne {r l : Int} (h1 : 1 ≤ l) (h2 : l ≤ r) : ra r l r.toNat ≠ [] := by
  intro e
  have h : ruleD 1 0 1 ∈ ra r l r.toNat := by
    refine List.mem_flatMap.mpr ⟨0, List.mem_range.mpr (by omega), List.mem_flatMap.mpr ⟨0, List.mem_range.mpr (by omega), List.mem_map.mpr ⟨1, ?_, rfl⟩⟩⟩
    rw [List.mem_filter]
    refine ⟨by simp, ?_⟩
    have : 1 ≤ r := by omega
    simp [goodB, this, h2]
  rw [e] at h
  cases h
/-- a rule drawn -/
theorem draw_rule {c : Tab} (se : S_every c) (ss : S_some c) {r l p : Int} (m : MOk r l p) {n : Nat} {μ : Mem} (hb : Bag μ n) : ∃ a g b μ', run c "_law_every_rule" [mD r l p] μ = .ok (.fl (ra r l r.toNat)) μ ∧ run c "_law_some" [.loc n, .fl (ra r l r.toNat)] μ = .ok (ruleD a g b) μ' ∧ Drawn μ n μ' ∧ ROk r l a g b := by
  have h1 := se r l (.int p) μ (by have := m.l1; have := m.lr; omega) (by have := m.r3; omega)
  obtain ⟨x, μ', e, d, hx⟩ := ss n (.fl (ra r l r.toNat)) _ μ hb rfl (by intro e; cases e) (ra_ne m.l1 m.lr) (by
    have := ra_len (r := r) (l := l) r.toNat
    have := m.r3
    omega)
  obtain ⟨a, g, b, rfl, hb', hg⟩ := ra_mem hx
  exact ⟨a, g, b, μ', h1, e, d, good_rule m.l1 m.lr m.r3 hb' hg⟩
/-! ### refusals -/
theorem gcM_ex {gm : Nat} {μ : Mem} {x : Exc} : gcM gm μ (.ex x μ) = .ex x μ := by
  match gm with
  | 0 => rfl
  | 1 => exact gc_ex (fz := false)
  | _ + 2 => exact gc_ex (fz := true)
theorem err_machine {c c' : Tab} {x : Str} {n k gm : Nat} {m : Tab → S} {rest : S} (h : c' x = some (mkFn n k gm m c)) (hm : m c = sSeq (sExpr (eDef c "need_machine" (esCons (eVar 0) esNil))) rest) (s : S_need_machine c) {v : D} {args : List D} {μ : Mem} (hl : args.length + 1 = n) (hv : okTT μ v) (hb : machB v = false) : run c' x (v :: args) μ = .ex { c := "InvalidMachine" } μ := by
  rw [run_mk h (by simpa using hl), hm]
  have : runS (sSeq (sExpr (eDef c "need_machine" (esCons (eVar 0) esNil))) rest ((v :: args).map some ++ List.replicate k none) μ) = .ex { c := "InvalidMachine" } μ := by
    simp only [List.length_cons, List.length_nil, if_true, List.map_cons, List.map_nil, List.replicate_zero, List.replicate_succ, List.append_nil, List.cons_append, List.nil_append, seq_eq, sRet, sNx, sIf, sExpr, sSet, sRaise, eAn, eOr, eNo, eUn, eBin, eApp, esCons, esNil, eIf, eChain, eVar, eK, tNo, tTru, tBl, tAn, tOr', gE, gc_id, gc_ex, List.getElem?_cons_zero, List.getElem?_cons_succ, bind_ok, bind_ex, st_ok, st_ex, r_some, cmpD, binD, runS, eDef_eq, Tg.sets, set_tp, setE_z, setE_s, Option.map_some, List.set_cons_zero, List.set_cons_succ, Bool.false_eq_true, if_false, tru_bl, Bool.not_true, Bool.not_false, s v μ hv, hb]
  rw [this]
  exact gcM_ex
theorem err_rule {c c' : Tab} {x : Str} {n k gm : Nat} {m : Tab → S} {rest : S} (h : c' x = some (mkFn n k gm m c)) (hm : m c = sSeq (sExpr (eDef c "need_machine" (esCons (eVar 0) esNil))) (sSeq (sExpr (eDef c "need_rule" (esCons (eVar 0) (esCons (eVar 1) esNil)))) rest)) (s : S_need_machine c) (s2 : S_need_rule c) {r l p : Int} (mo : MOk r l p) {v : D} {args : List D} {μ : Mem} (hl : args.length + 2 = n) (hv : okTT μ v) (hb : ruleB r l v = false) : run c' x (mD r l p :: v :: args) μ = .ex { c := "InvalidRule" } μ := by
  rw [run_mk h (by simpa using hl), hm]
  have : runS (sSeq (sExpr (eDef c "need_machine" (esCons (eVar 0) esNil))) (sSeq (sExpr (eDef c "need_rule" (esCons (eVar 0) (esCons (eVar 1) esNil)))) rest) ((mD r l p :: v :: args).map some ++ List.replicate k none) μ) = .ex { c := "InvalidRule" } μ := by
    simp only [List.length_cons, List.length_nil, if_true, List.map_cons, List.map_nil, List.replicate_zero, List.replicate_succ, List.append_nil, List.cons_append, List.nil_append, seq_eq, sRet, sNx, sIf, sExpr, sSet, sRaise, eAn, eOr, eNo, eUn, eBin, eApp, esCons, esNil, eIf, eChain, eVar, eK, tNo, tTru, tBl, tAn, tOr', gE, gc_id, gc_ex, List.getElem?_cons_zero, List.getElem?_cons_succ, bind_ok, bind_ex, st_ok, st_ex, r_some, cmpD, binD, runS, eDef_eq, Tg.sets, set_tp, setE_z, setE_s, Option.map_some, List.set_cons_zero, List.set_cons_succ, Bool.false_eq_true, if_false, tru_bl, Bool.not_true, Bool.not_false, s (mD r l p) μ okTT_3, mach_ok mo, s2 r l (.int p) v μ mo.l1 mo.lr mo.r3 hv, hb]
  rw [this]
  exact gcM_ex
/-- the checks of a machine, a rule, a row let go on -/
theorem go_machine {c : Tab} (s : S_need_machine c) {r l p : Int} (mo : MOk r l p) {μ : Mem} : run c "need_machine" [mD r l p] μ = .ok .non μ := by rw [s _ μ okTT_3, mach_ok mo]; rfl
theorem go_rule {c : Tab} (s : S_need_rule c) {r l p a g b : Int} (mo : MOk r l p) (ro : ROk r l a g b) {μ : Mem} : run c "need_rule" [mD r l p, ruleD a g b] μ = .ok .non μ := by
  have := s r l (.int p) (ruleD a g b) μ mo.l1 mo.lr mo.r3 okTT_3
  rw [rule_ok ro] at this
  exact this
theorem go_row {c : Tab} (s : S_need_row c) {row : List Int} (h : ∀ z ∈ row, z = 0 ∨ z = 1) (hl : row.length ≤ 60) {μ : Mem} : run c "need_row" [.tup (row.map .int)] μ = .ok .non μ := by rw [s _ μ okTT_ints, row_ok h hl]; rfl
structure Needs (c : Tab) : Prop where
  m : S_need_machine c
  r : S_need_rule c
  w : S_need_row c
section
variable {c c' : Tab} (N : Needs c) (sf : S_followed c)
include N sf
def S_cost (c : Tab) : Prop := ∀ r l p a g b (row : List Int) μ, MOk r l p → ROk r l a g b → (∀ z ∈ row, z = 0 ∨ z = 1) → row.length ≤ 60 → run c "cost" [mD r l p, ruleD a g b, .tup (row.map .int)] μ = .ok (.int (billP p (led r l a g b row).2)) μ
theorem ok_cost (h : c' "cost" = some (mkFn 3 0 2 m_cost c)) (st : S_total c) : S_cost c' := by
  intro r l p a g b row μ mo ro hr hl
  rw [run_mk h rfl, gcM2]
  have hb : 0 < b := by rcases ro.b12 with h | h <;> omega
  have h0 : 0 ≤ r := by have := mo.l1; have := mo.lr; omega
  have e1 := go_machine N.m mo (μ := μ)
  have e2 := go_rule N.r mo ro (μ := μ)
  have e3 := go_row N.w hr hl (μ := μ)
  have e4 := sf r l p a g b row μ h0 hb (by omega)
  have e5 := st r l p (led r l a g b row).2 μ (by have := mo.p1; omega) (by have := mo.p9; omega) (by rw [led_len]; omega)
  unfold m_cost
  simp only [mD, ruleD] at e1 e2 e3 e4 e5 ⊢
  simp only [List.length_cons, List.length_nil, if_true, List.map_cons, List.map_nil, List.replicate_zero, List.replicate_succ, List.append_nil, List.cons_append, List.nil_append, seq_eq, sRet, sNx, sIf, sExpr, sSet, sRaise, eAn, eOr, eNo, eUn, eBin, eApp, esCons, esNil, eIf, eChain, eVar, eK, tNo, tTru, tBl, tAn, tOr', gE, gc_id, gc_ex, List.getElem?_cons_zero, List.getElem?_cons_succ, bind_ok, bind_ex, st_ok, st_ex, r_some, cmpD, binD, runS, eDef_eq, Tg.sets, set_tp, setE_z, setE_s, Option.map_some, List.set_cons_zero, List.set_cons_succ, Bool.false_eq_true, if_false, tru_bl, Bool.not_true, Bool.not_false, e1, e2, e3, e4, ix2_1, e5]
def S_stand_behind (c : Tab) : Prop := ∀ r l p a g b (row : List Int) μ, MOk r l p → ROk r l a g b → (∀ z ∈ row, z = 0 ∨ z = 1) → row.length ≤ 60 → run c "stand_behind" [mD r l p, ruleD a g b, .tup (row.map .int)] μ = .ok (stD (led r l a g b row).1) μ
theorem ok_stand_behind (h : c' "stand_behind" = some (mkFn 3 0 2 m_stand_behind c)) : S_stand_behind c' := by
  intro r l p a g b row μ mo ro hr hl
  rw [run_mk h rfl, gcM2]
  have hb : 0 < b := by rcases ro.b12 with h | h <;> omega
  have h0 : 0 ≤ r := by have := mo.l1; have := mo.lr; omega
  have e1 := go_machine N.m mo (μ := μ)
  have e2 := go_rule N.r mo ro (μ := μ)
  have e3 := go_row N.w hr hl (μ := μ)
  have e4 := sf r l p a g b row μ h0 hb (by omega)
  unfold m_stand_behind
  simp only [mD, ruleD] at e1 e2 e3 e4 ⊢
  simp only [List.length_cons, List.length_nil, if_true, List.map_cons, List.map_nil, List.replicate_zero, List.replicate_succ, List.append_nil, List.cons_append, List.nil_append, seq_eq, sRet, sNx, sIf, sExpr, sSet, sRaise, eAn, eOr, eNo, eUn, eBin, eApp, esCons, esNil, eIf, eChain, eVar, eK, tNo, tTru, tBl, tAn, tOr', gE, gc_id, gc_ex, List.getElem?_cons_zero, List.getElem?_cons_succ, bind_ok, bind_ex, st_ok, st_ex, r_some, cmpD, binD, runS, eDef_eq, Tg.sets, set_tp, setE_z, setE_s, Option.map_some, List.set_cons_zero, List.set_cons_succ, Bool.false_eq_true, if_false, tru_bl, Bool.not_true, Bool.not_false, e1, e2, e3, e4, ix2_0]
/-- the runs that begin -/
def begP (ps : List (Int × Int)) : List (Int × Int) := ((ps.zipIdx).filter fun q => decide (0 < q.1.1)).map fun q => ((q.2 : Int), q.1.1)
omit N sf in
theorem begP_len {ps : List (Int × Int)} : (begP ps).length ≤ ps.length := by
  unfold begP
  rw [List.length_map]
  have := List.length_filter_le (fun q : (Int × Int) × Nat => decide (0 < q.1.1)) ps.zipIdx
  rw [List.length_zipIdx] at this
  exact this
omit N sf in
theorem eLc_enf {α : Type} {it : Iv} {tg : Tg} {ifs : T} {elt : E} {own : List Nat} {ρ : Env} {μ μ1 : Mem} (e : α → D) (as : List α) (p : α × Nat → Bool) (f : α × Nat → D) (hl : as.length < 16777216) (hi : it ρ μ = .ok (.enf (as.map e)) μ1) (ho : (tg.slots.all fun i => own.contains i) = true)
    (h : ∀ a ∈ as.zipIdx, ∀ acc, ∃ ρ1, Tg.set (μ1 ++ [.lst acc]) tg (.tup [.int a.2, e a.1]) (wipeE ρ own) = some ρ1 ∧ ifs ρ1 (μ1 ++ [.lst acc]) = .ok (p a) (μ1 ++ [.lst acc]) ∧ (p a = true → elt ρ1 (μ1 ++ [.lst acc]) = .ok (f a) (μ1 ++ [.lst acc]))) :
    eLc it tg ifs elt own ρ μ = .ok (.loc μ1.length) (μ1 ++ [.lst ((as.zipIdx.filter p).map f)]) := by
  unfold eLc
  rw [hi, bind_ok, if_pos ho]
  have := lc_pure (src := .enf (as.map e)) (tg := tg) (ifs := ifs) (elt := elt) (ρ := wipeE ρ own) (μ := μ1) (fun a : α × Nat => .tup [.int a.2, e a.1]) as.zipIdx p f (by simpa using hl) (fun i acc => by
    simp only [Src.nxt, List.getElem?_map, List.getElem?_zipIdx, Option.map_map]
    cases as[i]? <;> simp) h
  simp only [Src.bnd, List.length_map]
  rw [List.length_zipIdx] at this
  exact this
def S_begun (c : Tab) : Prop := ∀ r l p a g b (row : List Int) μ, MOk r l p → ROk r l a g b → (∀ z ∈ row, z = 0 ∨ z = 1) → row.length ≤ 60 → run c "begun" [mD r l p, ruleD a g b, .tup (row.map .int)] μ = .ok (.loc μ.length) (μ ++ [.lst ((begP (led r l a g b row).2).map p2D)])
theorem ok_begun (h : c' "begun" = some (mkFn 3 2 1 m_begun c)) : S_begun c' := by
  intro r l p a g b row μ mo ro hr hl
  rw [run_mk h rfl, gcM1]
  have hb : 0 < b := by rcases ro.b12 with h | h <;> omega
  have h0 : 0 ≤ r := by have := mo.l1; have := mo.lr; omega
  have e1 := go_machine N.m mo (μ := μ)
  have e2 := go_rule N.r mo ro (μ := μ)
  have e3 := go_row N.w hr hl (μ := μ)
  have e4 := sf r l p a g b row μ h0 hb (by omega)
  let ps := (led r l a g b row).2
  have hi : iEn (esCons (gE (eBin ixD (eDef c "followed" (esCons (eVar 0) (esCons (eVar 1) (esCons (eVar 2) esNil)))) (eK (.int 1)))) esNil) [some (mD r l p), some (ruleD a g b), some (.tup (row.map .int)), none, none] μ = .ok (.enf (ps.map p2D)) μ := by
    unfold iEn
    simp only [mD, ruleD] at e4 ⊢
    simp only [List.length_cons, List.length_nil, if_true, List.map_cons, List.map_nil, List.replicate_zero, List.replicate_succ, List.append_nil, List.cons_append, List.nil_append, seq_eq, sRet, sNx, sIf, sExpr, sSet, sRaise, eAn, eOr, eNo, eUn, eBin, eApp, esCons, esNil, eIf, eChain, eVar, eK, tNo, tTru, tBl, tAn, tOr', gE, gc_id, gc_ex, List.getElem?_cons_zero, List.getElem?_cons_succ, bind_ok, bind_ex, st_ok, st_ex, r_some, cmpD, binD, runS, eDef_eq, Tg.sets, set_tp, setE_z, setE_s, Option.map_some, List.set_cons_zero, List.set_cons_succ, Bool.false_eq_true, if_false, tru_bl, Bool.not_true, Bool.not_false, e4, ix2_1, ps, en_fl]
  have hlc := eLc_enf (it := iEn (esCons (gE (eBin ixD (eDef c "followed" (esCons (eVar 0) (esCons (eVar 1) (esCons (eVar 2) esNil)))) (eK (.int 1)))) esNil)) (tg := .tp [.nm 3, .nm 4]) (ifs := tBl (gE (eBin (cmpD .Gt) (gE (eBin ixD (eVar 4) (eK (.int 0)))) (eK (.int 0))))) (elt := eApp tupP (esCons (eVar 3) (esCons (gE (eBin ixD (eVar 4) (eK (.int 0)))) esNil))) (own := [3, 4])
    p2D ps (fun q => decide (0 < q.1.1)) (fun q => p2D (q.2, q.1.1)) (by show ps.length < _; rw [led_len]; omega) hi rfl
    (fun q _ acc => ⟨[some (mD r l p), some (ruleD a g b), some (.tup (row.map .int)), some (.int q.2), some (p2D q.1)], rfl, by simp only [List.length_cons, List.length_nil, if_true, List.map_cons, List.map_nil, List.replicate_zero, List.replicate_succ, List.append_nil, List.cons_append, List.nil_append, seq_eq, sRet, sNx, sIf, sExpr, sSet, sRaise, eAn, eOr, eNo, eUn, eBin, eApp, esCons, esNil, eIf, eChain, eVar, eK, tNo, tTru, tBl, tAn, tOr', gE, gc_id, gc_ex, List.getElem?_cons_zero, List.getElem?_cons_succ, bind_ok, bind_ex, st_ok, st_ex, r_some, cmpD, binD, runS, eDef_eq, Tg.sets, set_tp, setE_z, setE_s, Option.map_some, List.set_cons_zero, List.set_cons_succ, Bool.false_eq_true, if_false, tru_bl, Bool.not_true, Bool.not_false, p2D, ix2_0, icmp], fun _ => by simp only [List.length_cons, List.length_nil, if_true, List.map_cons, List.map_nil, List.replicate_zero, List.replicate_succ, List.append_nil, List.cons_append, List.nil_append, seq_eq, sRet, sNx, sIf, sExpr, sSet, sRaise, eAn, eOr, eNo, eUn, eBin, eApp, esCons, esNil, eIf, eChain, eVar, eK, tNo, tTru, tBl, tAn, tOr', gE, gc_id, gc_ex, List.getElem?_cons_zero, List.getElem?_cons_succ, bind_ok, bind_ex, st_ok, st_ex, r_some, cmpD, binD, runS, eDef_eq, Tg.sets, set_tp, setE_z, setE_s, Option.map_some, List.set_cons_zero, List.set_cons_succ, Bool.false_eq_true, if_false, tru_bl, Bool.not_true, Bool.not_false, p2D, ix2_0, tup2]⟩)
  have hm : (ps.zipIdx.filter fun q => decide (0 < q.1.1)).map (fun q => p2D (q.2, q.1.1)) = (begP ps).map p2D := by
    unfold begP; rw [List.map_map]; rfl
  rw [hm] at hlc
  have : runS (m_begun c [some (mD r l p), some (ruleD a g b), some (.tup (row.map .int)), none, none] μ) = .ok (.loc μ.length) (μ ++ [.lst ((begP ps).map p2D)]) := by
    unfold m_begun
    generalize eLc (iEn (esCons (gE (eBin ixD (eDef c "followed" (esCons (eVar 0) (esCons (eVar 1) (esCons (eVar 2) esNil)))) (eK (.int 1)))) esNil)) (.tp [.nm 3, .nm 4]) (tBl (gE (eBin (cmpD .Gt) (gE (eBin ixD (eVar 4) (eK (.int 0)))) (eK (.int 0))))) (eApp tupP (esCons (eVar 3) (esCons (gE (eBin ixD (eVar 4) (eK (.int 0)))) esNil))) [3, 4] = Z at hlc ⊢
    simp only [mD, ruleD] at e1 e2 e3 hlc ⊢
    simp only [List.length_cons, List.length_nil, if_true, List.map_cons, List.map_nil, List.replicate_zero, List.replicate_succ, List.append_nil, List.cons_append, List.nil_append, seq_eq, sRet, sNx, sIf, sExpr, sSet, sRaise, eAn, eOr, eNo, eUn, eBin, eApp, esCons, esNil, eIf, eChain, eVar, eK, tNo, tTru, tBl, tAn, tOr', gE, gc_id, gc_ex, List.getElem?_cons_zero, List.getElem?_cons_succ, bind_ok, bind_ex, st_ok, st_ex, r_some, cmpD, binD, runS, eDef_eq, Tg.sets, set_tp, setE_z, setE_s, Option.map_some, List.set_cons_zero, List.set_cons_succ, Bool.false_eq_true, if_false, tru_bl, Bool.not_true, Bool.not_false, e1, e2, e3, hlc]
  rw [show ([mD r l p, ruleD a g b, D.tup (row.map .int)].map some ++ List.replicate 2 none) = [some (mD r l p), some (ruleD a g b), some (.tup (row.map .int)), none, none] from rfl, this]
  exact gc_newA lows_p2
end
/-- a row that is none, behind a machine and a rule -/
theorem err_row {c c' : Tab} {x : Str} {n k gm : Nat} {m : Tab → S} {rest : S} (h : c' x = some (mkFn n k gm m c)) (hm : m c = sSeq (sExpr (eDef c "need_machine" (esCons (eVar 0) esNil))) (sSeq (sExpr (eDef c "need_rule" (esCons (eVar 0) (esCons (eVar 1) esNil)))) (sSeq (sExpr (eDef c "need_row" (esCons (eVar 2) esNil))) rest))) (N : Needs c) {r l p a g b : Int} (mo : MOk r l p) (ro : ROk r l a g b) {v : D} {args : List D} {μ : Mem} (hl : args.length + 3 = n) (hv : okTT μ v) (hb : rowB v = false) : run c' x (mD r l p :: ruleD a g b :: v :: args) μ = .ex { c := "InvalidRow" } μ := by
  rw [run_mk h (by simpa using hl), hm]
  have e1 := go_machine N.m mo (μ := μ)
  have e2 := go_rule N.r mo ro (μ := μ)
  have : runS (sSeq (sExpr (eDef c "need_machine" (esCons (eVar 0) esNil))) (sSeq (sExpr (eDef c "need_rule" (esCons (eVar 0) (esCons (eVar 1) esNil)))) (sSeq (sExpr (eDef c "need_row" (esCons (eVar 2) esNil))) rest)) ((mD r l p :: ruleD a g b :: v :: args).map some ++ List.replicate k none) μ) = .ex { c := "InvalidRow" } μ := by
    simp only [mD, ruleD] at e1 e2 ⊢
    simp only [List.length_cons, List.length_nil, if_true, List.map_cons, List.map_nil, List.replicate_zero, List.replicate_succ, List.append_nil, List.cons_append, List.nil_append, seq_eq, sRet, sNx, sIf, sExpr, sSet, sRaise, eAn, eOr, eNo, eUn, eBin, eApp, esCons, esNil, eIf, eChain, eVar, eK, tNo, tTru, tBl, tAn, tOr', gE, gc_id, gc_ex, List.getElem?_cons_zero, List.getElem?_cons_succ, bind_ok, bind_ex, st_ok, st_ex, r_some, cmpD, binD, runS, eDef_eq, Tg.sets, set_tp, setE_z, setE_s, Option.map_some, List.set_cons_zero, List.set_cons_succ, Bool.false_eq_true, if_false, tru_bl, Bool.not_true, Bool.not_false, e1, e2, N.w v μ hv, hb]
  rw [this]
  exact gcM_ex
end Ev

set_option Elab.async false
set_option linter.all false
set_option maxRecDepth 100000
set_option maxHeartbeats 4000000
namespace Ev
open PySem PySem.Spec PyProof.Rows L2
/-! ### what the law's own call tells -/
theorem lawEx_machine : lawEx { c := "InvalidMachine" } = some (.tup [.str "InvalidMachine +"]) := by kernel_rfl
theorem lawEx_rule : lawEx { c := "InvalidRule" } = some (.tup [.str "InvalidRule +"]) := by kernel_rfl
theorem lawEx_row : lawEx { c := "InvalidRow" } = some (.tup [.str "InvalidRow +"]) := by kernel_rfl
theorem lawEx_number : lawEx { c := "InvalidNumber" } = some (.tup [.str "InvalidNumber +"]) := by kernel_rfl
theorem lawEx_notext : lawEx { c := "NoText" } = some (.tup [.str "NoText +"]) := by kernel_rfl
theorem law_ex {f : E} {ρ : Env} {μ μ' : Mem} {x : Exc} {d : D} (h : f ρ μ = .ex x μ') (hx : lawEx x = some d) : eLaw f ρ μ = .ok d μ' := by
  unfold eLaw
  rw [h]
  simp only [hx]
theorem law_told {f : E} {ρ : Env} {μ μ' : Mem} {d : D} (h : f ρ μ = .ok d μ') : eLaw f ρ μ = .ok (.tup [.str "told", d]) μ' := by
  unfold eLaw
  rw [h]
theorem str_self {x : Str} {μ : Mem} (h : PyData.strOk x = true) : neD (.tup [.str x]) (.tup [.str x]) μ = some (.bl false, μ) := by
  rw [neD_of (n := 1) (m := 1) (.tup (.cons (.str h) .nil)) (.tup (.cons (.str h) .nil)) (by omega) (by omega)]
  simp [PyData.eqv, PyData.eqvAll]
theorem ok_machine_s : PyData.strOk "InvalidMachine +" = true := by kernel_rfl
theorem ok_rule_s : PyData.strOk "InvalidRule +" = true := by kernel_rfl
theorem ok_row_s : PyData.strOk "InvalidRow +" = true := by kernel_rfl
theorem ok_number_s : PyData.strOk "InvalidNumber +" = true := by kernel_rfl
theorem ok_notext_s : PyData.strOk "NoText +" = true := by kernel_rfl
/-- if _law_call(..) != (word,): return False -/
theorem law_if {f : E} {ρ : Env} {μ μ' : Mem} {x : Exc} {w : Str} (h : f ρ μ = .ex x μ') (hx : lawEx x = some (.tup [.str w])) (hw : PyData.strOk w = true) (hg : μ' = μ) : sIf (tBl (gE (eBin (cmpD .NotEq) (eLaw f) (eApp tupP (esCons (eK (.str w)) esNil))))) (sSeq (sRet (eK (.bl false))) sNx) sNx ρ μ = .nx ρ μ := by
  subst hg
  have h1 := law_ex h hx
  simp only [List.length_cons, List.length_nil, if_true, List.map_cons, List.map_nil, List.replicate_zero, List.replicate_succ, List.append_nil, List.cons_append, List.nil_append, seq_eq, sRet, sNx, sIf, sExpr, sSet, sRaise, eAn, eOr, eNo, eUn, eBin, eApp, esCons, esNil, eIf, eChain, eVar, eK, tNo, tTru, tBl, tAn, tOr', gE, gc_id, gc_ex, List.getElem?_cons_zero, List.getElem?_cons_succ, bind_ok, bind_ex, st_ok, st_ex, r_some, cmpD, binD, runS, eDef_eq, Tg.sets, set_tp, setE_z, setE_s, Option.map_some, List.set_cons_zero, List.set_cons_succ, Bool.false_eq_true, if_false, tru_bl, Bool.not_true, Bool.not_false, h1, tup1, str_self hw]
/-- how many turns a law makes -/
theorem law_turns {m : Int} {ns : List Int} {x : List (Option D)} {μ : Mem} (h1 : 1 ≤ m) (h2 : m ≤ 1000) : ∃ N : Nat, (N : Int) ≤ m ∧ iRg1 (esCons (gE (eApp maxD (esCons (eK (.int 1)) (esCons (gE (eApp minD (esCons (eK (.int m)) (esCons (gE (eApp lenD (esCons (eVar 0) esNil))) esNil)))) esNil)))) esNil) (some (.fl (ns.map .int)) :: x) μ = .ok (.rng 0 N) μ := by
  have hlen : lenD [.fl (ns.map .int)] μ = some (.int (ns.length : Nat), μ) := by rw [len_fl, List.length_map]
  let k : Int := if ((ns.length : Nat) : Int) < m then ns.length else m
  have hk : k ≤ m := by show (if _ then _ else _) ≤ _; split <;> omega
  refine ⟨(if k > 1 then k else 1).toNat, by split <;> omega, ?_⟩
  unfold iRg1
  simp only [List.length_cons, List.length_nil, if_true, List.map_cons, List.map_nil, List.replicate_zero, List.replicate_succ, List.append_nil, List.cons_append, List.nil_append, seq_eq, sRet, sNx, sIf, sExpr, sSet, sRaise, eAn, eOr, eNo, eUn, eBin, eApp, esCons, esNil, eIf, eChain, eVar, eK, tNo, tTru, tBl, tAn, tOr', gE, gc_id, gc_ex, List.getElem?_cons_zero, List.getElem?_cons_succ, bind_ok, bind_ex, st_ok, st_ex, r_some, cmpD, binD, runS, eDef_eq, Tg.sets, set_tp, setE_z, setE_s, Option.map_some, List.set_cons_zero, List.set_cons_succ, Bool.false_eq_true, if_false, tru_bl, Bool.not_true, Bool.not_false, hlen, minD_int, maxD_int]
  rw [rg1_ok (by split <;> (try split) <;> omega) (by split <;> (try split) <;> omega)]
end Ev

set_option Elab.async false
set_option linter.all false
set_option maxRecDepth 100000
set_option maxHeartbeats 4000000
namespace Ev
open PySem PySem.Spec PyProof.Rows L2
/-! ### association lists -/
section
variable {α β γ : Type} [DecidableEq α]
def aGet (es : List (α × β)) (k : α) : Option β := match es with
  | [] => none
  | e :: r => if e.1 = k then some e.2 else aGet r k
def aRep (k : α) (v : β) (e : α × β) : α × β := if e.1 = k then (e.1, v) else e
def aPut (es : List (α × β)) (k : α) (v : β) : List (α × β) := if (aGet es k).isSome then es.map (aRep k v) else es ++ [(k, v)]
theorem aGet_none {k : α} : ∀ {es : List (α × β)}, aGet es k = none ↔ k ∉ es.map (·.1)
  | [] => by simp [aGet]
  | e :: r => by
    unfold aGet
    by_cases h : e.1 = k
    · simp [h]
    · simp only [h, if_false]
      rw [aGet_none]
      simp [Ne.symm h]
theorem aGet_isSome {k : α} {es : List (α × β)} : (aGet es k).isSome = true ↔ k ∈ es.map (·.1) := by
  cases h : aGet es k with
  | none => simp [aGet_none.mp h]
  | some v =>
    refine ⟨fun _ => ?_, fun _ => rfl⟩
    exact Decidable.of_not_not fun hn => by rw [aGet_none.mpr hn] at h; cases h
theorem aGet_mem {k : α} {v : β} : ∀ {es : List (α × β)}, aGet es k = some v → (k, v) ∈ es
  | [], h => by cases h
  | e :: r, h => by
    unfold aGet at h
    split at h
    · rename_i q
      cases h
      rw [← q]
      exact List.mem_cons_self
    · exact List.mem_cons_of_mem _ (aGet_mem h)
theorem aGet_of_mem {k : α} {v : β} : ∀ {es : List (α × β)}, (es.map (·.1)).Nodup → (k, v) ∈ es → aGet es k = some v
  | e :: r, hn, h => by
    rw [List.map_cons, List.nodup_cons] at hn
    unfold aGet
    rcases List.mem_cons.mp h with e1 | e1
    · rw [← e1, if_pos rfl]
    · rw [if_neg fun q => hn.1 (by rw [q]; exact List.mem_map_of_mem (f := Prod.fst) e1)]
      exact aGet_of_mem hn.2 e1
theorem aRep_keys {k : α} {v : β} {es : List (α × β)} : (es.map (aRep k v)).map (·.1) = es.map (·.1) := by
  rw [List.map_map]
  refine List.map_congr_left fun e _ => ?_
  show (aRep k v e).1 = e.1
  unfold aRep
  split <;> rfl
theorem aPut_keys {k : α} {v : β} {es : List (α × β)} : (aPut es k v).map (·.1) = if k ∈ es.map (·.1) then es.map (·.1) else es.map (·.1) ++ [k] := by
  unfold aPut
  by_cases h : k ∈ es.map (·.1)
  · rw [if_pos (aGet_isSome.mpr h), if_pos h, aRep_keys]
  · rw [if_neg (fun q => h (aGet_isSome.mp q)), if_neg h, List.map_append]; rfl
theorem aPut_mem {k j : α} {v : β} {es : List (α × β)} : j ∈ (aPut es k v).map (·.1) ↔ j = k ∨ j ∈ es.map (·.1) := by
  rw [aPut_keys]
  split
  · rename_i h
    refine ⟨.inr, fun q => ?_⟩
    rcases q with rfl | q
    · exact h
    · exact q
  · rw [List.mem_append, List.mem_singleton, or_comm]
theorem aPut_nodup {k : α} {v : β} {es : List (α × β)} (h : (es.map (·.1)).Nodup) : ((aPut es k v).map (·.1)).Nodup := by
  rw [aPut_keys]
  split
  · exact h
  · rename_i hk
    exact List.nodup_append.mpr ⟨h, by simp, fun a ha b hb => by rw [List.mem_singleton.mp hb]; exact fun e => hk (e ▸ ha)⟩
theorem aPut_len {k : α} {v : β} {es : List (α × β)} : (aPut es k v).length ≤ es.length + 1 := by
  unfold aPut
  split
  · rw [List.length_map]; omega
  · rw [List.length_append]; simp
theorem aGet_rep {k j : α} {v : β} : ∀ {es : List (α × β)}, aGet (es.map (aRep k v)) j = if j = k then (aGet es j).map fun _ => v else aGet es j
  | [] => by split <;> rfl
  | e :: r => by
    rw [List.map_cons]
    have e1 : (aRep k v e).1 = e.1 := by unfold aRep; split <;> rfl
    unfold aGet
    rw [e1]
    by_cases h : e.1 = j
    · rw [if_pos h, if_pos h]
      unfold aRep
      by_cases h2 : j = k
      · rw [if_pos (h.trans h2), if_pos h2]; rfl
      · rw [if_neg (fun q => h2 (h.symm.trans q)), if_neg h2]
    · rw [if_neg h, if_neg h]
      exact aGet_rep
theorem aGet_app {j : α} : ∀ {es fs : List (α × β)}, aGet (es ++ fs) j = (aGet es j).or (aGet fs j)
  | [], fs => by simp [aGet]
  | e :: r, fs => by
    show (if e.1 = j then some e.2 else aGet (r ++ fs) j) = (if e.1 = j then some e.2 else aGet r j).or (aGet fs j)
    split
    · rfl
    · exact aGet_app
theorem aGet_put {k j : α} {v : β} {es : List (α × β)} : aGet (aPut es k v) j = if j = k then some v else aGet es j := by
  unfold aPut
  by_cases h : (aGet es k).isSome = true
  · rw [if_pos h, aGet_rep]
    by_cases h2 : j = k
    · subst h2
      rw [if_pos rfl, if_pos rfl]
      obtain ⟨w, hw⟩ := Option.isSome_iff_exists.mp h
      rw [hw]; rfl
    · rw [if_neg h2, if_neg h2]
  · rw [if_neg h, aGet_app]
    have hn : aGet es k = none := by simpa using h
    by_cases h2 : j = k
    · subst h2
      rw [if_pos rfl, hn]
      simp [aGet]
    · rw [if_neg h2]
      have : aGet [(k, v)] j = none := by simp [aGet, Ne.symm h2]
      rw [this]
      simp
theorem aPut_same {k : α} {v : β} {es : List (α × β)} (hn : (es.map (·.1)).Nodup) (h : aGet es k = some v) : aPut es k v = es := by
  unfold aPut
  rw [h]
  simp only [Option.isSome_some, if_true]
  refine (List.map_congr_left fun e he => ?_).trans (List.map_id _)
  unfold aRep
  split
  · rename_i q
    have := aGet_of_mem hn (k := e.1) (v := e.2) he
    rw [q, h] at this
    cases this
    rfl
  · rfl
/-- the values, seen otherwise -/
def aMap (f : β → γ) (es : List (α × β)) : List (α × γ) := es.map fun e => (e.1, f e.2)
theorem aMap_keys {f : β → γ} {es : List (α × β)} : (aMap f es).map (·.1) = es.map (·.1) := by
  unfold aMap
  rw [List.map_map]
  rfl
theorem aGet_map {f : β → γ} {k : α} : ∀ {es : List (α × β)}, aGet (aMap f es) k = (aGet es k).map f
  | [] => rfl
  | e :: r => by
    show aGet ((e.1, f e.2) :: aMap f r) k = _
    unfold aGet
    split
    · rfl
    · exact aGet_map
theorem aPut_map {f : β → γ} {k : α} {v : β} {es : List (α × β)} : aPut (aMap f es) k (f v) = aMap f (aPut es k v) := by
  unfold aPut
  rw [aGet_map]
  by_cases h : (aGet es k).isSome = true
  · rw [if_pos h, if_pos (by simpa using h)]
    unfold aMap
    rw [List.map_map, List.map_map]
    refine List.map_congr_left fun e _ => ?_
    show aRep k (f v) (e.1, f e.2) = ((aRep k v e).1, f (aRep k v e).2)
    unfold aRep
    split <;> rfl
  · rw [if_neg h, if_neg (by simpa using h)]
    unfold aMap
    rw [List.map_append]
    rfl
theorem aPut_mono {k : α} {v : β} {es : List (α × β)} {P : α × β → Prop} (h : ∀ e ∈ es, P e) (hk : P (k, v)) : ∀ e ∈ aPut es k v, P e := by
  intro e he
  unfold aPut at he
  split at he
  · obtain ⟨e0, h0, h1⟩ := List.mem_map.mp he
    subst h1
    unfold aRep
    split
    · rename_i q
      rw [q]
      exact hk
    · exact h _ h0
  · rcases List.mem_append.mp he with q | q
    · exact h _ q
    · rw [List.mem_singleton.mp q]; exact hk
end
/-- as many as fit -/
theorem nodup_le {N : Nat} : ∀ {xs : List Nat}, xs.Nodup → (∀ x ∈ xs, x < N) → xs.length ≤ N := by
  induction N with
  | zero =>
    intro xs _ h
    cases xs with
    | nil => exact Nat.le_refl _
    | cons a r => exact absurd (h a (by simp)) (by omega)
  | succ N ih =>
    intro xs hn h
    have h1 : (xs.filter fun x => decide (x ≠ N)).length ≤ N := ih (hn.filter _) fun x hx => by
      obtain ⟨q1, q2⟩ := List.mem_filter.mp hx
      have := h x q1
      have : x ≠ N := of_decide_eq_true q2
      omega
    have h2 : ∀ {ys : List Nat}, ys.Nodup → ys.length ≤ (ys.filter fun x => decide (x ≠ N)).length + 1 := by
      intro ys
      induction ys with
      | nil => intro _; simp
      | cons a r ihr =>
        intro hy
        obtain ⟨y1, y2⟩ := List.nodup_cons.mp hy
        by_cases ha : a = N
        · subst ha
          have : (r.filter fun x => decide (x ≠ a)) = r := List.filter_eq_self.mpr fun x hx => decide_eq_true fun e => y1 (e ▸ hx)
          rw [List.filter_cons, this]
          simp
        · have := ihr y2
          rw [List.filter_cons, if_pos (by simpa using ha)]
          simp only [List.length_cons]
          omega
    have := h2 hn
    omega
theorem nodup_map_le {α : Type} {f : α → Nat} {N : Nat} {xs : List α} (hn : xs.Nodup) (hi : ∀ x ∈ xs, ∀ y ∈ xs, f x = f y → x = y) (h : ∀ x ∈ xs, f x < N) : xs.length ≤ N := by
  have : (xs.map f).Nodup := List.pairwise_map.mpr (List.Pairwise.imp_of_mem (fun {a b} ha hb hab e => hab (hi a ha b hb e)) hn)
  have := nodup_le (N := N) this (fun x hx => by obtain ⟨a, ha, rfl⟩ := List.mem_map.mp hx; exact h a ha)
  rw [List.length_map] at this
  exact this
/-! ### dicts of the store -/
/-- values that are keys -/
structure KeyE {α : Type} (kd : α → D) (nk : α → NestedKey) : Prop where
  tup : ∀ a, ∃ ds, kd a = .tup ds
  kt : ∀ a, keyT (kd a) = some (nk a)
  inj : ∀ a b, nk a = nk b → a = b
section
variable {α β : Type} {kd : α → D} {nk : α → NestedKey} {vd : β → D}
def encK (kd : α → D) (nk : α → NestedKey) (vd : β → D) (es : List (α × β)) : List (NestedKey × D × D) := es.map fun e => (nk e.1, kd e.1, vd e.2)
theorem encK_len {es : List (α × β)} : (encK kd nk vd es).length = es.length := List.length_map ..
variable [DecidableEq α] (K : KeyE kd nk)
include K
theorem dGet_enc {k : α} : ∀ {es : List (α × β)}, dGet (encK kd nk vd es) (nk k) = (aGet es k).map vd
  | [] => rfl
  | e :: r => by
    show dGet ((nk e.1, kd e.1, vd e.2) :: encK kd nk vd r) (nk k) = _
    unfold dGet aGet
    by_cases h : e.1 = k
    · rw [if_pos h, if_pos (by rw [h])]; rfl
    · rw [if_neg h, if_neg (fun q => h (K.inj _ _ q))]
      exact dGet_enc
theorem dHas_enc {k : α} {es : List (α × β)} : dHas (encK kd nk vd es) (nk k) = (aGet es k).isSome := by
  unfold dHas
  rw [dGet_enc K]
  simp
theorem dPut_enc {k : α} {v : β} {es : List (α × β)} : dPut (encK kd nk vd es) (nk k) (kd k) (vd v) = encK kd nk vd (aPut es k v) := by
  unfold dPut aPut
  rw [dHas_enc K]
  split
  · unfold encK
    rw [List.map_map, List.map_map]
    refine List.map_congr_left fun e _ => ?_
    show dRep (nk k) (vd v) (nk e.1, kd e.1, vd e.2) = (nk (aRep k v e).1, kd (aRep k v e).1, vd (aRep k v e).2)
    unfold dRep aRep
    by_cases h : e.1 = k
    · rw [if_pos h, if_pos (by rw [h])]
    · rw [if_neg h, if_neg (fun q => h (K.inj _ _ q))]
  · unfold encK
    rw [List.map_append]
    rfl
end
section
variable {μ ν : Mem} {n m : Nat}
theorem dctAt_lt {p : Bool × List (NestedKey × D × D)} (h : dctAt μ n = some p) : n < μ.length := by
  obtain ⟨kn, kvs⟩ := p
  exact (List.getElem?_eq_some_iff.mp (dctAt_some h)).1
theorem dct_old (h : n < μ.length) : dctAt (μ ++ ν) n = dctAt μ n := by
  unfold dctAt; rw [List.getElem?_append_left h]
theorem dct_app {p : Bool × List (NestedKey × D × D)} (h : dctAt μ n = some p) : dctAt (μ ++ ν) n = some p := (dct_old (dctAt_lt h)).trans h
theorem dct_pre {μ' : Mem} {p : Bool × List (NestedKey × D × D)} (hp : μ <+: μ') (h : dctAt μ n = some p) : dctAt μ' n = some p := by
  obtain ⟨t, rfl⟩ := hp
  exact dct_app h
theorem dct_new {kn : Bool} {kvs : List (NestedKey × D × D)} : dctAt (μ ++ .dct kn kvs :: ν) μ.length = some (kn, kvs) := by
  unfold dctAt
  rw [List.getElem?_append_right (Nat.le_refl _), Nat.sub_self]
  rfl
theorem dct_set {p : Bool × List (NestedKey × D × D)} {kn : Bool} {kvs : List (NestedKey × D × D)} (h : dctAt μ n = some p) : dctAt (μ.set n (.dct kn kvs)) n = some (kn, kvs) := by
  unfold dctAt
  rw [List.getElem?_set_self (dctAt_lt h)]
theorem dct_set_ne {o : MO} (h : n ≠ m) : dctAt (μ.set n o) m = dctAt μ m := by
  unfold dctAt
  rw [List.getElem?_set_ne h]
theorem dct_no_lst {p : Bool × List (NestedKey × D × D)} (h : dctAt μ n = some p) : lstAt μ n = none := by
  obtain ⟨kn, kvs⟩ := p
  unfold lstAt
  rw [dctAt_some h]
theorem pre_set {μ' : Mem} {o : MO} (h : μ <+: μ') (hn : μ.length ≤ n) : μ <+: μ'.set n o := by
  obtain ⟨t, rfl⟩ := h
  rw [List.set_append_right _ _ hn]
  exact List.prefix_append _ _
theorem pre_app {μ' : Mem} (h : μ <+: μ') : μ <+: μ' ++ ν := h.trans (List.prefix_append _ _)
theorem lst_pre {μ' : Mem} {xs : List D} (hp : μ <+: μ') (h : lstAt μ n = some xs) : lstAt μ' n = some xs := by
  obtain ⟨t, rfl⟩ := hp
  exact at_app h
end
section
variable {α β : Type} {kd : α → D} {nk : α → NestedKey} {vd : β → D} [DecidableEq α] {μ : Mem} {n : Nat} {kn : Bool} {es : List (α × β)} {a : α}
theorem din_enc (K : KeyE kd nk) (h : dctAt μ n = some (kn, encK kd nk vd es)) : inD (kd a) (.loc n) μ = some (.bl (aGet es a).isSome, μ) := by
  have hk : inK μ (kd a) (.loc n) = some (aGet es a).isSome := by
    unfold inK
    simp only [h, K.kt a, dHas_enc K]
  unfold inD inO
  rw [hk]
  rfl
theorem dnin_enc (K : KeyE kd nk) (h : dctAt μ n = some (kn, encK kd nk vd es)) : ninD (kd a) (.loc n) μ = some (.bl (!(aGet es a).isSome), μ) := by
  have hk : inK μ (kd a) (.loc n) = some (aGet es a).isSome := by
    unfold inK
    simp only [h, K.kt a, dHas_enc K]
  unfold ninD inO
  rw [hk]
  rfl
theorem dix_enc {v : β} (K : KeyE kd nk) (h : dctAt μ n = some (kn, encK kd nk vd es)) (hv : aGet es a = some v) : ixD (.loc n) (kd a) μ = some (vd v, μ) := by
  obtain ⟨ds, e⟩ := K.tup a
  have hk := K.kt a
  rw [e] at hk ⊢
  unfold ixD
  simp only [h, hk, dGet_enc K, hv, Option.map_some]
theorem dput_enc {v : β} (K : KeyE kd nk) (h : dctAt μ n = some (kn, encK kd nk vd es)) (hl : es.length < 16777216) : putD (.loc n) (kd a) (vd v) μ = some (μ.set n (.dct kn (encK kd nk vd (aPut es a v)))) := by
  obtain ⟨ds, e⟩ := K.tup a
  have hk := K.kt a
  have hp := dPut_enc (vd := vd) (v := v) (es := es) (k := a) K
  rw [e] at hk hp ⊢
  unfold putD
  simp only [h, hk, hp]
  rw [if_pos (by rw [encK_len]; exact hl)]
theorem dget_enc {x : D} (K : KeyE kd nk) (h : dctAt μ n = some (kn, encK kd nk vd es)) : getD' (.loc n) [kd a, x] μ = some (((aGet es a).map vd).getD x, μ) := by
  unfold getD'
  simp only [h, K.kt a, dGet_enc K]
/-! ### loops over them -/
theorem iIt_loc {f : E} {ρ : Env} {μ1 : Mem} (h : f ρ μ = .ok (.loc n) μ1) (hd : dctAt μ1 n = some (true, encK kd nk vd es)) : iIt f ρ μ = .ok (.di n es.length) μ1 := by
  unfold iIt
  rw [h]
  simp only [bind_ok, hd, encK_len]
theorem iSeq_dct {f : E} {ρ : Env} {μ1 : Mem} (h : f ρ μ = .ok (.loc n) μ1) (hd : dctAt μ1 n = some (true, encK kd nk vd es)) : iSeq f ρ μ = .ok (.dk n es.length) μ1 := by
  unfold iSeq
  rw [h]
  simp only [bind_ok, dct_no_lst hd, hd, encK_len]
theorem nxt_di {i : Nat} (hd : dctAt μ n = some (true, encK kd nk vd es)) : (Src.di n es.length).nxt i μ = some ((es.map fun e => D.tup [kd e.1, vd e.2])[i]?) := by
  unfold Src.nxt
  simp only [hd, encK_len, if_true]
  unfold encK
  rw [List.getElem?_map, List.getElem?_map, Option.map_map]
  rfl
theorem nxt_dk {i : Nat} (hd : dctAt μ n = some (true, encK kd nk vd es)) : (Src.dk n es.length).nxt i μ = some ((es.map fun e => kd e.1)[i]?) := by
  unfold Src.nxt
  simp only [hd, encK_len, if_true]
  unfold encK
  rw [List.getElem?_map, List.getElem?_map, Option.map_map]
  rfl
theorem for_src {γ : Type} {it : Iv} {tg : Tg} {b : S} {ρ : Env} {μ μ1 : Mem} {src : Src} (e : γ → D) (as : List γ) (I : List γ → Env → Mem → Prop) (hi : it ρ μ = .ok src μ1) (hb : src.bnd μ1 = as.length) (h0 : I [] ρ μ1)
    (hx : ∀ pre ρ μ i, I pre ρ μ → src.nxt i μ = some ((as.map e)[i]?))
    (step : ∀ pre x post ρ μ, as = pre ++ x :: post → I pre ρ μ → ∃ ρ1 ρ' μ', Tg.set μ tg (e x) ρ = some ρ1 ∧ b ρ1 μ = .nx ρ' μ' ∧ I (pre ++ [x]) ρ' μ') : ∃ ρ' μ', sFor it tg b ρ μ = .nx ρ' μ' ∧ I as ρ' μ' := by
  obtain ⟨ρ', μ', h1, h2⟩ := fo_pre (src := src) (tg := tg) (b := b) e as I (fun pre x post ρ μ h hi => ⟨by rw [hx _ _ _ _ hi, h]; simp, step pre x post ρ μ h hi⟩) (fun ρ μ hi => by rw [hx _ _ _ _ hi]; simp) as [] ρ μ1 rfl h0
  refine ⟨ρ', μ', ?_, h2⟩
  unfold sFor
  rw [hi]
  simp only [st_ok, hb]
  exact h1
theorem eLc_src {γ : Type} {it : Iv} {tg : Tg} {ifs : T} {elt : E} {own : List Nat} {ρ : Env} {μ μ1 : Mem} {src : Src} (e : γ → D) (as : List γ) (p : γ → Bool) (f : γ → D) (hl : as.length < 16777216) (hi : it ρ μ = .ok src μ1) (hb : src.bnd μ1 = as.length) (hx : ∀ i acc, src.nxt i (μ1 ++ [.lst acc]) = some ((as.map e)[i]?)) (ho : (tg.slots.all fun i => own.contains i) = true)
    (h : ∀ a ∈ as, ∀ acc, ∃ ρ1, Tg.set (μ1 ++ [.lst acc]) tg (e a) (wipeE ρ own) = some ρ1 ∧ ifs ρ1 (μ1 ++ [.lst acc]) = .ok (p a) (μ1 ++ [.lst acc]) ∧ (p a = true → elt ρ1 (μ1 ++ [.lst acc]) = .ok (f a) (μ1 ++ [.lst acc]))) :
    eLc it tg ifs elt own ρ μ = .ok (.loc μ1.length) (μ1 ++ [.lst ((as.filter p).map f)]) := by
  unfold eLc
  rw [hi, bind_ok, if_pos ho]
  have := lc_pure (src := src) (tg := tg) (ifs := ifs) (elt := elt) (ρ := wipeE ρ own) (μ := μ1) e as p f hl hx h
  rw [hb]
  exact this
theorem new_dct {ρ : Env} : newD ρ μ = .ok (.loc μ.length) (μ ++ [.dct true []]) := rfl
end
/-! ### in, ints -/
theorem inF_ints {k : Int} : ∀ {ns : List Int}, inF (.int k) (ns.map .int) = decide (k ∈ ns)
  | [] => rfl
  | a :: r => by
    show (eqF (.int a) (.int k) || inF (.int k) (r.map .int)) = _
    rw [inF_ints]
    show (a == k || _) = _
    by_cases h : a = k
    · subst h; simp
    · have : (a == k) = false := by simpa using h
      rw [this]
      simp [Ne.symm h]
theorem flat_ints : ∀ {ns : List Int}, ((ns.map D.int).all flatD) = true
  | [] => rfl
  | a :: r => by rw [List.map_cons, List.all_cons, flat_ints]; rfl
theorem in_ints {k : Int} {ns : List Int} {μ : Mem} : inD (.int k) (.tup (ns.map .int)) μ = some (.bl (decide (k ∈ ns)), μ) := by
  have h1 : inK μ (.int k) (.tup (ns.map .int)) = none := rfl
  have h2 : inM μ (.int k) (.tup (ns.map .int)) = some (decide (k ∈ ns)) := by
    unfold inM
    simp only [seqD, flat_ints, inF_ints]
    rfl
  unfold inD inO
  rw [h1]
  dsimp only
  rw [h2]
  rfl
end Ev

set_option Elab.async false
set_option linter.all false
set_option maxRecDepth 100000
set_option maxHeartbeats 4000000
namespace Ev
/-! ### the one who knows, in plain words -/
/-- busy, waiting -/
abbrev KS := Int × Int
/-- whether a run begins, the stand behind, what it costs -/
abbrev Mv := Int × KS × Int
/-- what is paid, when runs begin -/
abbrev Way := Int × List Int
def mx0 (i : Int) : Int := if i > 0 then i else 0
def movesP (r l p : Int) (s : KS) (coming : Int) : List Mv :=
  (0, (mx0 (s.1 - 1), s.2 + coming), s.2 + coming) :: if s.1 = 0 ∧ s.2 + coming > 0 then [(1, (l - 1, mx0 (s.2 + coming - r)), p + mx0 (s.2 + coming - r))] else []
def wayOf (t : Int) (w : Way) (m : Mv) : Way := (w.1 + m.2.2, w.2 ++ if m.1 = 1 then [t] else [])
def putC (d : List (KS × Way)) (s : KS) (w : Way) : List (KS × Way) := match aGet d s with
  | none => aPut d s w
  | some u => if w.1 < u.1 then aPut d s w else d
def putL (d : List (KS × Int)) (s : KS) (v : Int) : List (KS × Int) := aPut d s (if v < (aGet d s).getD v then v else (aGet d s).getD v)
def stepC (r l p t coming : Int) (best : List (KS × Way)) : List (KS × Way) :=
  best.foldl (fun d e => (movesP r l p e.1 coming).foldl (fun d m => putC d m.2.1 (wayOf t e.2 m)) d) []
def stepL (r l p coming : Int) (best : List (KS × Int)) : List (KS × Int) :=
  best.foldl (fun d e => (movesP r l p e.1 coming).foldl (fun d m => putL d m.2.1 (e.2 + m.2.2)) d) []
def goC (r l p : Int) : Int → List Int → List (KS × Way) → List (KS × Way)
  | _, [], best => best
  | t, c :: row, best => goC r l p (t + 1) row (stepC r l p t c best)
def goL (r l p : Int) : List Int → List (KS × Int) → List (KS × Int)
  | [], best => best
  | c :: row, best => goL r l p row (stepL r l p c best)
def kC0 : List (KS × Way) := [((0, 0), (0, []))]
def kL0 : List (KS × Int) := [((0, 0), 0)]
def endC (r l p : Int) (row : List Int) : List Way := ((goC r l p 0 row kC0).filter fun e => decide (e.1.2 = 0)).map (·.2)
def endL (r l p : Int) (row : List Int) : List Int := ((goL r l p row kL0).filter fun e => decide (e.1.2 = 0)).map (·.2)
def minW : List Way → Way
  | [] => (0, [])
  | x :: xs => xs.foldl (fun a y => if y.1 < a.1 then y else a) x
def cheapP (r l p : Int) (row : List Int) : Way := minW (endC r l p row)
/-! ### both tables tell the same costs -/
abbrev costs (d : List (KS × Way)) : List (KS × Int) := aMap (fun w : Way => w.1) d
def KNd {β : Type} (d : List (KS × β)) : Prop := (d.map (·.1)).Nodup
theorem putC_nd {d : List (KS × Way)} {s : KS} {w : Way} (h : KNd d) : KNd (putC d s w) := by
  unfold putC
  split
  · exact aPut_nodup h
  · split
    · exact aPut_nodup h
    · exact h
theorem putC_keys {d : List (KS × Way)} {s j : KS} {w : Way} : j ∈ (putC d s w).map (·.1) ↔ j = s ∨ j ∈ d.map (·.1) := by
  unfold putC
  split
  · exact aPut_mem
  · rename_i u h
    split
    · exact aPut_mem
    · refine ⟨.inr, fun q => ?_⟩
      rcases q with rfl | q
      · exact aGet_isSome.mp (by rw [h]; rfl)
      · exact q
theorem put_costs {d : List (KS × Way)} {s : KS} {w : Way} (h : KNd d) : putL (costs d) s w.1 = costs (putC d s w) := by
  unfold putL putC
  rw [aGet_map]
  cases e : aGet d s with
  | none =>
    simp only [Option.map_none, Option.getD_none, Int.lt_irrefl, if_false]
    exact aPut_map
  | some u =>
    simp only [Option.map_some, Option.getD_some]
    split
    · exact aPut_map
    · exact aPut_same (by unfold KNd at h; rw [aMap_keys]; exact h) (by rw [aGet_map, e]; rfl)
theorem foldl_costs {γ : Type} {f : List (KS × Way) → γ → List (KS × Way)} {g : List (KS × Int) → γ → List (KS × Int)} (hf : ∀ d x, KNd d → KNd (f d x)) (hg : ∀ d x, KNd d → g (costs d) x = costs (f d x)) : ∀ (xs : List γ) (d : List (KS × Way)), KNd d → KNd (xs.foldl f d) ∧ xs.foldl g (costs d) = costs (xs.foldl f d)
  | [], d, h => ⟨h, rfl⟩
  | x :: xs, d, h => by
    rw [List.foldl_cons, List.foldl_cons, hg d x h]
    exact foldl_costs hf hg xs _ (hf d x h)
theorem step_costs (r l p t c : Int) (best : List (KS × Way)) : KNd (stepC r l p t c best) ∧ stepL r l p c (costs best) = costs (stepC r l p t c best) := by
  have inner : ∀ (e : KS × Way) (d : List (KS × Way)), KNd d → KNd ((movesP r l p e.1 c).foldl (fun d m => putC d m.2.1 (wayOf t e.2 m)) d) ∧ (movesP r l p e.1 c).foldl (fun d m => putL d m.2.1 (e.2.1 + m.2.2)) (costs d) = costs ((movesP r l p e.1 c).foldl (fun d m => putC d m.2.1 (wayOf t e.2 m)) d) :=
    fun e d h => foldl_costs (fun d m h => putC_nd h) (fun d m h => put_costs (w := wayOf t e.2 m) h) _ d h
  have := foldl_costs (f := fun d (e : KS × Way) => (movesP r l p e.1 c).foldl (fun d m => putC d m.2.1 (wayOf t e.2 m)) d) (g := fun d (e : KS × Way) => (movesP r l p e.1 c).foldl (fun d m => putL d m.2.1 (e.2.1 + m.2.2)) d) (fun d e h => (inner e d h).1) (fun d e h => (inner e d h).2) best [] List.nodup_nil
  refine ⟨this.1, ?_⟩
  rw [← show (best.foldl _ []) = stepC r l p t c best from rfl, ← this.2]
  unfold stepL costs aMap
  rw [List.foldl_map]
  rfl
theorem go_costs (r l p : Int) : ∀ (row : List Int) (t : Int) (best : List (KS × Way)), goL r l p row (costs best) = costs (goC r l p t row best)
  | [], _, _ => rfl
  | c :: row, t, best => by
    show goL r l p row (stepL r l p c (costs best)) = _
    rw [(step_costs r l p t c best).2]
    exact go_costs r l p row (t + 1) _
theorem end_costs (r l p : Int) (row : List Int) : endL r l p row = (endC r l p row).map (·.1) := by
  unfold endL endC
  rw [show kL0 = costs kC0 from rfl, go_costs r l p row 0 kC0]
  unfold costs aMap
  rw [List.filter_map, List.map_map, List.map_map]
  rfl
theorem minW_mem : ∀ (xs : List Way) (x : Way), xs.foldl (fun a y => if y.1 < a.1 then y else a) x ∈ x :: xs
  | [], x => by simp
  | y :: xs, x => by
    rw [List.foldl_cons]
    have := minW_mem xs (if y.1 < x.1 then y else x)
    rcases List.mem_cons.mp this with h | h
    · rw [h]
      split <;> simp
    · exact List.mem_cons_of_mem _ (List.mem_cons_of_mem _ h)
theorem minW_min : ∀ (xs : List Way) (x : Way), (xs.foldl (fun a y => if y.1 < a.1 then y else a) x).1 = (xs.map (·.1)).foldl min x.1
  | [], x => rfl
  | y :: xs, x => by
    rw [List.foldl_cons, List.map_cons, List.foldl_cons, minW_min xs]
    congr 1
    split <;> omega
theorem cheap_mem {r l p : Int} {row : List Int} (h : endC r l p row ≠ []) : cheapP r l p row ∈ endC r l p row := by
  unfold cheapP
  cases e : endC r l p row with
  | nil => exact absurd e h
  | cons x xs => exact minW_mem xs x
theorem cheap_min {r l p : Int} {row : List Int} (h : endC r l p row ≠ []) : Ev.minL (endL r l p row) = some (cheapP r l p row).1 := by
  rw [end_costs]
  unfold cheapP
  cases e : endC r l p row with
  | nil => exact absurd e h
  | cons x xs => exact congrArg some (minW_min xs x).symm
/-! ### there is a way that leaves nothing behind -/
theorem fold_keys (t : Int) (w : Way) : ∀ (ms : List Mv) (d : List (KS × Way)) (j : KS), j ∈ ((ms.foldl (fun d m => putC d m.2.1 (wayOf t w m)) d).map (·.1)) ↔ j ∈ d.map (·.1) ∨ ∃ m ∈ ms, j = m.2.1
  | [], d, j => by simp
  | m :: ms, d, j => by
    rw [List.foldl_cons, fold_keys t w ms]
    rw [putC_keys]
    constructor
    · rintro ((h | h) | ⟨m', h1, h2⟩)
      · exact .inr ⟨m, by simp, h⟩
      · exact .inl h
      · exact .inr ⟨m', by simp [h1], h2⟩
    · rintro (h | ⟨m', h1, h2⟩)
      · exact .inl (.inr h)
      · rcases List.mem_cons.mp h1 with e | e
        · subst e; exact .inl (.inl h2)
        · exact .inr ⟨m', e, h2⟩
theorem fold_keys2 (r l p t c : Int) : ∀ (best : List (KS × Way)) (d : List (KS × Way)) (j : KS), j ∈ ((best.foldl (fun d e => (movesP r l p e.1 c).foldl (fun d m => putC d m.2.1 (wayOf t e.2 m)) d) d).map (·.1)) ↔ j ∈ d.map (·.1) ∨ ∃ e ∈ best, ∃ m ∈ movesP r l p e.1 c, j = m.2.1
  | [], d, j => by simp
  | e :: best, d, j => by
    rw [List.foldl_cons, fold_keys2 r l p t c best, fold_keys]
    constructor
    · rintro ((h | h) | ⟨e', h1, h2⟩)
      · exact .inl h
      · exact .inr ⟨e, by simp, h⟩
      · exact .inr ⟨e', by simp [h1], h2⟩
    · rintro (h | ⟨e', h1, h2⟩)
      · exact .inl (.inl h)
      · rcases List.mem_cons.mp h1 with q | q
        · subst q; exact .inl (.inr h2)
        · exact .inr ⟨e', q, h2⟩
theorem step_keys {r l p t c : Int} {best : List (KS × Way)} {j : KS} : j ∈ (stepC r l p t c best).map (·.1) ↔ ∃ s ∈ best.map (·.1), ∃ m ∈ movesP r l p s c, j = m.2.1 := by
  unfold stepC
  rw [fold_keys2]
  simp only [List.map_nil, List.not_mem_nil, false_or]
  constructor
  · rintro ⟨e, h1, h2⟩
    exact ⟨e.1, List.mem_map_of_mem (f := Prod.fst) h1, h2⟩
  · rintro ⟨s, h1, h2⟩
    obtain ⟨e, h3, rfl⟩ := List.mem_map.mp h1
    exact ⟨e, h3, h2⟩
theorem mx0_nn {i : Int} (h : 0 ≤ i) : mx0 i = i := by unfold mx0; split <;> omega
theorem mx0_np {i : Int} (h : i ≤ 0) : mx0 i = 0 := by unfold mx0; split <;> omega
theorem mx0_ge (i : Int) : 0 ≤ mx0 i := by unfold mx0; split <;> omega
/-- q: how many ticks till the next one at which it can begin -/
def Fit (l q : Int) (s : KS) : Prop := 0 ≤ s.1 ∧ s.1 ≤ q ∧ 0 ≤ s.2 ∧ s.2 ≤ l - 1 - q
theorem emod_prev {l m : Int} (hl : 1 ≤ l) : (m - 1) % l = if m % l = 0 then l - 1 else m % l - 1 := by
  have h1 := Int.emod_nonneg m (show l ≠ 0 by omega)
  have h2 := Int.emod_lt_of_pos m (show 0 < l by omega)
  have h3 := Int.emod_add_mul_ediv m l
  split
  · rename_i h0
    have : m - 1 = (l - 1) + l * (m / l - 1) := by
      rw [Int.mul_sub]
      omega
    rw [this, Int.add_mul_emod_self_left]
    exact Int.emod_eq_of_lt (by omega) (by omega)
  · rename_i h0
    have : m - 1 = (m % l - 1) + l * (m / l) := by omega
    rw [this, Int.add_mul_emod_self_left]
    exact Int.emod_eq_of_lt (by omega) (by omega)
theorem fit_step {r l p c m : Int} {s : KS} (hl : 1 ≤ l) (hr : l ≤ r) (hc : c = 0 ∨ c = 1) (h : Fit l (m % l) s) : ∃ mv ∈ movesP r l p s c, Fit l ((m - 1) % l) mv.2.1 := by
  obtain ⟨h1, h2, h3, h4⟩ := h
  have q0 := Int.emod_nonneg m (show l ≠ 0 by omega)
  have q1 := Int.emod_lt_of_pos m (show 0 < l by omega)
  rw [emod_prev hl]
  by_cases hq : m % l = 0
  · rw [if_pos hq]
    by_cases hb : s.2 + c > 0
    · have hs : s.1 = 0 := by omega
      refine ⟨(1, (l - 1, mx0 (s.2 + c - r)), p + mx0 (s.2 + c - r)), ?_, ?_⟩
      · unfold movesP
        rw [if_pos ⟨hs, hb⟩]
        simp
      · refine ⟨by show 0 ≤ l - 1; omega, by show l - 1 ≤ l - 1; omega, mx0_ge _, ?_⟩
        show mx0 (s.2 + c - r) ≤ _
        rw [mx0_np (by omega)]
        omega
    · refine ⟨(0, (mx0 (s.1 - 1), s.2 + c), s.2 + c), by unfold movesP; simp, ?_⟩
      refine ⟨mx0_ge _, ?_, ?_, ?_⟩
      · show mx0 (s.1 - 1) ≤ _
        rw [mx0_np (by omega)]; omega
      · show 0 ≤ s.2 + c
        omega
      · show s.2 + c ≤ _
        omega
  · rw [if_neg hq]
    refine ⟨(0, (mx0 (s.1 - 1), s.2 + c), s.2 + c), by unfold movesP; simp, ?_⟩
    refine ⟨mx0_ge _, ?_, ?_, ?_⟩
    · show mx0 (s.1 - 1) ≤ _
      unfold mx0
      split <;> omega
    · show 0 ≤ s.2 + c
      omega
    · show s.2 + c ≤ _
      omega
theorem fit_go {r l p : Int} (hl : 1 ≤ l) (hr : l ≤ r) : ∀ (row : List Int) (t : Int) (best : List (KS × Way)), (∀ c ∈ row, c = 0 ∨ c = 1) → (∃ s ∈ best.map (·.1), Fit l (((row.length : Int) - 1) % l) s) → ∃ s ∈ (goC r l p t row best).map (·.1), Fit l (-1 % l) s
  | [], _, _, _, h => h
  | c :: row, t, best, hc, ⟨s, h1, h2⟩ => by
    have e : ((c :: row).length : Int) - 1 = row.length := by simp
    rw [e] at h2
    obtain ⟨mv, h3, h4⟩ := fit_step (p := p) hl hr (hc c (by simp)) h2
    exact fit_go hl hr row (t + 1) (stepC r l p t c best) (fun x hx => hc x (by simp [hx])) ⟨mv.2.1, step_keys.mpr ⟨s, h1, mv, h3, rfl⟩, h4⟩
theorem end_some {r l p : Int} {row : List Int} (hl : 1 ≤ l) (hr : l ≤ r) (hc : ∀ c ∈ row, c = 0 ∨ c = 1) : endC r l p row ≠ [] := by
  obtain ⟨s, h1, h2⟩ := fit_go (p := p) hl hr row 0 kC0 hc ⟨(0, 0), by simp [kC0], by
    have q0 := Int.emod_nonneg ((row.length : Int) - 1) (show l ≠ 0 by omega)
    have q1 := Int.emod_lt_of_pos ((row.length : Int) - 1) (show 0 < l by omega)
    exact ⟨Int.le_refl _, q0, Int.le_refl _, by show 0 ≤ l - 1 - _; omega⟩⟩
  obtain ⟨e, h3, rfl⟩ := List.mem_map.mp h1
  have hz : (-1 : Int) % l = l - 1 := by
    have := emod_prev (m := 0) hl
    rw [Int.zero_emod, if_pos rfl] at this
    simpa using this
  obtain ⟨a1, a2, a3, a4⟩ := h2
  rw [hz] at a4
  have : e.1.2 = 0 := by omega
  intro hn
  have hm : e.2 ∈ endC r l p row := List.mem_map_of_mem (f := Prod.snd) (List.mem_filter.mpr ⟨h3, by simpa using this⟩)
  rw [hn] at hm
  cases hm
/-! ### ways are followed -/
/-- one tick: busy, waiting, spent -/
abbrev Sim := Int × Int × Int
def simS (r l p : Int) (s : Sim) (c : Int) (b : Bool) : Option Sim :=
  if b = true then (if s.1 > 0 ∨ s.2.1 + c = 0 then none else some (mx0 (l - 1), mx0 (s.2.1 + c - r), s.2.2 + p + mx0 (s.2.1 + c - r)))
  else some (mx0 (s.1 - 1), s.2.1 + c, s.2.2 + (s.2.1 + c))
def simG (r l p : Int) : List (Int × Bool) → Sim → Option Sim
  | [], s => some s
  | x :: xs, s => match simS r l p s x.1 x.2 with
    | some s' => simG r l p xs s'
    | none => none
theorem simG_app {r l p : Int} : ∀ {xs : List (Int × Bool)} {s u v : Sim} {x : Int × Bool}, simG r l p xs s = some u → simS r l p u x.1 x.2 = some v → simG r l p (xs ++ [x]) s = some v
  | [], s, u, v, x, h, h2 => by
    cases h
    show (match simS r l p _ x.1 x.2 with | some s' => simG r l p [] s' | none => none) = _
    rw [h2]; rfl
  | y :: xs, s, u, v, x, h, h2 => by
    unfold simG at h
    split at h
    · rename_i s' e
      rw [List.cons_append]
      unfold simG
      rw [e]
      exact simG_app h h2
    · cases h
/-- the ticks at which runs begin -/
def idx (o : Int) : List Bool → List Int
  | [] => []
  | b :: r => (if b = true then [o] else []) ++ idx (o + 1) r
theorem idx_app : ∀ (bs : List Bool) (o : Int) (b : Bool), idx o (bs ++ [b]) = idx o bs ++ if b = true then [o + bs.length] else []
  | [], o, b => by simp [idx]
  | a :: r, o, b => by
    rw [List.cons_append]
    unfold idx
    rw [idx_app r, List.append_assoc, List.length_cons]
    have : o + 1 + (r.length : Int) = o + ((r.length + 1 : Nat) : Int) := by omega
    rw [this]
theorem idx_mem : ∀ {bs : List Bool} {o k : Int}, k ∈ idx o bs ↔ ∃ j : Nat, k = o + j ∧ bs[j]? = some true
  | [], o, k => by simp [idx]
  | a :: r, o, k => by
    unfold idx
    rw [List.mem_append, idx_mem]
    constructor
    · rintro (h | ⟨j, h1, h2⟩)
      · cases a with
        | false => simp at h
        | true => exact ⟨0, by simpa using h, rfl⟩
      · exact ⟨j + 1, by omega, by simpa using h2⟩
    · rintro ⟨j, h1, h2⟩
      cases j with
      | zero =>
        simp at h2
        subst h2
        left
        simp
        simpa using h1
      | succ j => exact .inr ⟨j, by omega, by simpa using h2⟩
theorem idx_asc : ∀ (bs : List Bool) (o : Int), (idx o bs).Pairwise (· < ·) ∧ ∀ k ∈ idx o bs, o ≤ k ∧ k < o + bs.length
  | [], o => ⟨.nil, fun k h => by cases h⟩
  | a :: r, o => by
    obtain ⟨h1, h2⟩ := idx_asc r (o + 1)
    unfold idx
    refine ⟨List.pairwise_append.mpr ⟨by split <;> simp, h1, fun x hx y hy => ?_⟩, fun k hk => ?_⟩
    · have := h2 y hy
      split at hx
      · rw [List.mem_singleton.mp hx]; omega
      · cases hx
    · rw [List.length_cons]
      rcases List.mem_append.mp hk with q | q
      · split at q
        · rw [List.mem_singleton.mp q]; omega
        · cases q
      · have := h2 k q
        omega
/-- an entry of the table tells what it costs to go so -/
def Good (r l p : Int) (done : List Int) (e : KS × Way) : Prop := 0 ≤ e.1.1 ∧ 0 ≤ e.1.2 ∧ ∃ bs : List Bool, bs.length = done.length ∧ simG r l p (done.zip bs) (0, 0, 0) = some (e.1.1, e.1.2, e.2.1) ∧ e.2.2 = idx 0 bs
theorem good_step {r l p c : Int} {done : List Int} {e : KS × Way} (hl : 1 ≤ l) (hc : c = 0 ∨ c = 1) (h : Good r l p done e) : ∀ m ∈ movesP r l p e.1 c, Good r l p (done ++ [c]) (m.2.1, wayOf done.length e.2 m) := by
  obtain ⟨b1, b2, bs, h1, h2, h3⟩ := h
  have go : ∀ (b : Bool) (v : Sim), simS r l p (e.1.1, e.1.2, e.2.1) c b = some v → simG r l p ((done ++ [c]).zip (bs ++ [b])) (0, 0, 0) = some v := fun b v hv => by
    rw [List.zip_append h1.symm]
    exact simG_app h2 hv
  intro m hm
  unfold movesP at hm
  rcases List.mem_cons.mp hm with q | q
  · subst q
    refine ⟨mx0_ge _, by show 0 ≤ e.1.2 + c; omega, bs ++ [false], by simp [h1], ?_, ?_⟩
    · exact go false _ rfl
    · rw [idx_app]
      simp [wayOf, h3]
  · split at q
    · rename_i hcnd
      rw [List.mem_singleton] at q
      subst q
      refine ⟨by show 0 ≤ l - 1; omega, mx0_ge _, bs ++ [true], by simp [h1], ?_, ?_⟩
      · refine (go true (mx0 (l - 1), mx0 (e.1.2 + c - r), e.2.1 + p + mx0 (e.1.2 + c - r)) ?_).trans ?_
        · unfold simS
          rw [if_pos rfl, if_neg (by show ¬ (e.1.1 > 0 ∨ e.1.2 + c = 0); omega)]
        · show some (mx0 (l - 1), mx0 (e.1.2 + c - r), e.2.1 + p + mx0 (e.1.2 + c - r)) = some (l - 1, mx0 (e.1.2 + c - r), e.2.1 + (p + mx0 (e.1.2 + c - r)))
          rw [mx0_nn (show 0 ≤ l - 1 by omega), Int.add_assoc]
      · rw [idx_app]
        simp [wayOf, h3, h1]
    · cases q
theorem putC_all {P : KS × Way → Prop} {d : List (KS × Way)} {s : KS} {w : Way} (h : ∀ e ∈ d, P e) (hk : P (s, w)) : ∀ e ∈ putC d s w, P e := by
  unfold putC
  split
  · exact aPut_mono h hk
  · split
    · exact aPut_mono h hk
    · exact h
theorem foldl_all {γ δ : Type} {P : List δ → Prop} {f : List δ → γ → List δ} : ∀ (xs : List γ) (d : List δ), P d → (∀ d, P d → ∀ x ∈ xs, P (f d x)) → P (xs.foldl f d)
  | [], _, h, _ => h
  | x :: xs, d, h, hf => by
    rw [List.foldl_cons]
    exact foldl_all xs _ (hf d h x (by simp)) fun d h y hy => hf d h y (by simp [hy])
theorem good_stepC {r l p c : Int} {done : List Int} {best : List (KS × Way)} (hl : 1 ≤ l) (hc : c = 0 ∨ c = 1) (h : ∀ e ∈ best, Good r l p done e) : ∀ e ∈ stepC r l p done.length c best, Good r l p (done ++ [c]) e := by
  unfold stepC
  refine foldl_all (P := fun d => ∀ e ∈ d, Good r l p (done ++ [c]) e) best [] (fun e he => by cases he) fun d hd e he => ?_
  refine foldl_all (P := fun d => ∀ e ∈ d, Good r l p (done ++ [c]) e) _ d hd fun d hd m hm => ?_
  exact putC_all hd (good_step hl hc (h e he) m hm)
theorem good_go {r l p : Int} (hl : 1 ≤ l) : ∀ (row done : List Int) (best : List (KS × Way)), (∀ c ∈ row, c = 0 ∨ c = 1) → (∀ e ∈ best, Good r l p done e) → ∀ e ∈ goC r l p done.length row best, Good r l p (done ++ row) e
  | [], done, best, _, h => by rw [List.append_nil]; exact h
  | c :: row, done, best, hc, h => by
    have := good_go hl row (done ++ [c]) (stepC r l p done.length c best) (fun x hx => hc x (by simp [hx])) (good_stepC hl (hc c (by simp)) h)
    rw [List.length_append, List.append_assoc] at this
    exact this
theorem end_good {r l p : Int} {row : List Int} (hl : 1 ≤ l) (hc : ∀ c ∈ row, c = 0 ∨ c = 1) {w : Way} (h : w ∈ endC r l p row) : ∃ (bs : List Bool) (b : Int), bs.length = row.length ∧ simG r l p (row.zip bs) (0, 0, 0) = some (b, 0, w.1) ∧ w.2 = idx 0 bs := by
  obtain ⟨e, h1, rfl⟩ := List.mem_map.mp h
  obtain ⟨h1, h2⟩ := List.mem_filter.mp h1
  have := good_go (p := p) hl row [] kC0 hc (fun e he => by
    rw [List.mem_singleton.mp he]
    exact ⟨Int.le_refl _, Int.le_refl _, [], rfl, rfl, rfl⟩) e h1
  obtain ⟨_, _, bs, g1, g2, g3⟩ := this
  rw [List.nil_append] at g1 g2
  have h2 : e.1.2 = 0 := of_decide_eq_true h2
  rw [h2] at g2
  exact ⟨bs, _, g1, g2, g3⟩
/-! ### how many stands there are -/
def In (N : Nat) (s : KS) : Prop := 0 ≤ s.1 ∧ s.1 ≤ 2 ∧ 0 ≤ s.2 ∧ s.2 ≤ N
theorem in_step {r l p c : Int} {N : Nat} {s : KS} (hl : 1 ≤ l) (h3 : l ≤ 3) (hr : 0 ≤ r) (hc : c = 0 ∨ c = 1) (h : In N s) : ∀ m ∈ movesP r l p s c, In (N + 1) m.2.1 := by
  obtain ⟨a1, a2, a3, a4⟩ := h
  intro m hm
  unfold movesP at hm
  rcases List.mem_cons.mp hm with q | q
  · subst q
    refine ⟨mx0_ge _, ?_, by show 0 ≤ s.2 + c; omega, by show s.2 + c ≤ ((N + 1 : Nat) : Int); omega⟩
    show mx0 (s.1 - 1) ≤ 2
    unfold mx0
    split <;> omega
  · split at q
    · rw [List.mem_singleton] at q
      subst q
      refine ⟨by show 0 ≤ l - 1; omega, by show l - 1 ≤ 2; omega, mx0_ge _, ?_⟩
      show mx0 (s.2 + c - r) ≤ ((N + 1 : Nat) : Int)
      unfold mx0
      split <;> omega
    · cases q
theorem in_len {β : Type} {N : Nat} {d : List (KS × β)} (hn : KNd d) (h : ∀ s ∈ d.map (·.1), In N s) : d.length ≤ 3 * (N + 1) := by
  have := nodup_map_le (f := fun s : KS => s.1.toNat + 3 * s.2.toNat) (N := 3 * (N + 1)) hn (fun x hx y hy e => by
    obtain ⟨a1, a2, a3, a4⟩ := h x hx
    obtain ⟨b1, b2, b3, b4⟩ := h y hy
    obtain ⟨x1, x2⟩ := x
    obtain ⟨y1, y2⟩ := y
    dsimp only at *
    have e1 : x1 = y1 := by omega
    have e2 : x2 = y2 := by omega
    rw [e1, e2]) (fun x hx => by
    obtain ⟨a1, a2, a3, a4⟩ := h x hx
    obtain ⟨x1, x2⟩ := x
    dsimp only at *
    omega)
  rw [List.length_map] at this
  exact this
end Ev

set_option Elab.async false
set_option linter.all false
set_option maxRecDepth 100000
set_option maxHeartbeats 4000000
namespace Ev
open PySem PySem.Spec PyProof.Rows L2
-- moves: 0 machine, 1 stand, 2 coming, 3 count, 4 found, 5 busy, 6 room, 7 length, 8 price, 9 left
noncomputable def m_moves (call : Tab) : S := (sSeq (sSet (.tp [(.nm 5), (.nm 3)]) (eVar 1)) (sSeq (sSet (.tp [(.nm 6), (.nm 7), (.nm 8)]) (eVar 0)) (sSeq (sSet (.nm 3) (eBin (binD .Add) (eVar 3) (eVar 2))) (sSeq (sSet (.nm 4) (eApp lstP (esCons (eApp tupP (esCons (eK (.int 0)) (esCons (eApp tupP (esCons (gE (eApp maxD (esCons (eK (.int 0)) (esCons (eBin (binD .Sub) (eVar 5) (eK (.int 1))) esNil)))) (esCons (eVar 3) esNil))) (esCons (eVar 3) esNil)))) esNil))) (sSeq (sIf (tAn (tBl (gE (eBin (cmpD .Eq) (eVar 5) (eK (.int 0))))) (tBl (gE (eBin (cmpD .Gt) (eVar 3) (eK (.int 0)))))) (sSeq (sSet (.nm 9) (gE (eApp maxD (esCons (eK (.int 0)) (esCons (eBin (binD .Sub) (eVar 3) (eVar 6)) esNil))))) (sSeq (sExpr (eMt "list" appendD (eVar 4) (esCons (eApp tupP (esCons (eK (.int 1)) (esCons (eApp tupP (esCons (eBin (binD .Sub) (eVar 7) (eK (.int 1))) (esCons (eVar 9) esNil))) (esCons (eBin (binD .Add) (eVar 8) (eVar 9)) esNil)))) esNil))) sNx)) sNx) (sSeq (sRet (eVar 4)) sNx))))))
-- cheapest: 0 machine, 1 row, 2 best, 3 found, 4 tick, 5 coming, 6 later, 7 stand, 8 paid, 9 ticks, 10 begins, 11 there, 12 more, 13 way
noncomputable def cheapest_b1 (call : Tab) : S := (sSeq (sSet (.nm 13) (eApp tupP (esCons (eBin (binD .Add) (eVar 8) (eVar 12)) (esCons (eBin (binD .Add) (eVar 9) (eBin (binD .Mult) (eApp tupP (esCons (eVar 4) esNil)) (eVar 10))) esNil)))) (sSeq (sIf (tOr' (tBl (gE (eBin (cmpD .NotIn) (eVar 11) (eVar 6)))) (tBl (gE (eBin (cmpD .Lt) (gE (eBin ixD (eVar 13) (eK (.int 0)))) (gE (eBin ixD (gE (eBin ixD (eVar 6) (eVar 11))) (eK (.int 0)))))))) (sSeq (sSub (eVar 6) (eVar 11) (eVar 13)) sNx) sNx) sNx))
noncomputable def cheapest_b2 (call : Tab) : S := (sSeq (sFor (iSeq (eDef call "moves" (esCons (eVar 0) (esCons (eVar 7) (esCons (eVar 5) esNil))))) (.tp [(.nm 10), (.nm 11), (.nm 12)]) (cheapest_b1 call)) sNx)
noncomputable def cheapest_b3 (call : Tab) : S := (sSeq (sSet (.nm 6) newD) (sSeq (sFor (iIt (eVar 2)) (.tp [(.nm 7), (.tp [(.nm 8), (.nm 9)])]) (cheapest_b2 call)) (sSeq (sSet (.nm 2) (eVar 6)) sNx)))
noncomputable def m_cheapest (call : Tab) : S := (sSeq (sSet (.nm 2) (eDct1 (eK (.tup [.int 0, .int 0])) (eApp tupP (esCons (eK (.int 0)) (esCons (eApp tupP esNil) esNil))))) (sSeq (sFor (iEn (esCons (eVar 1) esNil)) (.tp [(.nm 4), (.nm 5)]) (cheapest_b3 call)) (sSeq (sSet (.nm 3) (eLc (iIt (eVar 2)) (.tp [(.nm 7), (.nm 13)]) (tBl (gE (eBin (cmpD .Eq) (gE (eBin ixD (eVar 7) (eK (.int 1)))) (eK (.int 0))))) (eVar 13) [7, 13])) (sSeq (sRet (eMinK 0 (eVar 3))) sNx))))
-- best_cost: 0 machine, 1 row
noncomputable def m_best_cost (call : Tab) : S := (sSeq (sExpr (eDef call "need_machine" (esCons (eVar 0) esNil))) (sSeq (sExpr (eDef call "need_row" (esCons (eVar 1) esNil))) (sSeq (sRet (gE (eBin ixD (eDef call "cheapest" (esCons (eVar 0) (esCons (eVar 1) esNil))) (eK (.int 0))))) sNx)))
-- best_starts: 0 machine, 1 row
noncomputable def m_best_starts (call : Tab) : S := (sSeq (sExpr (eDef call "need_machine" (esCons (eVar 0) esNil))) (sSeq (sExpr (eDef call "need_row" (esCons (eVar 1) esNil))) (sSeq (sRet (gE (eBin ixD (eDef call "cheapest" (esCons (eVar 0) (esCons (eVar 1) esNil))) (eK (.int 1))))) sNx)))
abbrev ksD (s : KS) : D := .tup [.int s.1, .int s.2]
abbrev ksN (s : KS) : NestedKey := .tup [.num s.1, .num s.2]
theorem ksE : KeyE ksD ksN := ⟨fun a => ⟨_, rfl⟩, fun a => rfl, fun a b h => by
  obtain ⟨a1, a2⟩ := a
  obtain ⟨b1, b2⟩ := b
  simp only [ksN, NestedKey.tup.injEq, List.cons.injEq, NestedKey.num.injEq, and_true] at h
  rw [h.1, h.2]⟩
abbrev mvD (m : Mv) : D := .tup [.int m.1, ksD m.2.1, .int m.2.2]
abbrev wayD (w : Way) : D := .tup [.int w.1, .tup (w.2.map .int)]
def S_moves (c : Tab) : Prop := ∀ r l p s coming μ, run c "moves" [mD r l p, ksD s, .int coming] μ = .ok (.fl ((movesP r l p s coming).map mvD)) μ
theorem low_mv {n : Nat} {ms : List Mv} : D.lows n (ms.map mvD) = true := lows_map fun _ _ => rfl
theorem ok_moves {c c' : Tab} (h : c' "moves" = some (mkFn 3 7 2 m_moves c)) : S_moves c' := by
  intro r l p ⟨busy, cnt⟩ coming μ
  rw [run_mk h rfl, gcM2]
  have hk : ∀ xs, kindD (μ ++ [.lst xs]) (.loc μ.length) = "list" := fun xs => kind_at lst_at_new
  have ha : ∀ x y, appendD (.loc μ.length) [y] (μ ++ [.lst [x]]) = some (.non, μ ++ [.lst ([x] ++ [y])]) := fun x y => append_last (by simp)
  suffices hs : runS (m_moves c [some (mD r l p), some (ksD (busy, cnt)), some (.int coming), none, none, none, none, none, none, none] μ) = .ok (.loc μ.length) (μ ++ [.lst ((movesP r l p (busy, cnt) coming).map mvD)]) by
    rw [show ([mD r l p, ksD (busy, cnt), .int coming].map some ++ List.replicate 7 none) = [some (mD r l p), some (ksD (busy, cnt)), some (.int coming), none, none, none, none, none, none, none] from rfl, hs]
    exact gc_flA low_mv
  unfold m_moves
  simp only [mD, List.length_cons, List.length_nil, if_true, List.map_cons, List.map_nil, List.replicate_zero, List.replicate_succ, List.append_nil, List.cons_append, List.nil_append, seq_eq, sRet, sNx, sIf, sExpr, sSet, sRaise, eAn, eOr, eNo, eUn, eBin, eApp, esCons, esNil, eIf, eChain, eVar, eK, tNo, tTru, tBl, tAn, tOr', gE, gc_id, gc_ex, List.getElem?_cons_zero, List.getElem?_cons_succ, bind_ok, bind_ex, st_ok, st_ex, r_some, cmpD, binD, runS, eDef_eq, Tg.sets, set_tp, setE_z, setE_s, Option.map_some, List.set_cons_zero, List.set_cons_succ, Bool.false_eq_true, if_false, tru_bl, Bool.not_true, Bool.not_false, addD_int, subD_int, maxD_int, eqD_int, icmp, tup2, tup3, lst1]
  by_cases h1 : busy = 0
  · by_cases h2 : cnt + coming > 0
    · subst h1
      simp [List.length_cons, List.length_nil, if_true, List.map_cons, List.map_nil, List.replicate_zero, List.replicate_succ, List.append_nil, List.cons_append, List.nil_append, seq_eq, sRet, sNx, sIf, sExpr, sSet, sRaise, eAn, eOr, eNo, eUn, eBin, eApp, esCons, esNil, eIf, eChain, eVar, eK, tNo, tTru, tBl, tAn, tOr', gE, gc_id, gc_ex, List.getElem?_cons_zero, List.getElem?_cons_succ, bind_ok, bind_ex, st_ok, st_ex, r_some, cmpD, binD, runS, eDef_eq, Tg.sets, set_tp, setE_z, setE_s, Option.map_some, List.set_cons_zero, List.set_cons_succ, Bool.false_eq_true, if_false, tru_bl, Bool.not_true, Bool.not_false, h2, addD_int, subD_int, maxD_int, tup2, tup3, eMt, hk, ha, movesP, mx0]
    · subst h1
      simp [List.length_cons, List.length_nil, if_true, List.map_cons, List.map_nil, List.replicate_zero, List.replicate_succ, List.append_nil, List.cons_append, List.nil_append, seq_eq, sRet, sNx, sIf, sExpr, sSet, sRaise, eAn, eOr, eNo, eUn, eBin, eApp, esCons, esNil, eIf, eChain, eVar, eK, tNo, tTru, tBl, tAn, tOr', gE, gc_id, gc_ex, List.getElem?_cons_zero, List.getElem?_cons_succ, bind_ok, bind_ex, st_ok, st_ex, r_some, cmpD, binD, runS, eDef_eq, Tg.sets, set_tp, setE_z, setE_s, Option.map_some, List.set_cons_zero, List.set_cons_succ, Bool.false_eq_true, if_false, tru_bl, Bool.not_true, Bool.not_false, h2, movesP, mx0]
  · have h1' : (busy == 0) = false := by simpa using h1
    simp [List.length_cons, List.length_nil, if_true, List.map_cons, List.map_nil, List.replicate_zero, List.replicate_succ, List.append_nil, List.cons_append, List.nil_append, seq_eq, sRet, sNx, sIf, sExpr, sSet, sRaise, eAn, eOr, eNo, eUn, eBin, eApp, esCons, esNil, eIf, eChain, eVar, eK, tNo, tTru, tBl, tAn, tOr', gE, gc_id, gc_ex, List.getElem?_cons_zero, List.getElem?_cons_succ, bind_ok, bind_ex, st_ok, st_ex, r_some, cmpD, binD, runS, eDef_eq, Tg.sets, set_tp, setE_z, setE_s, Option.map_some, List.set_cons_zero, List.set_cons_succ, Bool.false_eq_true, if_false, tru_bl, Bool.not_true, Bool.not_false, h1, h1', movesP, mx0]
/-! ### the table -/
theorem set_self {μ : Mem} {n : Nat} {o : MO} (h : μ[n]? = some o) : μ.set n o = μ := by
  apply List.ext_getElem?
  intro i
  by_cases hi : n = i
  · subst hi
    rw [List.getElem?_set_self (List.getElem?_eq_some_iff.mp h).1, h]
  · rw [List.getElem?_set_ne hi]
abbrev encC (d : List (KS × Way)) : List (NestedKey × D × D) := encK ksD ksN wayD d
abbrev memC (μ : Mem) (d : List (KS × Way)) : Mem := μ ++ [.dct true (encC d)]
theorem dct_memC {μ : Mem} {d : List (KS × Way)} : dctAt (memC μ d) μ.length = some (true, encC d) := dct_new
theorem mul01 {t b : Int} {μ : Mem} (h : b = 0 ∨ b = 1) : mulD (.tup [.int t]) (.int b) μ = some (.tup ((if b = 1 then [t] else []).map .int), μ) := by
  rcases h with rfl | rfl <;> rfl
theorem set_memC {μ : Mem} {d d' : List (KS × Way)} : (memC μ d).set μ.length (.dct true (encC d')) = memC μ d' := by
  rw [set_new0]; rfl
section
variable {c : Tab} {x0 x1 x2 x3 x5 x7 : Option D} {μ : Mem}
theorem cheap_b1 {t : Int} {w : Way} {m : Mv} {d : List (KS × Way)} {x13 : Option D} (hm : m.1 = 0 ∨ m.1 = 1) (hw : w.2.length ≤ 100) (hd : d.length < 16777216) :
    cheapest_b1 c [x0, x1, x2, x3, some (.int t), x5, some (.loc μ.length), x7, some (.int w.1), some (.tup (w.2.map .int)), some (.int m.1), some (ksD m.2.1), some (.int m.2.2), x13] (memC μ d)
      = .nx [x0, x1, x2, x3, some (.int t), x5, some (.loc μ.length), x7, some (.int w.1), some (.tup (w.2.map .int)), some (.int m.1), some (ksD m.2.1), some (.int m.2.2), some (wayD (wayOf t w m))] (memC μ (putC d m.2.1 (wayOf t w m))) := by
  have h1 := mul01 (t := t) (μ := memC μ d) hm
  have h2 : addD (.tup (w.2.map .int)) (.tup ((if m.1 = 1 then [t] else []).map .int)) (memC μ d) = some (.tup ((w.2 ++ if m.1 = 1 then [t] else []).map .int), memC μ d) := cat_ints (by split <;> simp <;> omega)
  have h3 : ninD (ksD m.2.1) (.loc μ.length) (memC μ d) = some (.bl (!(aGet d m.2.1).isSome), memC μ d) := dnin_enc ksE dct_memC
  have hp : ∀ w', putD (.loc μ.length) (ksD m.2.1) (wayD w') (memC μ d) = some (memC μ (aPut d m.2.1 w')) := fun w' => by
    rw [dput_enc ksE dct_memC hd, set_memC]
  have hpw := hp (wayOf t w m)
  simp only [wayD, wayOf] at hpw
  unfold cheapest_b1
  simp only [List.length_cons, List.length_nil, if_true, List.map_cons, List.map_nil, List.replicate_zero, List.replicate_succ, List.append_nil, List.cons_append, List.nil_append, seq_eq, sRet, sNx, sIf, sExpr, sSet, sRaise, eAn, eOr, eNo, eUn, eBin, eApp, esCons, esNil, eIf, eChain, eVar, eK, tNo, tTru, tBl, tAn, tOr', gE, gc_id, gc_ex, List.getElem?_cons_zero, List.getElem?_cons_succ, bind_ok, bind_ex, st_ok, st_ex, r_some, cmpD, binD, runS, eDef_eq, Tg.sets, set_tp, setE_z, setE_s, Option.map_some, List.set_cons_zero, List.set_cons_succ, Bool.false_eq_true, if_false, tru_bl, Bool.not_true, Bool.not_false, tup1, tup2, addD_int, h1, h2]
  cases e : aGet d m.2.1 with
  | none =>
    have hq : putC d m.2.1 (wayOf t w m) = aPut d m.2.1 (wayOf t w m) := by unfold putC; rw [e]
    rw [hq]
    rw [e] at h3
    simp only [List.length_cons, List.length_nil, if_true, List.map_cons, List.map_nil, List.replicate_zero, List.replicate_succ, List.append_nil, List.cons_append, List.nil_append, seq_eq, sRet, sNx, sIf, sExpr, sSet, sRaise, eAn, eOr, eNo, eUn, eBin, eApp, esCons, esNil, eIf, eChain, eVar, eK, tNo, tTru, tBl, tAn, tOr', gE, gc_id, gc_ex, List.getElem?_cons_zero, List.getElem?_cons_succ, bind_ok, bind_ex, st_ok, st_ex, r_some, cmpD, binD, runS, eDef_eq, Tg.sets, set_tp, setE_z, setE_s, Option.map_some, List.set_cons_zero, List.set_cons_succ, Bool.false_eq_true, if_false, tru_bl, Bool.not_true, Bool.not_false, h3, Option.isSome_none, sSub, hpw, wayOf]
  | some u =>
    have h4 : ixD (.loc μ.length) (ksD m.2.1) (memC μ d) = some (wayD u, memC μ d) := dix_enc ksE dct_memC e
    rw [e] at h3
    have hq : putC d m.2.1 (wayOf t w m) = if (wayOf t w m).1 < u.1 then aPut d m.2.1 (wayOf t w m) else d := by unfold putC; rw [e]
    rw [hq]
    by_cases hlt : w.1 + m.2.2 < u.1
    · rw [if_pos (show (wayOf t w m).1 < u.1 from hlt)]
      simp only [List.length_cons, List.length_nil, if_true, List.map_cons, List.map_nil, List.replicate_zero, List.replicate_succ, List.append_nil, List.cons_append, List.nil_append, seq_eq, sRet, sNx, sIf, sExpr, sSet, sRaise, eAn, eOr, eNo, eUn, eBin, eApp, esCons, esNil, eIf, eChain, eVar, eK, tNo, tTru, tBl, tAn, tOr', gE, gc_id, gc_ex, List.getElem?_cons_zero, List.getElem?_cons_succ, bind_ok, bind_ex, st_ok, st_ex, r_some, cmpD, binD, runS, eDef_eq, Tg.sets, set_tp, setE_z, setE_s, Option.map_some, List.set_cons_zero, List.set_cons_succ, Bool.false_eq_true, if_false, tru_bl, Bool.not_true, Bool.not_false, h3, h4, Option.isSome_some, ix2_0, icmp, wayD, hlt, decide_true, sSub, hpw, wayOf]
    · rw [if_neg (show ¬ (wayOf t w m).1 < u.1 from hlt)]
      simp only [List.length_cons, List.length_nil, if_true, List.map_cons, List.map_nil, List.replicate_zero, List.replicate_succ, List.append_nil, List.cons_append, List.nil_append, seq_eq, sRet, sNx, sIf, sExpr, sSet, sRaise, eAn, eOr, eNo, eUn, eBin, eApp, esCons, esNil, eIf, eChain, eVar, eK, tNo, tTru, tBl, tAn, tOr', gE, gc_id, gc_ex, List.getElem?_cons_zero, List.getElem?_cons_succ, bind_ok, bind_ex, st_ok, st_ex, r_some, cmpD, binD, runS, eDef_eq, Tg.sets, set_tp, setE_z, setE_s, Option.map_some, List.set_cons_zero, List.set_cons_succ, Bool.false_eq_true, if_false, tru_bl, Bool.not_true, Bool.not_false, h3, h4, Option.isSome_some, ix2_0, icmp, wayD, hlt, decide_false, wayOf]
theorem moves_01 {r l p coming : Int} {s : KS} : ∀ m ∈ movesP r l p s coming, m.1 = 0 ∨ m.1 = 1 := by
  intro m hm
  unfold movesP at hm
  rcases List.mem_cons.mp hm with q | q
  · exact .inl (by rw [q])
  · split at q
    · exact .inr (by rw [List.mem_singleton.mp q])
    · cases q
theorem moves_len {r l p coming : Int} {s : KS} : (movesP r l p s coming).length ≤ 2 := by
  unfold movesP
  split <;> simp
theorem putC_len {d : List (KS × Way)} {s : KS} {w : Way} : (putC d s w).length ≤ d.length + 1 := by
  unfold putC
  split
  · exact aPut_len
  · split
    · exact aPut_len
    · omega
theorem foldC_len {t : Int} {w : Way} : ∀ {ms : List Mv} {d : List (KS × Way)}, (ms.foldl (fun d m => putC d m.2.1 (wayOf t w m)) d).length ≤ d.length + ms.length
  | [], d => by simp
  | m :: ms, d => by
    rw [List.foldl_cons, List.length_cons]
    have := foldC_len (t := t) (w := w) (ms := ms) (d := putC d m.2.1 (wayOf t w m))
    have := putC_len (d := d) (s := m.2.1) (w := wayOf t w m)
    omega
theorem foldC_len2 {r l p t coming : Int} : ∀ {best : List (KS × Way)} {d : List (KS × Way)}, (best.foldl (fun d e => (movesP r l p e.1 coming).foldl (fun d m => putC d m.2.1 (wayOf t e.2 m)) d) d).length ≤ d.length + 2 * best.length
  | [], d => by simp
  | e :: best, d => by
    rw [List.foldl_cons, List.length_cons]
    have h1 := foldC_len2 (r := r) (l := l) (p := p) (t := t) (coming := coming) (best := best) (d := (movesP r l p e.1 coming).foldl (fun d m => putC d m.2.1 (wayOf t e.2 m)) d)
    have h2 := foldC_len (t := t) (w := e.2) (ms := movesP r l p e.1 coming) (d := d)
    have h3 := moves_len (r := r) (l := l) (p := p) (coming := coming) (s := e.1)
    omega
theorem cheap_b2 (sm : S_moves c) {r l p t coming : Int} {e : KS × Way} {d : List (KS × Way)} {x10 x11 x12 x13 : Option D} (hw : e.2.2.length ≤ 100) (hd : d.length + 2 < 16777216) :
    ∃ y10 y11 y12 y13, cheapest_b2 c [some (mD r l p), x1, x2, x3, some (.int t), some (.int coming), some (.loc μ.length), some (ksD e.1), some (.int e.2.1), some (.tup (e.2.2.map .int)), x10, x11, x12, x13] (memC μ d)
      = .nx [some (mD r l p), x1, x2, x3, some (.int t), some (.int coming), some (.loc μ.length), some (ksD e.1), some (.int e.2.1), some (.tup (e.2.2.map .int)), y10, y11, y12, y13] (memC μ ((movesP r l p e.1 coming).foldl (fun d m => putC d m.2.1 (wayOf t e.2 m)) d)) := by
  have hi : iSeq (eDef c "moves" (esCons (eVar 0) (esCons (eVar 7) (esCons (eVar 5) esNil)))) [some (mD r l p), x1, x2, x3, some (.int t), some (.int coming), some (.loc μ.length), some (ksD e.1), some (.int e.2.1), some (.tup (e.2.2.map .int)), x10, x11, x12, x13] (memC μ d) = .ok (.fix ((movesP r l p e.1 coming).map mvD)) (memC μ d) := by
    refine iSeq_fl ?_
    simp only [List.length_cons, List.length_nil, if_true, List.map_cons, List.map_nil, List.replicate_zero, List.replicate_succ, List.append_nil, List.cons_append, List.nil_append, seq_eq, sRet, sNx, sIf, sExpr, sSet, sRaise, eAn, eOr, eNo, eUn, eBin, eApp, esCons, esNil, eIf, eChain, eVar, eK, tNo, tTru, tBl, tAn, tOr', gE, gc_id, gc_ex, List.getElem?_cons_zero, List.getElem?_cons_succ, bind_ok, bind_ex, st_ok, st_ex, r_some, cmpD, binD, runS, eDef_eq, Tg.sets, set_tp, setE_z, setE_s, Option.map_some, List.set_cons_zero, List.set_cons_succ, Bool.false_eq_true, if_false, tru_bl, Bool.not_true, Bool.not_false, sm r l p e.1 coming]
  obtain ⟨ρ', μ', h1, y10, y11, y12, y13, h2, h3⟩ := for_fix (it := _) (tg := .tp [.nm 10, .nm 11, .nm 12]) (b := cheapest_b1 c) mvD (movesP r l p e.1 coming)
    (fun pre ρ μ' => ∃ y10 y11 y12 y13, ρ = [some (mD r l p), x1, x2, x3, some (.int t), some (.int coming), some (.loc μ.length), some (ksD e.1), some (.int e.2.1), some (.tup (e.2.2.map .int)), y10, y11, y12, y13] ∧ μ' = memC μ (pre.foldl (fun d m => putC d m.2.1 (wayOf t e.2 m)) d)) hi ⟨_, _, _, _, rfl, rfl⟩
    (fun pre m post ρ μ' hp ⟨y10, y11, y12, y13, h1, h2⟩ => by
      subst h1 h2
      have hm : m ∈ movesP r l p e.1 coming := by rw [hp]; simp
      have hlen : pre.length ≤ 2 := by
        have := moves_len (r := r) (l := l) (p := p) (coming := coming) (s := e.1)
        rw [hp] at this
        simp at this
        omega
      have hfl := foldC_len (t := t) (w := e.2) (ms := pre) (d := d)
      have := cheap_b1 (c := c) (x0 := some (mD r l p)) (x1 := x1) (x2 := x2) (x3 := x3) (x5 := some (.int coming)) (x7 := some (ksD e.1)) (μ := μ) (t := t) (w := e.2) (m := m) (d := pre.foldl (fun d m => putC d m.2.1 (wayOf t e.2 m)) d) (x13 := y13) (moves_01 m hm) hw (by omega)
      refine ⟨_, _, _, rfl, this, _, _, _, _, rfl, ?_⟩
      rw [List.foldl_append]; rfl)
  subst h2 h3
  refine ⟨y10, y11, y12, y13, ?_⟩
  unfold cheapest_b2
  rw [seq_eq, h1]
  rfl
theorem cheap_b3 (sm : S_moves c) {r l p t coming : Int} {nb : Nat} {best : List (KS × Way)} {x6 x7 x8 x9 x10 x11 x12 x13 : Option D} (hb : dctAt μ nb = some (true, encC best)) (hw : ∀ e ∈ best, e.2.2.length ≤ 100) (hd : best.length ≤ 1000) :
    ∃ y7 y8 y9 y10 y11 y12 y13, cheapest_b3 c [some (mD r l p), x1, some (.loc nb), x3, some (.int t), some (.int coming), x6, x7, x8, x9, x10, x11, x12, x13] μ
      = .nx [some (mD r l p), x1, some (.loc μ.length), x3, some (.int t), some (.int coming), some (.loc μ.length), y7, y8, y9, y10, y11, y12, y13] (memC μ (stepC r l p t coming best)) := by
  have hi : iIt (eVar 2) [some (mD r l p), x1, some (.loc nb), x3, some (.int t), some (.int coming), some (.loc μ.length), x7, x8, x9, x10, x11, x12, x13] (memC μ []) = .ok (.di nb best.length) (memC μ []) := iIt_loc rfl (dct_app hb)
  have hlt := dctAt_lt hb
  obtain ⟨ρ', μ', h1, y7, y8, y9, y10, y11, y12, y13, h2, h3⟩ := for_src (it := iIt (eVar 2)) (tg := .tp [.nm 7, .tp [.nm 8, .nm 9]]) (b := cheapest_b2 c) (fun e : KS × Way => D.tup [ksD e.1, wayD e.2]) best
    (fun pre ρ μ' => ∃ y7 y8 y9 y10 y11 y12 y13, ρ = [some (mD r l p), x1, some (.loc nb), x3, some (.int t), some (.int coming), some (.loc μ.length), y7, y8, y9, y10, y11, y12, y13] ∧ μ' = memC μ (pre.foldl (fun d e => (movesP r l p e.1 coming).foldl (fun d m => putC d m.2.1 (wayOf t e.2 m)) d) [])) hi rfl ⟨_, _, _, _, _, _, _, rfl, rfl⟩
    (fun pre ρ μ' i ⟨_, _, _, _, _, _, _, _, h⟩ => by subst h; exact nxt_di (dct_app hb))
    (fun pre e post ρ μ' hp ⟨y7, y8, y9, y10, y11, y12, y13, h1, h2⟩ => by
      subst h1 h2
      have he : e ∈ best := by rw [hp]; simp
      have hfl := foldC_len2 (r := r) (l := l) (p := p) (t := t) (coming := coming) (best := pre) (d := [])
      have hpl : pre.length ≤ 1000 := by
        have : best.length = pre.length + (post.length + 1) := by rw [hp]; simp
        omega
      simp only [List.length_nil] at hfl
      obtain ⟨z10, z11, z12, z13, q⟩ := cheap_b2 (x1 := x1) (x2 := some (.loc nb)) (x3 := x3) (μ := μ) (x10 := y10) (x11 := y11) (x12 := y12) (x13 := y13) sm (r := r) (l := l) (p := p) (t := t) (coming := coming) (e := e) (d := pre.foldl (fun d e => (movesP r l p e.1 coming).foldl (fun d m => putC d m.2.1 (wayOf t e.2 m)) d) []) (hw e he) (by omega)
      refine ⟨_, _, _, rfl, q, _, _, _, _, _, _, _, rfl, ?_⟩
      rw [List.foldl_append]; rfl)
  subst h2 h3
  refine ⟨y7, y8, y9, y10, y11, y12, y13, ?_⟩
  unfold cheapest_b3
  have s1 : sSet (.nm 6) newD [some (mD r l p), x1, some (.loc nb), x3, some (.int t), some (.int coming), x6, x7, x8, x9, x10, x11, x12, x13] μ = .nx [some (mD r l p), x1, some (.loc nb), x3, some (.int t), some (.int coming), some (.loc μ.length), x7, x8, x9, x10, x11, x12, x13] (memC μ []) := by
    simp only [List.length_cons, List.length_nil, if_true, List.map_cons, List.map_nil, List.replicate_zero, List.replicate_succ, List.append_nil, List.cons_append, List.nil_append, seq_eq, sRet, sNx, sIf, sExpr, sSet, sRaise, eAn, eOr, eNo, eUn, eBin, eApp, esCons, esNil, eIf, eChain, eVar, eK, tNo, tTru, tBl, tAn, tOr', gE, gc_id, gc_ex, List.getElem?_cons_zero, List.getElem?_cons_succ, bind_ok, bind_ex, st_ok, st_ex, r_some, cmpD, binD, runS, eDef_eq, Tg.sets, set_tp, setE_z, setE_s, Option.map_some, List.set_cons_zero, List.set_cons_succ, Bool.false_eq_true, if_false, tru_bl, Bool.not_true, Bool.not_false, new_dct]
    rfl
  rw [seq_eq, s1]
  simp only []
  rw [seq_eq, h1]
  simp only [List.length_cons, List.length_nil, if_true, List.map_cons, List.map_nil, List.replicate_zero, List.replicate_succ, List.append_nil, List.cons_append, List.nil_append, seq_eq, sRet, sNx, sIf, sExpr, sSet, sRaise, eAn, eOr, eNo, eUn, eBin, eApp, esCons, esNil, eIf, eChain, eVar, eK, tNo, tTru, tBl, tAn, tOr', gE, gc_id, gc_ex, List.getElem?_cons_zero, List.getElem?_cons_succ, bind_ok, bind_ex, st_ok, st_ex, r_some, cmpD, binD, runS, eDef_eq, Tg.sets, set_tp, setE_z, setE_s, Option.map_some, List.set_cons_zero, List.set_cons_succ, Bool.false_eq_true, if_false, tru_bl, Bool.not_true, Bool.not_false]
  rfl
end
/-! ### loops with numbers -/
theorem for_enf {α : Type} {it : Iv} {tg : Tg} {b : S} {ρ : Env} {μ μ1 : Mem} (e : α → D) (as : List α) (I : List α → Env → Mem → Prop) (hi : it ρ μ = .ok (.enf (as.map e)) μ1) (h0 : I [] ρ μ1)
    (step : ∀ pre x post ρ μ, as = pre ++ x :: post → I pre ρ μ → ∃ ρ1 ρ' μ', Tg.set μ tg (.tup [.int pre.length, e x]) ρ = some ρ1 ∧ b ρ1 μ = .nx ρ' μ' ∧ I (pre ++ [x]) ρ' μ') : ∃ ρ' μ', sFor it tg b ρ μ = .nx ρ' μ' ∧ I as ρ' μ' := by
  obtain ⟨ρ', μ', h1, h2⟩ := fo_inv (src := .enf (as.map e)) (tg := tg) (b := b) (N := as.length) (fun i ρ μ => I (as.take i) ρ μ) (fun i ρ μ h hi => by
    obtain ⟨ρ1, ρ', μ', q1, q2, q3⟩ := step (as.take i) as[i] (as.drop (i + 1)) ρ μ (by rw [List.getElem_cons_drop, List.take_append_drop]) hi
    rw [List.length_take, Nat.min_eq_left (Nat.le_of_lt h)] at q1
    refine ⟨_, ρ1, ρ', μ', ?_, q1, q2, ?_⟩
    · simp [Src.nxt, h]
    · rw [List.take_succ, List.getElem?_eq_getElem h]; exact q3) (fun ρ μ _ => by simp [Src.nxt]) as.length 0 ρ μ1 (by omega) (by simpa using h0)
  refine ⟨ρ', μ', ?_, by simpa using h2⟩
  unfold sFor
  rw [hi]
  simp only [st_ok, Src.bnd, List.length_map]
  exact h1
theorem goC_snoc {r l p : Int} : ∀ {row : List Int} {t c : Int} {best : List (KS × Way)}, goC r l p t (row ++ [c]) best = stepC r l p (t + row.length) c (goC r l p t row best)
  | [], t, c, best => by simp [goC]
  | x :: row, t, c, best => by
    show goC r l p (t + 1) (row ++ [c]) (stepC r l p t x best) = _
    rw [goC_snoc]
    have : t + 1 + (row.length : Int) = t + ((x :: row).length : Int) := by rw [List.length_cons]; omega
    rw [this]
    rfl
/-! ### bounds -/
theorem goC_nd {r l p : Int} : ∀ {row : List Int} {t : Int} {best : List (KS × Way)}, KNd best → KNd (goC r l p t row best)
  | [], _, _, h => h
  | c :: row, t, best, h => goC_nd (row := row) (t := t + 1) (best := stepC r l p t c best) (step_costs r l p t c best).1
theorem goC_in {r l p : Int} (hl : 1 ≤ l) (h3 : l ≤ 3) (hr : 0 ≤ r) : ∀ {row : List Int} {t : Int} {N : Nat} {best : List (KS × Way)}, (∀ c ∈ row, c = 0 ∨ c = 1) → (∀ s ∈ best.map (·.1), In N s) → ∀ s ∈ (goC r l p t row best).map (·.1), In (N + row.length) s
  | [], _, N, _, _, h => h
  | c :: row, t, N, best, hc, h => by
    have := goC_in (p := p) hl h3 hr (row := row) (t := t + 1) (N := N + 1) (best := stepC r l p t c best) (fun x hx => hc x (by simp [hx])) (fun s hs => by
      obtain ⟨s0, q1, m, q2, q3⟩ := step_keys.mp hs
      rw [q3]
      exact in_step hl h3 hr (hc c (by simp)) (h s0 q1) m q2)
    rw [List.length_cons, show N + (row.length + 1) = N + 1 + row.length by omega]
    exact this
theorem idx_len : ∀ {bs : List Bool} {o : Int}, (idx o bs).length ≤ bs.length
  | [], _ => Nat.le_refl _
  | b :: r, o => by
    unfold idx
    rw [List.length_append, List.length_cons]
    have := idx_len (bs := r) (o := o + 1)
    split <;> simp <;> omega
theorem kC0_in : ∀ s ∈ kC0.map (·.1), In 0 s := by
  intro s hs
  simp [kC0] at hs
  subst hs
  exact ⟨Int.le_refl _, by decide, Int.le_refl _, by decide⟩
theorem kC0_nd : KNd kC0 := by unfold KNd; simp [kC0]
theorem goC_len {r l p : Int} {row : List Int} (mo : MOk r l p) (hc : ∀ z ∈ row, z = 0 ∨ z = 1) (hl : row.length ≤ 60) : (goC r l p 0 row kC0).length ≤ 1000 := by
  have := in_len (goC_nd (r := r) (l := l) (p := p) (row := row) (t := 0) kC0_nd) (goC_in mo.l1 (by have := mo.lr; have := mo.r3; omega) (by have := mo.l1; have := mo.lr; omega) (N := 0) hc kC0_in)
  omega
theorem goC_ways {r l p : Int} {row : List Int} (mo : MOk r l p) (hc : ∀ z ∈ row, z = 0 ∨ z = 1) : ∀ e ∈ goC r l p 0 row kC0, e.2.2.length ≤ row.length := by
  intro e he
  have := good_go (p := p) mo.l1 row [] kC0 hc (fun e he => by
    rw [List.mem_singleton.mp he]
    exact ⟨Int.le_refl _, Int.le_refl _, [], rfl, rfl, rfl⟩) e he
  obtain ⟨_, _, bs, g1, _, g3⟩ := this
  rw [g3]
  have := idx_len (bs := bs) (o := 0)
  rw [List.nil_append] at g1
  omega
/-! ### cheapest -/
def S_cheapest (c : Tab) : Prop := ∀ r l p (row : List Int) μ, MOk r l p → (∀ z ∈ row, z = 0 ∨ z = 1) → row.length ≤ 60 → run c "cheapest" [mD r l p, .tup (row.map .int)] μ = .ok (wayD (cheapP r l p row)) μ
theorem keyI_way {w : Way} : keyI 0 (wayD w) = some w.1 := rfl
theorem keyG_way {w : Way} : keyG 0 (wayD w) = w.1 := rfl
theorem fold_ways : ∀ (xs : List Way) (x : Way), (xs.map wayD).foldl (fun a y => if keyG 0 y < keyG 0 a then y else a) (wayD x) = wayD (xs.foldl (fun a y => if y.1 < a.1 then y else a) x)
  | [], x => rfl
  | y :: xs, x => by
    rw [List.map_cons, List.foldl_cons, List.foldl_cons, ← fold_ways xs]
    congr 1
    rw [keyG_way, keyG_way]
    split <;> rfl
theorem minKey_ways {μ : Mem} {n : Nat} {ws : List Way} (h : lstAt μ n = some (ws.map wayD)) (hne : ws ≠ []) : minKeyD 0 (.loc n) μ = some (wayD (minW ws), μ) := by
  unfold minKeyD
  have : lsD μ (.loc n) = some (ws.map wayD) := h
  rw [this]
  cases ws with
  | nil => exact absurd rfl hne
  | cons x xs =>
    rw [List.map_cons]
    dsimp only
    rw [if_pos ⟨List.all_eq_true.mpr fun d hd => by
      rcases List.mem_cons.mp hd with e | e
      · rw [e]; rfl
      · obtain ⟨w, _, rfl⟩ := List.mem_map.mp e
        rfl, by decide⟩, fold_ways]
    rfl
theorem low_way {n : Nat} {w : Way} : D.low n (wayD w) = true := by
  simp only [wayD, D.low, D.lows, low_ints, Bool.and_true]
theorem ok_cheapest {c c' : Tab} (h : c' "cheapest" = some (mkFn 2 12 2 m_cheapest c)) (sm : S_moves c) : S_cheapest c' := by
  intro r l p row μ mo hc hl
  rw [run_mk h rfl, gcM2]
  suffices hs : ∃ ν, runS (m_cheapest c [some (mD r l p), some (.tup (row.map .int)), none, none, none, none, none, none, none, none, none, none, none, none] μ) = .ok (wayD (cheapP r l p row)) (μ ++ ν) by
    obtain ⟨ν, e⟩ := hs
    rw [show ([mD r l p, .tup (row.map .int)].map some ++ List.replicate 12 none) = [some (mD r l p), some (.tup (row.map .int)), none, none, none, none, none, none, none, none, none, none, none, none] from rfl, e]
    exact gc_low low_way
  have s1 : sSet (.nm 2) (eDct1 (eK (.tup [.int 0, .int 0])) (eApp tupP (esCons (eK (.int 0)) (esCons (eApp tupP esNil) esNil)))) [some (mD r l p), some (.tup (row.map .int)), none, none, none, none, none, none, none, none, none, none, none, none] μ
      = .nx [some (mD r l p), some (.tup (row.map .int)), some (.loc μ.length), none, none, none, none, none, none, none, none, none, none, none] (memC μ kC0) := by
    have hk : keyT (.tup [.int 0, .int 0]) = some (ksN (0, 0)) := rfl
    have hz : ∀ M : Mem, tupP [] M = some (.tup [], M) := fun _ => rfl
    have hd : dctAt (μ ++ [.dct true []]) μ.length = some (true, []) := dct_new
    have hset : (μ ++ [MO.dct true []]).set μ.length (.dct true [(ksN (0, 0), .tup [.int 0, .int 0], .tup [.int 0, .tup []])]) = memC μ kC0 := by rw [set_new0]; rfl
    unfold eDct1
    simp only [List.length_cons, List.length_nil, if_true, List.map_cons, List.map_nil, List.replicate_zero, List.replicate_succ, List.append_nil, List.cons_append, List.nil_append, seq_eq, sRet, sNx, sIf, sExpr, sSet, sRaise, eAn, eOr, eNo, eUn, eBin, eApp, esCons, esNil, eIf, eChain, eVar, eK, tNo, tTru, tBl, tAn, tOr', gE, gc_id, gc_ex, List.getElem?_cons_zero, List.getElem?_cons_succ, bind_ok, bind_ex, st_ok, st_ex, r_some, cmpD, binD, runS, eDef_eq, Tg.sets, set_tp, setE_z, setE_s, Option.map_some, List.set_cons_zero, List.set_cons_succ, Bool.false_eq_true, if_false, tru_bl, Bool.not_true, Bool.not_false, hk, hz, hd, tup2, hset]
  obtain ⟨ρ', μ', h1, nb, y4, y5, y6, y7, y8, y9, y10, y11, y12, y13, ν, h2, h3, h4⟩ := for_enf (it := iEn (esCons (eVar 1) esNil)) (tg := .tp [.nm 4, .nm 5]) (b := cheapest_b3 c) (ρ := [some (mD r l p), some (.tup (row.map .int)), some (.loc μ.length), none, none, none, none, none, none, none, none, none, none, none]) (μ := memC μ kC0) (μ1 := memC μ kC0) D.int row
    (fun pre ρ μ' => ∃ nb y4 y5 y6 y7 y8 y9 y10 y11 y12 y13 ν, ρ = [some (mD r l p), some (.tup (row.map .int)), some (.loc nb), none, y4, y5, y6, y7, y8, y9, y10, y11, y12, y13] ∧ μ' = μ ++ ν ∧ dctAt μ' nb = some (true, encC (goC r l p 0 pre kC0)))
    rfl ⟨_, _, _, _, _, _, _, _, _, _, _, _, rfl, rfl, dct_memC⟩
    (fun pre x post ρ μ' hp ⟨nb, y4, y5, y6, y7, y8, y9, y10, y11, y12, y13, ν, h1, h2, h3⟩ => by
      subst h1
      have hcp : ∀ z ∈ pre, z = 0 ∨ z = 1 := fun z hz => hc z (by rw [hp]; simp [hz])
      have hpl : pre.length ≤ 60 := by
        have : row.length = pre.length + (post.length + 1) := by rw [hp]; simp
        omega
      obtain ⟨z7, z8, z9, z10, z11, z12, z13, q⟩ := cheap_b3 (c := c) (x1 := some (.tup (row.map .int))) (x3 := none) (x6 := y6) (x7 := y7) (x8 := y8) (x9 := y9) (x10 := y10) (x11 := y11) (x12 := y12) (x13 := y13) sm (r := r) (l := l) (p := p) (t := pre.length) (coming := x) h3 (fun e he => Nat.le_trans (goC_ways mo hcp e he) (by omega)) (goC_len mo hcp hpl)
      refine ⟨_, _, _, rfl, q, _, _, _, _, _, _, _, _, _, _, _, ν ++ [.dct true (encC (stepC r l p pre.length x (goC r l p 0 pre kC0)))], rfl, by rw [h2]; exact List.append_assoc _ _ _, ?_⟩
      rw [goC_snoc, Int.zero_add]
      exact dct_memC)
  subst h2 h3
  have hi : iIt (eVar 2) [some (mD r l p), some (.tup (row.map .int)), some (.loc nb), none, y4, y5, y6, y7, y8, y9, y10, y11, y12, y13] (μ ++ ν) = .ok (.di nb (goC r l p 0 row kC0).length) (μ ++ ν) := iIt_loc rfl h4
  have hlc := eLc_src (it := iIt (eVar 2)) (tg := .tp [.nm 7, .nm 13]) (ifs := tBl (gE (eBin (cmpD .Eq) (gE (eBin ixD (eVar 7) (eK (.int 1)))) (eK (.int 0))))) (elt := eVar 13) (own := [7, 13]) (fun e : KS × Way => D.tup [ksD e.1, wayD e.2]) (goC r l p 0 row kC0) (fun e => decide (e.1.2 = 0)) (fun e => wayD e.2) (by have := goC_len mo hc hl; omega) hi rfl (fun i acc => nxt_di (dct_app h4)) rfl
    (fun e he acc => ⟨_, rfl, by
      have : ∀ M : Mem, eqD (.int e.1.2) (.int 0) M = some (.bl (e.1.2 == 0), M) := fun _ => eqD_int
      simp only [List.length_cons, List.length_nil, if_true, List.map_cons, List.map_nil, List.replicate_zero, List.replicate_succ, List.append_nil, List.cons_append, List.nil_append, seq_eq, sRet, sNx, sIf, sExpr, sSet, sRaise, eAn, eOr, eNo, eUn, eBin, eApp, esCons, esNil, eIf, eChain, eVar, eK, tNo, tTru, tBl, tAn, tOr', gE, gc_id, gc_ex, List.getElem?_cons_zero, List.getElem?_cons_succ, bind_ok, bind_ex, st_ok, st_ex, r_some, cmpD, binD, runS, eDef_eq, Tg.sets, set_tp, setE_z, setE_s, Option.map_some, List.set_cons_zero, List.set_cons_succ, Bool.false_eq_true, if_false, tru_bl, Bool.not_true, Bool.not_false, wipeE, ix2_1, this]
      rfl, fun _ => rfl⟩)
  have hends : ((goC r l p 0 row kC0).filter fun e => decide (e.1.2 = 0)).map (fun e => wayD e.2) = (endC r l p row).map wayD := by
    unfold endC
    rw [List.map_map]
    rfl
  rw [hends] at hlc
  refine ⟨ν ++ [.lst ((endC r l p row).map wayD)], ?_⟩
  unfold m_cheapest
  rw [seq_eq, s1]
  simp only []
  rw [seq_eq, h1]
  simp only []
  have s3 : sSet (.nm 3) (eLc (iIt (eVar 2)) (.tp [.nm 7, .nm 13]) (tBl (gE (eBin (cmpD .Eq) (gE (eBin ixD (eVar 7) (eK (.int 1)))) (eK (.int 0))))) (eVar 13) [7, 13]) [some (mD r l p), some (.tup (row.map .int)), some (.loc nb), none, y4, y5, y6, y7, y8, y9, y10, y11, y12, y13] (μ ++ ν)
      = .nx [some (mD r l p), some (.tup (row.map .int)), some (.loc nb), some (.loc (μ ++ ν).length), y4, y5, y6, y7, y8, y9, y10, y11, y12, y13] (μ ++ ν ++ [.lst ((endC r l p row).map wayD)]) := by
    unfold sSet
    rw [hlc]
    rfl
  rw [seq_eq, s3]
  have hmk := minKey_ways (μ := μ ++ ν ++ [.lst ((endC r l p row).map wayD)]) (n := (μ ++ ν).length) (ws := endC r l p row) lst_at_new (end_some mo.l1 mo.lr hc)
  simp only [List.length_cons, List.length_nil, if_true, List.map_cons, List.map_nil, List.replicate_zero, List.replicate_succ, List.append_nil, List.cons_append, List.nil_append, seq_eq, sRet, sNx, sIf, sExpr, sSet, sRaise, eAn, eOr, eNo, eUn, eBin, eApp, esCons, esNil, eIf, eChain, eVar, eK, tNo, tTru, tBl, tAn, tOr', gE, gc_id, gc_ex, List.getElem?_cons_zero, List.getElem?_cons_succ, bind_ok, bind_ex, st_ok, st_ex, r_some, cmpD, binD, runS, eDef_eq, Tg.sets, set_tp, setE_z, setE_s, Option.map_some, List.set_cons_zero, List.set_cons_succ, Bool.false_eq_true, if_false, tru_bl, Bool.not_true, Bool.not_false, eMinK, hmk]
  rw [List.append_assoc]
  rfl
/-! ### what is told -/
def S_best_cost (c : Tab) : Prop := ∀ r l p (row : List Int) μ, MOk r l p → (∀ z ∈ row, z = 0 ∨ z = 1) → row.length ≤ 60 → run c "best_cost" [mD r l p, .tup (row.map .int)] μ = .ok (.int (cheapP r l p row).1) μ
def S_best_starts (c : Tab) : Prop := ∀ r l p (row : List Int) μ, MOk r l p → (∀ z ∈ row, z = 0 ∨ z = 1) → row.length ≤ 60 → run c "best_starts" [mD r l p, .tup (row.map .int)] μ = .ok (.tup ((cheapP r l p row).2.map .int)) μ
section
variable {c c' : Tab} (s1 : S_need_machine c) (s2 : S_need_row c)
include s1 s2
theorem ok_best_cost (h : c' "best_cost" = some (mkFn 2 0 2 m_best_cost c)) (sc : S_cheapest c) : S_best_cost c' := by
  intro r l p row μ mo hc hl
  rw [run_mk h rfl, gcM2]
  have e1 := go_machine s1 mo (μ := μ)
  have e2 := go_row s2 hc hl (μ := μ)
  have e3 := sc r l p row μ mo hc hl
  unfold m_best_cost
  simp only [mD] at e1 e3 ⊢
  simp only [List.length_cons, List.length_nil, if_true, List.map_cons, List.map_nil, List.replicate_zero, List.replicate_succ, List.append_nil, List.cons_append, List.nil_append, seq_eq, sRet, sNx, sIf, sExpr, sSet, sRaise, eAn, eOr, eNo, eUn, eBin, eApp, esCons, esNil, eIf, eChain, eVar, eK, tNo, tTru, tBl, tAn, tOr', gE, gc_id, gc_ex, List.getElem?_cons_zero, List.getElem?_cons_succ, bind_ok, bind_ex, st_ok, st_ex, r_some, cmpD, binD, runS, eDef_eq, Tg.sets, set_tp, setE_z, setE_s, Option.map_some, List.set_cons_zero, List.set_cons_succ, Bool.false_eq_true, if_false, tru_bl, Bool.not_true, Bool.not_false, e1, e2, e3, ix2_0]
theorem ok_best_starts (h : c' "best_starts" = some (mkFn 2 0 2 m_best_starts c)) (sc : S_cheapest c) : S_best_starts c' := by
  intro r l p row μ mo hc hl
  rw [run_mk h rfl, gcM2]
  have e1 := go_machine s1 mo (μ := μ)
  have e2 := go_row s2 hc hl (μ := μ)
  have e3 := sc r l p row μ mo hc hl
  unfold m_best_starts
  simp only [mD] at e1 e3 ⊢
  simp only [List.length_cons, List.length_nil, if_true, List.map_cons, List.map_nil, List.replicate_zero, List.replicate_succ, List.append_nil, List.cons_append, List.nil_append, seq_eq, sRet, sNx, sIf, sExpr, sSet, sRaise, eAn, eOr, eNo, eUn, eBin, eApp, esCons, esNil, eIf, eChain, eVar, eK, tNo, tTru, tBl, tAn, tOr', gE, gc_id, gc_ex, List.getElem?_cons_zero, List.getElem?_cons_succ, bind_ok, bind_ex, st_ok, st_ex, r_some, cmpD, binD, runS, eDef_eq, Tg.sets, set_tp, setE_z, setE_s, Option.map_some, List.set_cons_zero, List.set_cons_succ, Bool.false_eq_true, if_false, tru_bl, Bool.not_true, Bool.not_false, e1, e2, e3, ix2_1]
/-- a row that is none -/
theorem err_row2 {x : Str} {k gm : Nat} {m : Tab → S} {rest : S} (h : c' x = some (mkFn 2 k gm m c)) (hm : m c = sSeq (sExpr (eDef c "need_machine" (esCons (eVar 0) esNil))) (sSeq (sExpr (eDef c "need_row" (esCons (eVar 1) esNil))) rest)) {r l p : Int} (mo : MOk r l p) {v : D} {μ : Mem} (hv : okTT μ v) (hb : rowB v = false) : run c' x [mD r l p, v] μ = .ex { c := "InvalidRow" } μ := by
  rw [run_mk h rfl, hm]
  have e1 := go_machine s1 mo (μ := μ)
  have : runS (sSeq (sExpr (eDef c "need_machine" (esCons (eVar 0) esNil))) (sSeq (sExpr (eDef c "need_row" (esCons (eVar 1) esNil))) rest) (([mD r l p, v]).map some ++ List.replicate k none) μ) = .ex { c := "InvalidRow" } μ := by
    simp only [mD] at e1 ⊢
    simp only [List.length_cons, List.length_nil, if_true, List.map_cons, List.map_nil, List.replicate_zero, List.replicate_succ, List.append_nil, List.cons_append, List.nil_append, seq_eq, sRet, sNx, sIf, sExpr, sSet, sRaise, eAn, eOr, eNo, eUn, eBin, eApp, esCons, esNil, eIf, eChain, eVar, eK, tNo, tTru, tBl, tAn, tOr', gE, gc_id, gc_ex, List.getElem?_cons_zero, List.getElem?_cons_succ, bind_ok, bind_ex, st_ok, st_ex, r_some, cmpD, binD, runS, eDef_eq, Tg.sets, set_tp, setE_z, setE_s, Option.map_some, List.set_cons_zero, List.set_cons_succ, Bool.false_eq_true, if_false, tru_bl, Bool.not_true, Bool.not_false, e1, s2 v μ hv, hb]
  rw [this]
  exact gcM_ex
end
end Ev

set_option Elab.async false
set_option linter.all false
set_option maxRecDepth 100000
set_option maxHeartbeats 4000000
namespace Ev
open PySem PySem.Spec PyProof.Rows L2
namespace K03
-- _law_knows: 0 machine, 1 stand, 2 coming, 3 rest, 4 found, 5 busy, 6 count, 7 left
noncomputable def m__law_knows (call : Tab) : S := (sSeq (sSet (.tp [(.nm 5), (.nm 6)]) (eApp tupP (esCons (gE (eBin ixD (eVar 1) (eK (.int 0)))) (esCons (eBin (binD .Add) (gE (eBin ixD (eVar 1) (eK (.int 1)))) (eVar 2)) esNil)))) (sSeq (sSet (.nm 3) (gE (eApp maxD (esCons (eK (.int 0)) (esCons (eBin (binD .Sub) (eVar 5) (eK (.int 1))) esNil))))) (sSeq (sSet (.nm 4) (eApp lstP (esCons (eApp tupP (esCons (eK (.int 0)) (esCons (eApp tupP (esCons (eVar 3) (esCons (eVar 6) esNil))) (esCons (eVar 6) esNil)))) esNil))) (sSeq (sIf (tAn (tBl (gE (eBin (cmpD .Eq) (eVar 5) (eK (.int 0))))) (tBl (gE (eBin (cmpD .Gt) (eVar 6) (eK (.int 0)))))) (sSeq (sSet (.nm 7) (eBin (binD .Sub) (eVar 6) (gE (eApp minD (esCons (eVar 6) (esCons (gE (eBin ixD (eVar 0) (eK (.int 0)))) esNil)))))) (sSeq (sExpr (eMt "list" appendD (eVar 4) (esCons (eApp tupP (esCons (eK (.int 1)) (esCons (eApp tupP (esCons (eBin (binD .Sub) (gE (eBin ixD (eVar 0) (eK (.int 1)))) (eK (.int 1))) (esCons (eVar 7) esNil))) (esCons (eBin (binD .Add) (gE (eBin ixD (eVar 0) (eK (.int 2)))) (eVar 7)) esNil)))) esNil))) sNx)) sNx) (sSeq (sRet (eVar 4)) sNx)))))
-- _law_is_number: 0 thing, 1 low, 2 high
noncomputable def m__law_is_number (call : Tab) : S := (sSeq (sRet (eAn (eUn (isiD ["int"]) (eVar 0)) (eAn (eNo (eUn (isiD ["bool"]) (eVar 0))) (gE (eChain (cmpD .LtE) (cmpD .LtE) (eVar 1) (eVar 0) (eVar 2)))))) sNx)
-- _law_least: 0 machine, 1 row, 2 best, 3 coming, 4 later, 5 stand, 6 begins, 7 there, 8 more
noncomputable def _law_least_b1 (call : Tab) : S := (sSeq (sSub (eVar 4) (eVar 7) (gE (eApp minD (esCons (eMd getD' (eVar 4) (esCons (eVar 7) (esCons (eBin (binD .Add) (gE (eBin ixD (eVar 2) (eVar 5))) (eVar 8)) esNil))) (esCons (eBin (binD .Add) (gE (eBin ixD (eVar 2) (eVar 5))) (eVar 8)) esNil))))) sNx)
noncomputable def _law_least_b2 (call : Tab) : S := (sSeq (sFor (iSeq (eDef call "_law_knows" (esCons (eVar 0) (esCons (eVar 5) (esCons (eVar 3) esNil))))) (.tp [(.nm 6), (.nm 7), (.nm 8)]) (_law_least_b1 call)) sNx)
noncomputable def _law_least_b3 (call : Tab) : S := (sSeq (sSet (.nm 4) newD) (sSeq (sFor (iSeq (eVar 2)) (.nm 5) (_law_least_b2 call)) (sSeq (sSet (.nm 2) (eVar 4)) sNx)))
noncomputable def m__law_least (call : Tab) : S := (sSeq (sSet (.nm 2) (eDct1 (eApp tupP (esCons (eK (.int 0)) (esCons (eK (.int 0)) esNil))) (eK (.int 0)))) (sSeq (sFor (iSeq (eVar 1)) (.nm 3) (_law_least_b3 call)) (sSeq (sRet (gE (eApp minD (esCons (eLc (iSeq (eVar 2)) (.nm 5) (tBl (gE (eBin (cmpD .Eq) (gE (eBin ixD (eVar 5) (eK (.int 1)))) (eK (.int 0))))) (gE (eBin ixD (eVar 2) (eVar 5))) [5]) esNil)))) sNx)))
-- _law_spent: 0 machine, 1 row, 2 ticks, 3 tick, 4 busy, 5 count, 6 found
noncomputable def _law_spent_b1 (call : Tab) : S := (sSeq (sSet (.nm 5) (eBin (binD .Add) (eVar 5) (gE (eBin ixD (eVar 1) (eVar 3))))) (sSeq (sIf (tBl (gE (eBin (cmpD .In) (eVar 3) (eVar 2)))) (sSeq (sIf (tOr' (tBl (gE (eBin (cmpD .Gt) (eVar 4) (eK (.int 0))))) (tBl (gE (eBin (cmpD .Eq) (eVar 5) (eK (.int 0)))))) (sSeq (sRet (eK .non)) sNx) sNx) (sSeq (sSet (.tp [(.nm 5), (.nm 4), (.nm 6)]) (eApp tupP (esCons (gE (eApp maxD (esCons (eK (.int 0)) (esCons (eBin (binD .Sub) (eVar 5) (gE (eBin ixD (eVar 0) (eK (.int 0))))) esNil)))) (esCons (gE (eBin ixD (eVar 0) (eK (.int 1)))) (esCons (eBin (binD .Add) (eVar 6) (gE (eBin ixD (eVar 0) (eK (.int 2))))) esNil))))) sNx)) sNx) (sSeq (sSet (.tp [(.nm 6), (.nm 4)]) (eApp tupP (esCons (eBin (binD .Add) (eVar 6) (eVar 5)) (esCons (gE (eApp maxD (esCons (eK (.int 0)) (esCons (eBin (binD .Sub) (eVar 4) (eK (.int 1))) esNil)))) esNil)))) sNx)))
noncomputable def m__law_spent (call : Tab) : S := (sSeq (sSet (.tp [(.nm 4), (.nm 5), (.nm 6)]) (eApp tupP (esCons (eK (.int 0)) (esCons (eK (.int 0)) (esCons (eK (.int 0)) esNil))))) (sSeq (sFor (iRg1 (esCons (gE (eApp lenD (esCons (eVar 1) esNil))) esNil)) (.nm 3) (_law_spent_b1 call)) (sSeq (sRet (eIf (tBl (gE (eBin (cmpD .Eq) (eVar 5) (eK (.int 0))))) (eVar 6) (eK .non))) sNx)))
-- law: 0 script, 1 k, 2 bag, 3 machine, 4 most, 5 call_so, 6 row, 7 bad, 8 due, 9 ticks, 10 tick
noncomputable def law_b1 (call : Tab) : S := (sSeq (sIf (tBl (gE (eBin (cmpD .NotEq) (eLaw (eCallV call 5 (esCons (eVar 3) (esCons (eVar 7) esNil)))) (eApp tupP (esCons (eK (.str "InvalidRow +")) esNil))))) (sSeq (sRet (eK (.bl false))) sNx) sNx) sNx)
noncomputable def law_b2 (call : Tab) : S := (sSeq (sFor (iSeq (eApp lstP (esCons (eK .non) (esCons (eApp lstP (esCons (eK (.int 1)) esNil)) (esCons (eApp tupP (esCons (eK (.int 2)) esNil)) (esCons (eApp tupP (esCons (eK (.bl true)) esNil)) (esCons (eBin (binD .Mult) (eApp tupP (esCons (eK (.int 0)) esNil)) (eK (.int 61))) esNil))))))) (.nm 7) (law_b1 call)) (sSeq (sIf (tBl (gE (eBin (cmpD .NotEq) (eLaw (eCallV call 5 (esCons (eSl (eVar 3) oNo (oSo (eK (.int 2)))) (esCons (eK .non) esNil)))) (eApp tupP (esCons (eK (.str "InvalidMachine +")) esNil))))) (sSeq (sRet (eK (.bl false))) sNx) sNx) sNx))
noncomputable def law_b3 (call : Tab) : S := (sSeq (sSet (.nm 6) (eDef call "_law_row" (esCons (eVar 2) (esCons (eVar 4) esNil)))) (sSeq (sSet (.tp [(.nm 8), (.nm 9)]) (eApp tupP (esCons (eDef call "_law_least" (esCons (eVar 3) (esCons (eVar 6) esNil))) (esCons (eDef call "best_starts" (esCons (eVar 3) (esCons (eVar 6) esNil))) esNil)))) (sSeq (sIf (tOr' (tBl (gE (eBin (cmpD .NotEq) (eDef call "best_cost" (esCons (eVar 3) (esCons (eVar 6) esNil))) (eVar 8)))) (tNo (tTru (eUn (isiD ["tuple"]) (eVar 9))))) (sSeq (sRet (eK (.bl false))) sNx) sNx) (sSeq (sIf (tBl (gE (eBin (cmpD .NotEq) (eLc (iSeq (eVar 9)) (.nm 10) (tNo (tTru (eDef call "_law_is_number" (esCons (eVar 10) (esCons (eK (.int 0)) (esCons (eBin (binD .Sub) (gE (eApp lenD (esCons (eVar 6) esNil))) (eK (.int 1))) esNil)))))) (eVar 10) [10]) (eApp lstP esNil)))) (sSeq (sRet (eK (.bl false))) sNx) sNx) (sSeq (sIf (tOr' (tBl (gE (eBin (cmpD .NotEq) (gE (eApp listD2 (esCons (eVar 9) esNil))) (eUn srtSetD (eVar 9))))) (tBl (gE (eBin (cmpD .NotEq) (eDef call "_law_spent" (esCons (eVar 3) (esCons (eVar 6) (esCons (eVar 9) esNil)))) (eVar 8))))) (sSeq (sRet (eK (.bl false))) sNx) sNx) sNx)))))
noncomputable def law_b4 (call : Tab) : S := (sSeq (sSet (.nm 2) (eDef call "_law_bag" (esCons (eVar 0) (esCons (eVar 1) esNil)))) (sSeq (sSet (.nm 3) (eDef call "_law_machine" (esCons (eVar 2) (esCons (eK (.int 3)) esNil)))) (sSeq (sFor (iSeq (eApp tupP (esCons (eK (.int 8)) (esCons (eK (.int 25)) (esCons (eK (.int 60)) esNil))))) (.nm 4) (law_b3 call)) (sSeq (sFor (iSeq (eApp tupP (esCons (eK (.gl "best_cost")) (esCons (eK (.gl "best_starts")) esNil)))) (.nm 5) (law_b2 call)) sNx))))
noncomputable def m_law (call : Tab) : S := (sSeq (sFor (iRg1 (esCons (gE (eApp maxD (esCons (eK (.int 1)) (esCons (gE (eApp minD (esCons (eK (.int 15)) (esCons (gE (eApp lenD (esCons (eVar 0) esNil))) esNil)))) esNil)))) esNil)) (.nm 1) (law_b4 call)) (sSeq (sRet (eAn (gE (eBin (cmpD .Eq) (eDef call "best_cost" (esCons (eApp tupP (esCons (eK (.int 2)) (esCons (eK (.int 2)) (esCons (eK (.int 3)) esNil)))) (esCons (eApp tupP (esCons (eK (.int 1)) (esCons (eK (.int 1)) (esCons (eK (.int 1)) esNil)))) esNil))) (eK (.int 7)))) (gE (eBin (cmpD .Eq) (eDef call "best_cost" (esCons (eApp tupP (esCons (eK (.int 2)) (esCons (eK (.int 1)) (esCons (eK (.int 4)) esNil)))) (esCons (eApp tupP (esCons (eK (.int 1)) (esCons (eK (.int 0)) (esCons (eK (.int 0)) (esCons (eK (.int 0)) (esCons (eK (.int 0)) (esCons (eK (.int 1)) esNil))))))) esNil))) (eK (.int 8)))))) sNx))
/-! ### the law's own defs -/
def S_law_knows (c : Tab) : Prop := ∀ r l p s coming μ, run c "_law_knows" [mD r l p, ksD s, .int coming] μ = .ok (.fl ((movesP r l p s coming).map mvD)) μ
theorem ok_law_knows {c c' : Tab} (h : c' "_law_knows" = some (mkFn 3 5 2 m__law_knows c)) : S_law_knows c' := by
  intro r l p ⟨busy, cnt⟩ coming μ
  rw [run_mk h rfl, gcM2]
  have hk : ∀ xs, kindD (μ ++ [.lst xs]) (.loc μ.length) = "list" := fun xs => kind_at lst_at_new
  have ha : ∀ x y, appendD (.loc μ.length) [y] (μ ++ [.lst [x]]) = some (.non, μ ++ [.lst ([x] ++ [y])]) := fun x y => append_last (by simp)
  suffices hs : runS (m__law_knows c [some (mD r l p), some (ksD (busy, cnt)), some (.int coming), none, none, none, none, none] μ) = .ok (.loc μ.length) (μ ++ [.lst ((movesP r l p (busy, cnt) coming).map mvD)]) by
    rw [show ([mD r l p, ksD (busy, cnt), .int coming].map some ++ List.replicate 5 none) = [some (mD r l p), some (ksD (busy, cnt)), some (.int coming), none, none, none, none, none] from rfl, hs]
    exact gc_flA low_mv
  unfold m__law_knows
  simp only [mD, List.length_cons, List.length_nil, if_true, List.map_cons, List.map_nil, List.replicate_zero, List.replicate_succ, List.append_nil, List.cons_append, List.nil_append, seq_eq, sRet, sNx, sIf, sExpr, sSet, sRaise, eAn, eOr, eNo, eUn, eBin, eApp, esCons, esNil, eIf, eChain, eVar, eK, tNo, tTru, tBl, tAn, tOr', gE, gc_id, gc_ex, List.getElem?_cons_zero, List.getElem?_cons_succ, bind_ok, bind_ex, st_ok, st_ex, r_some, cmpD, binD, runS, eDef_eq, Tg.sets, set_tp, setE_z, setE_s, Option.map_some, List.set_cons_zero, List.set_cons_succ, Bool.false_eq_true, if_false, tru_bl, Bool.not_true, Bool.not_false, ix2_0, ix2_1, ix3_0, ix3_1, ix3_2, addD_int, subD_int, maxD_int, minD_int, eqD_int, icmp, tup2, tup3, lst1]
  by_cases h1 : busy = 0
  · by_cases h2 : cnt + coming > 0
    · subst h1
      have hleft : cnt + coming - (if r < cnt + coming then r else cnt + coming) = mx0 (cnt + coming - r) := by
        unfold mx0
        split <;> split <;> omega
      have hm : movesP r l p (0, cnt) coming = [(0, (mx0 (0 - 1), cnt + coming), cnt + coming), (1, (l - 1, mx0 (cnt + coming - r)), p + mx0 (cnt + coming - r))] := by
        unfold movesP
        rw [if_pos ⟨rfl, h2⟩]
      rw [hm]
      simp only [h2, beq_self_eq_true, decide_true, List.length_cons, List.length_nil, if_true, List.map_cons, List.map_nil, List.replicate_zero, List.replicate_succ, List.append_nil, List.cons_append, List.nil_append, seq_eq, sRet, sNx, sIf, sExpr, sSet, sRaise, eAn, eOr, eNo, eUn, eBin, eApp, esCons, esNil, eIf, eChain, eVar, eK, tNo, tTru, tBl, tAn, tOr', gE, gc_id, gc_ex, List.getElem?_cons_zero, List.getElem?_cons_succ, bind_ok, bind_ex, st_ok, st_ex, r_some, cmpD, binD, runS, eDef_eq, Tg.sets, set_tp, setE_z, setE_s, Option.map_some, List.set_cons_zero, List.set_cons_succ, Bool.false_eq_true, if_false, tru_bl, Bool.not_true, Bool.not_false, ix3_0, ix3_1, ix3_2, addD_int, subD_int, minD_int, tup2, tup3, eMt, hk, ha, hleft]
      rfl
    · subst h1
      simp [List.length_cons, List.length_nil, if_true, List.map_cons, List.map_nil, List.replicate_zero, List.replicate_succ, List.append_nil, List.cons_append, List.nil_append, seq_eq, sRet, sNx, sIf, sExpr, sSet, sRaise, eAn, eOr, eNo, eUn, eBin, eApp, esCons, esNil, eIf, eChain, eVar, eK, tNo, tTru, tBl, tAn, tOr', gE, gc_id, gc_ex, List.getElem?_cons_zero, List.getElem?_cons_succ, bind_ok, bind_ex, st_ok, st_ex, r_some, cmpD, binD, runS, eDef_eq, Tg.sets, set_tp, setE_z, setE_s, Option.map_some, List.set_cons_zero, List.set_cons_succ, Bool.false_eq_true, if_false, tru_bl, Bool.not_true, Bool.not_false, h2, movesP, mx0]
  · have h1' : (busy == 0) = false := by simpa using h1
    simp [List.length_cons, List.length_nil, if_true, List.map_cons, List.map_nil, List.replicate_zero, List.replicate_succ, List.append_nil, List.cons_append, List.nil_append, seq_eq, sRet, sNx, sIf, sExpr, sSet, sRaise, eAn, eOr, eNo, eUn, eBin, eApp, esCons, esNil, eIf, eChain, eVar, eK, tNo, tTru, tBl, tAn, tOr', gE, gc_id, gc_ex, List.getElem?_cons_zero, List.getElem?_cons_succ, bind_ok, bind_ex, st_ok, st_ex, r_some, cmpD, binD, runS, eDef_eq, Tg.sets, set_tp, setE_z, setE_s, Option.map_some, List.set_cons_zero, List.set_cons_succ, Bool.false_eq_true, if_false, tru_bl, Bool.not_true, Bool.not_false, h1, h1', movesP, mx0]
def S_is_num (c : Tab) : Prop := ∀ (k lo hi : Int) μ, run c "_law_is_number" [.int k, .int lo, .int hi] μ = .ok (.bl (decide (lo ≤ k) && decide (k ≤ hi))) μ
theorem ok_is_num {c c' : Tab} (h : c' "_law_is_number" = some (mkFn 3 0 2 m__law_is_number c)) : S_is_num c' := by
  intro k lo hi μ
  rw [run_mk h rfl, gcM2]
  have h1 : isiD ["int"] (.int k) μ = some (.bl true, μ) := by simp [isiD, tyOfD, isaB]
  have h2 : isiD ["bool"] (.int k) μ = some (.bl false, μ) := by simp [isiD, tyOfD, isaB]
  unfold m__law_is_number
  by_cases q : lo ≤ k
  · simp [List.length_cons, List.length_nil, if_true, List.map_cons, List.map_nil, List.replicate_zero, List.replicate_succ, List.append_nil, List.cons_append, List.nil_append, seq_eq, sRet, sNx, sIf, sExpr, sSet, sRaise, eAn, eOr, eNo, eUn, eBin, eApp, esCons, esNil, eIf, eChain, eVar, eK, tNo, tTru, tBl, tAn, tOr', gE, gc_id, gc_ex, List.getElem?_cons_zero, List.getElem?_cons_succ, bind_ok, bind_ex, st_ok, st_ex, r_some, cmpD, binD, runS, eDef_eq, Tg.sets, set_tp, setE_z, setE_s, Option.map_some, List.set_cons_zero, List.set_cons_succ, Bool.false_eq_true, if_false, tru_bl, Bool.not_true, Bool.not_false, h1, h2, icmp, q]
  · simp [List.length_cons, List.length_nil, if_true, List.map_cons, List.map_nil, List.replicate_zero, List.replicate_succ, List.append_nil, List.cons_append, List.nil_append, seq_eq, sRet, sNx, sIf, sExpr, sSet, sRaise, eAn, eOr, eNo, eUn, eBin, eApp, esCons, esNil, eIf, eChain, eVar, eK, tNo, tTru, tBl, tAn, tOr', gE, gc_id, gc_ex, List.getElem?_cons_zero, List.getElem?_cons_succ, bind_ok, bind_ex, st_ok, st_ex, r_some, cmpD, binD, runS, eDef_eq, Tg.sets, set_tp, setE_z, setE_s, Option.map_some, List.set_cons_zero, List.set_cons_succ, Bool.false_eq_true, if_false, tru_bl, Bool.not_true, Bool.not_false, h1, h2, icmp, q]
/-! ### the law's table -/
abbrev encL (d : List (KS × Int)) : List (NestedKey × D × D) := encK ksD ksN D.int d
abbrev memL (μ : Mem) (d : List (KS × Int)) : Mem := μ ++ [.dct true (encL d)]
theorem dct_memL {μ : Mem} {d : List (KS × Int)} : dctAt (memL μ d) μ.length = some (true, encL d) := dct_new
theorem set_memL {μ : Mem} {d d' : List (KS × Int)} : (memL μ d).set μ.length (.dct true (encL d')) = memL μ d' := by
  rw [set_new0]; rfl
theorem putL_len {d : List (KS × Int)} {s : KS} {v : Int} : (putL d s v).length ≤ d.length + 1 := aPut_len
theorem foldL_len {v : Int} : ∀ {ms : List Mv} {d : List (KS × Int)}, (ms.foldl (fun d m => putL d m.2.1 (v + m.2.2)) d).length ≤ d.length + ms.length
  | [], d => by simp
  | m :: ms, d => by
    rw [List.foldl_cons, List.length_cons]
    have := foldL_len (v := v) (ms := ms) (d := putL d m.2.1 (v + m.2.2))
    have := putL_len (d := d) (s := m.2.1) (v := v + m.2.2)
    omega
theorem foldL_len2 {r l p coming : Int} : ∀ {best : List (KS × Int)} {d : List (KS × Int)}, (best.foldl (fun d e => (movesP r l p e.1 coming).foldl (fun d m => putL d m.2.1 (e.2 + m.2.2)) d) d).length ≤ d.length + 2 * best.length
  | [], d => by simp
  | e :: best, d => by
    rw [List.foldl_cons, List.length_cons]
    have h1 := foldL_len2 (r := r) (l := l) (p := p) (coming := coming) (best := best) (d := (movesP r l p e.1 coming).foldl (fun d m => putL d m.2.1 (e.2 + m.2.2)) d)
    have h2 := foldL_len (v := e.2) (ms := movesP r l p e.1 coming) (d := d)
    have h3 := moves_len (r := r) (l := l) (p := p) (coming := coming) (s := e.1)
    omega
section
variable {c : Tab} {x0 x1 x3 : Option D} {μ : Mem}
theorem least_b1 {nb : Nat} {s : KS} {v : Int} {m : Mv} {best d : List (KS × Int)} (hb : dctAt (memL μ d) nb = some (true, encL best)) (hv : aGet best s = some v) (hd : d.length < 16777216) :
    _law_least_b1 c [x0, x1, some (.loc nb), x3, some (.loc μ.length), some (ksD s), some (.int m.1), some (ksD m.2.1), some (.int m.2.2)] (memL μ d)
      = .nx [x0, x1, some (.loc nb), x3, some (.loc μ.length), some (ksD s), some (.int m.1), some (ksD m.2.1), some (.int m.2.2)] (memL μ (putL d m.2.1 (v + m.2.2))) := by
  have h1 : ixD (.loc nb) (ksD s) (memL μ d) = some (.int v, memL μ d) := dix_enc ksE hb hv
  have h2 : getD' (.loc μ.length) [ksD m.2.1, .int (v + m.2.2)] (memL μ d) = some (.int ((aGet d m.2.1).getD (v + m.2.2)), memL μ d) := by
    rw [dget_enc (vd := D.int) (es := d) ksE dct_memL]
    cases aGet d m.2.1 <;> rfl
  have hp : ∀ w', putD (.loc μ.length) (ksD m.2.1) (.int w') (memL μ d) = some (memL μ (aPut d m.2.1 w')) := fun w' => by
    rw [dput_enc (vd := D.int) ksE dct_memL hd, set_memL]
  have hdc : dctAt (memL μ d) μ.length = some (true, encL d) := dct_memL
  unfold _law_least_b1
  simp only [List.length_cons, List.length_nil, if_true, List.map_cons, List.map_nil, List.replicate_zero, List.replicate_succ, List.append_nil, List.cons_append, List.nil_append, seq_eq, sRet, sNx, sIf, sExpr, sSet, sRaise, eAn, eOr, eNo, eUn, eBin, eApp, esCons, esNil, eIf, eChain, eVar, eK, tNo, tTru, tBl, tAn, tOr', gE, gc_id, gc_ex, List.getElem?_cons_zero, List.getElem?_cons_succ, bind_ok, bind_ex, st_ok, st_ex, r_some, cmpD, binD, runS, eDef_eq, Tg.sets, set_tp, setE_z, setE_s, Option.map_some, List.set_cons_zero, List.set_cons_succ, Bool.false_eq_true, if_false, tru_bl, Bool.not_true, Bool.not_false, h1, addD_int, eMd, hdc, h2, minD_int, sSub, hp]
  rfl
theorem least_b2 (sm : S_law_knows c) {r l p coming : Int} {nb : Nat} {e : KS × Int} {best d : List (KS × Int)} {x6 x7 x8 : Option D} (hb : ∀ d, dctAt (memL μ d) nb = some (true, encL best)) (hv : aGet best e.1 = some e.2) (hd : d.length + 2 < 16777216) :
    ∃ y6 y7 y8, _law_least_b2 c [some (mD r l p), x1, some (.loc nb), some (.int coming), some (.loc μ.length), some (ksD e.1), x6, x7, x8] (memL μ d)
      = .nx [some (mD r l p), x1, some (.loc nb), some (.int coming), some (.loc μ.length), some (ksD e.1), y6, y7, y8] (memL μ ((movesP r l p e.1 coming).foldl (fun d m => putL d m.2.1 (e.2 + m.2.2)) d)) := by
  have hi : iSeq (eDef c "_law_knows" (esCons (eVar 0) (esCons (eVar 5) (esCons (eVar 3) esNil)))) [some (mD r l p), x1, some (.loc nb), some (.int coming), some (.loc μ.length), some (ksD e.1), x6, x7, x8] (memL μ d) = .ok (.fix ((movesP r l p e.1 coming).map mvD)) (memL μ d) := by
    refine iSeq_fl ?_
    simp only [List.length_cons, List.length_nil, if_true, List.map_cons, List.map_nil, List.replicate_zero, List.replicate_succ, List.append_nil, List.cons_append, List.nil_append, seq_eq, sRet, sNx, sIf, sExpr, sSet, sRaise, eAn, eOr, eNo, eUn, eBin, eApp, esCons, esNil, eIf, eChain, eVar, eK, tNo, tTru, tBl, tAn, tOr', gE, gc_id, gc_ex, List.getElem?_cons_zero, List.getElem?_cons_succ, bind_ok, bind_ex, st_ok, st_ex, r_some, cmpD, binD, runS, eDef_eq, Tg.sets, set_tp, setE_z, setE_s, Option.map_some, List.set_cons_zero, List.set_cons_succ, Bool.false_eq_true, if_false, tru_bl, Bool.not_true, Bool.not_false, sm r l p e.1 coming]
  obtain ⟨ρ', μ', h1, y6, y7, y8, h2, h3⟩ := for_fix (it := _) (tg := .tp [.nm 6, .nm 7, .nm 8]) (b := _law_least_b1 c) mvD (movesP r l p e.1 coming)
    (fun pre ρ μ' => ∃ y6 y7 y8, ρ = [some (mD r l p), x1, some (.loc nb), some (.int coming), some (.loc μ.length), some (ksD e.1), y6, y7, y8] ∧ μ' = memL μ (pre.foldl (fun d m => putL d m.2.1 (e.2 + m.2.2)) d)) hi ⟨_, _, _, rfl, rfl⟩
    (fun pre m post ρ μ' hp ⟨y6, y7, y8, h1, h2⟩ => by
      subst h1 h2
      have hlen : pre.length ≤ 2 := by
        have := moves_len (r := r) (l := l) (p := p) (coming := coming) (s := e.1)
        rw [hp] at this
        simp at this
        omega
      have hfl := foldL_len (v := e.2) (ms := pre) (d := d)
      have := least_b1 (c := c) (x0 := some (mD r l p)) (x1 := x1) (x3 := some (.int coming)) (μ := μ) (m := m) (hb (pre.foldl (fun d m => putL d m.2.1 (e.2 + m.2.2)) d)) hv (by omega)
      refine ⟨_, _, _, rfl, this, _, _, _, rfl, ?_⟩
      rw [List.foldl_append]; rfl)
  subst h2 h3
  refine ⟨y6, y7, y8, ?_⟩
  unfold _law_least_b2
  rw [seq_eq, h1]
  rfl
theorem least_b3 (sm : S_law_knows c) {r l p coming : Int} {nb : Nat} {best : List (KS × Int)} {x4 x5 x6 x7 x8 : Option D} (hb : dctAt μ nb = some (true, encL best)) (hn : KNd best) (hd : best.length ≤ 1000) :
    ∃ y5 y6 y7 y8, _law_least_b3 c [some (mD r l p), x1, some (.loc nb), some (.int coming), x4, x5, x6, x7, x8] μ
      = .nx [some (mD r l p), x1, some (.loc μ.length), some (.int coming), some (.loc μ.length), y5, y6, y7, y8] (memL μ (stepL r l p coming best)) := by
  have hi : iSeq (eVar 2) [some (mD r l p), x1, some (.loc nb), some (.int coming), some (.loc μ.length), x5, x6, x7, x8] (memL μ []) = .ok (.dk nb best.length) (memL μ []) := iSeq_dct rfl (dct_app hb)
  obtain ⟨ρ', μ', h1, y5, y6, y7, y8, h2, h3⟩ := for_src (it := iSeq (eVar 2)) (tg := .nm 5) (b := _law_least_b2 c) (fun e : KS × Int => ksD e.1) best
    (fun pre ρ μ' => ∃ y5 y6 y7 y8, ρ = [some (mD r l p), x1, some (.loc nb), some (.int coming), some (.loc μ.length), y5, y6, y7, y8] ∧ μ' = memL μ (pre.foldl (fun d e => (movesP r l p e.1 coming).foldl (fun d m => putL d m.2.1 (e.2 + m.2.2)) d) [])) hi rfl ⟨_, _, _, _, rfl, rfl⟩
    (fun pre ρ μ' i ⟨_, _, _, _, _, h⟩ => by subst h; exact nxt_dk (dct_app hb))
    (fun pre e post ρ μ' hp ⟨y5, y6, y7, y8, h1, h2⟩ => by
      subst h1 h2
      have he : e ∈ best := by rw [hp]; simp
      have hfl := foldL_len2 (r := r) (l := l) (p := p) (coming := coming) (best := pre) (d := [])
      have hpl : pre.length ≤ 1000 := by
        have : best.length = pre.length + (post.length + 1) := by rw [hp]; simp
        omega
      simp only [List.length_nil] at hfl
      obtain ⟨z6, z7, z8, q⟩ := least_b2 (x1 := x1) (μ := μ) (x6 := y6) (x7 := y7) (x8 := y8) sm (r := r) (l := l) (p := p) (coming := coming) (nb := nb) (e := e) (best := best) (d := pre.foldl (fun d e => (movesP r l p e.1 coming).foldl (fun d m => putL d m.2.1 (e.2 + m.2.2)) d) []) (fun d => dct_app hb) (aGet_of_mem hn he) (by omega)
      refine ⟨_, _, _, rfl, q, _, _, _, _, rfl, ?_⟩
      rw [List.foldl_append]; rfl)
  subst h2 h3
  refine ⟨y5, y6, y7, y8, ?_⟩
  unfold _law_least_b3
  have s1 : sSet (.nm 4) newD [some (mD r l p), x1, some (.loc nb), some (.int coming), x4, x5, x6, x7, x8] μ = .nx [some (mD r l p), x1, some (.loc nb), some (.int coming), some (.loc μ.length), x5, x6, x7, x8] (memL μ []) := by
    simp only [List.length_cons, List.length_nil, if_true, List.map_cons, List.map_nil, List.replicate_zero, List.replicate_succ, List.append_nil, List.cons_append, List.nil_append, seq_eq, sRet, sNx, sIf, sExpr, sSet, sRaise, eAn, eOr, eNo, eUn, eBin, eApp, esCons, esNil, eIf, eChain, eVar, eK, tNo, tTru, tBl, tAn, tOr', gE, gc_id, gc_ex, List.getElem?_cons_zero, List.getElem?_cons_succ, bind_ok, bind_ex, st_ok, st_ex, r_some, cmpD, binD, runS, eDef_eq, Tg.sets, set_tp, setE_z, setE_s, Option.map_some, List.set_cons_zero, List.set_cons_succ, Bool.false_eq_true, if_false, tru_bl, Bool.not_true, Bool.not_false, new_dct]
    rfl
  rw [seq_eq, s1]
  simp only []
  rw [seq_eq, h1]
  simp only [List.length_cons, List.length_nil, if_true, List.map_cons, List.map_nil, List.replicate_zero, List.replicate_succ, List.append_nil, List.cons_append, List.nil_append, seq_eq, sRet, sNx, sIf, sExpr, sSet, sRaise, eAn, eOr, eNo, eUn, eBin, eApp, esCons, esNil, eIf, eChain, eVar, eK, tNo, tTru, tBl, tAn, tOr', gE, gc_id, gc_ex, List.getElem?_cons_zero, List.getElem?_cons_succ, bind_ok, bind_ex, st_ok, st_ex, r_some, cmpD, binD, runS, eDef_eq, Tg.sets, set_tp, setE_z, setE_s, Option.map_some, List.set_cons_zero, List.set_cons_succ, Bool.false_eq_true, if_false, tru_bl, Bool.not_true, Bool.not_false]
  rfl
end
def S_least (c : Tab) : Prop := ∀ r l p (row : List Int) μ, MOk r l p → (∀ z ∈ row, z = 0 ∨ z = 1) → row.length ≤ 60 → run c "_law_least" [mD r l p, .tup (row.map .int)] μ = .ok (.int (cheapP r l p row).1) μ
theorem costs_nd {d : List (KS × Way)} (h : KNd d) : KNd (costs d) := by
  unfold KNd at h ⊢
  rw [aMap_keys]
  exact h
theorem ok_least {c c' : Tab} (h : c' "_law_least" = some (mkFn 2 7 2 m__law_least c)) (sm : S_law_knows c) : S_least c' := by
  intro r l p row μ mo hc hl
  rw [run_mk h rfl, gcM2]
  suffices hs : ∃ ν, runS (m__law_least c [some (mD r l p), some (.tup (row.map .int)), none, none, none, none, none, none, none] μ) = .ok (.int (cheapP r l p row).1) (μ ++ ν) by
    obtain ⟨ν, e⟩ := hs
    rw [show ([mD r l p, .tup (row.map .int)].map some ++ List.replicate 7 none) = [some (mD r l p), some (.tup (row.map .int)), none, none, none, none, none, none, none] from rfl, e]
    exact gc_low rfl
  have s1 : sSet (.nm 2) (eDct1 (eApp tupP (esCons (eK (.int 0)) (esCons (eK (.int 0)) esNil))) (eK (.int 0))) [some (mD r l p), some (.tup (row.map .int)), none, none, none, none, none, none, none] μ
      = .nx [some (mD r l p), some (.tup (row.map .int)), some (.loc μ.length), none, none, none, none, none, none] (memL μ (costs kC0)) := by
    have hk : keyT (.tup [.int 0, .int 0]) = some (ksN (0, 0)) := rfl
    have hd : dctAt (μ ++ [MO.dct true []]) μ.length = some (true, []) := dct_new
    have hset : (μ ++ [MO.dct true []]).set μ.length (.dct true [(ksN (0, 0), .tup [.int 0, .int 0], .int 0)]) = memL μ (costs kC0) := by rw [set_new0]; rfl
    unfold eDct1
    simp only [List.length_cons, List.length_nil, if_true, List.map_cons, List.map_nil, List.replicate_zero, List.replicate_succ, List.append_nil, List.cons_append, List.nil_append, seq_eq, sRet, sNx, sIf, sExpr, sSet, sRaise, eAn, eOr, eNo, eUn, eBin, eApp, esCons, esNil, eIf, eChain, eVar, eK, tNo, tTru, tBl, tAn, tOr', gE, gc_id, gc_ex, List.getElem?_cons_zero, List.getElem?_cons_succ, bind_ok, bind_ex, st_ok, st_ex, r_some, cmpD, binD, runS, eDef_eq, Tg.sets, set_tp, setE_z, setE_s, Option.map_some, List.set_cons_zero, List.set_cons_succ, Bool.false_eq_true, if_false, tru_bl, Bool.not_true, Bool.not_false, tup2, hk, hd, hset]
  obtain ⟨ρ', μ', h1, nb, y3, y4, y5, y6, y7, y8, ν, h2, h3, h4⟩ := for_fix (it := iSeq (eVar 1)) (tg := .nm 3) (b := _law_least_b3 c) (ρ := [some (mD r l p), some (.tup (row.map .int)), some (.loc μ.length), none, none, none, none, none, none]) (μ := memL μ (costs kC0)) (μ1 := memL μ (costs kC0)) D.int row
    (fun pre ρ μ' => ∃ nb y3 y4 y5 y6 y7 y8 ν, ρ = [some (mD r l p), some (.tup (row.map .int)), some (.loc nb), y3, y4, y5, y6, y7, y8] ∧ μ' = μ ++ ν ∧ dctAt μ' nb = some (true, encL (costs (goC r l p 0 pre kC0))))
    (iSeq_tup rfl) ⟨_, _, _, _, _, _, _, _, rfl, rfl, dct_memL⟩
    (fun pre x post ρ μ' hp ⟨nb, y3, y4, y5, y6, y7, y8, ν, h1, h2, h3⟩ => by
      subst h1
      have hcp : ∀ z ∈ pre, z = 0 ∨ z = 1 := fun z hz => hc z (by rw [hp]; simp [hz])
      have hpl : pre.length ≤ 60 := by
        have : row.length = pre.length + (post.length + 1) := by rw [hp]; simp
        omega
      obtain ⟨z5, z6, z7, z8, q⟩ := least_b3 (c := c) (x1 := some (.tup (row.map .int))) (x4 := y4) (x5 := y5) (x6 := y6) (x7 := y7) (x8 := y8) sm (r := r) (l := l) (p := p) (coming := x) h3 (costs_nd (goC_nd kC0_nd)) (by unfold costs aMap; rw [List.length_map]; exact goC_len mo hcp hpl)
      rw [(step_costs r l p (0 + pre.length) x _).2, ← goC_snoc] at q
      exact ⟨_, _, _, rfl, q, _, _, _, _, _, _, _, ν ++ [.dct true (encL (costs (goC r l p 0 (pre ++ [x]) kC0)))], rfl, by rw [h2]; exact List.append_assoc _ _ _, dct_memL⟩)
  subst h2 h3
  have hi : iSeq (eVar 2) [some (mD r l p), some (.tup (row.map .int)), some (.loc nb), y3, y4, y5, y6, y7, y8] (μ ++ ν) = .ok (.dk nb (costs (goC r l p 0 row kC0)).length) (μ ++ ν) := iSeq_dct rfl h4
  have hnd := costs_nd (goC_nd (r := r) (l := l) (p := p) (row := row) (t := 0) kC0_nd)
  have hlc := eLc_src (it := iSeq (eVar 2)) (tg := .nm 5) (ifs := tBl (gE (eBin (cmpD .Eq) (gE (eBin ixD (eVar 5) (eK (.int 1)))) (eK (.int 0))))) (elt := gE (eBin ixD (eVar 2) (eVar 5))) (own := [5]) (fun e : KS × Int => ksD e.1) (costs (goC r l p 0 row kC0)) (fun e => decide (e.1.2 = 0)) (fun e => .int e.2) (by unfold costs aMap; rw [List.length_map]; have := goC_len mo hc hl; omega) hi rfl (fun i acc => nxt_dk (dct_app h4)) rfl
    (fun e he acc => ⟨_, rfl, by
      have : ∀ M : Mem, eqD (.int e.1.2) (.int 0) M = some (.bl (e.1.2 == 0), M) := fun _ => eqD_int
      simp only [List.length_cons, List.length_nil, if_true, List.map_cons, List.map_nil, List.replicate_zero, List.replicate_succ, List.append_nil, List.cons_append, List.nil_append, seq_eq, sRet, sNx, sIf, sExpr, sSet, sRaise, eAn, eOr, eNo, eUn, eBin, eApp, esCons, esNil, eIf, eChain, eVar, eK, tNo, tTru, tBl, tAn, tOr', gE, gc_id, gc_ex, List.getElem?_cons_zero, List.getElem?_cons_succ, bind_ok, bind_ex, st_ok, st_ex, r_some, cmpD, binD, runS, eDef_eq, Tg.sets, set_tp, setE_z, setE_s, Option.map_some, List.set_cons_zero, List.set_cons_succ, Bool.false_eq_true, if_false, tru_bl, Bool.not_true, Bool.not_false, wipeE, ix2_1, this]
      rfl, fun _ => by
      have := dix_enc (μ := μ ++ ν ++ [.lst acc]) (n := nb) (kn := true) (vd := D.int) (es := costs (goC r l p 0 row kC0)) (a := e.1) ksE (dct_app h4) (aGet_of_mem hnd he)
      simp only [List.length_cons, List.length_nil, if_true, List.map_cons, List.map_nil, List.replicate_zero, List.replicate_succ, List.append_nil, List.cons_append, List.nil_append, seq_eq, sRet, sNx, sIf, sExpr, sSet, sRaise, eAn, eOr, eNo, eUn, eBin, eApp, esCons, esNil, eIf, eChain, eVar, eK, tNo, tTru, tBl, tAn, tOr', gE, gc_id, gc_ex, List.getElem?_cons_zero, List.getElem?_cons_succ, bind_ok, bind_ex, st_ok, st_ex, r_some, cmpD, binD, runS, eDef_eq, Tg.sets, set_tp, setE_z, setE_s, Option.map_some, List.set_cons_zero, List.set_cons_succ, Bool.false_eq_true, if_false, tru_bl, Bool.not_true, Bool.not_false, wipeE, this]⟩)
  have hends : ((costs (goC r l p 0 row kC0)).filter fun e => decide (e.1.2 = 0)).map (fun e => D.int e.2) = (endL r l p row).map .int := by
    unfold endL
    rw [show kL0 = costs kC0 from rfl, go_costs r l p row 0 kC0, List.map_map]
    rfl
  rw [hends] at hlc
  have hmin : ∀ M : Mem, lstAt M (μ ++ ν).length = some ((endL r l p row).map .int) → minD [.loc (μ ++ ν).length] M = some (.int (cheapP r l p row).1, M) := fun M hM => by
    show foldI minL M (.loc (μ ++ ν).length) = _
    unfold foldI
    have : lsD M (.loc (μ ++ ν).length) = some ((endL r l p row).map .int) := hM
    rw [this]
    dsimp only
    rw [intsD_of]
    dsimp only
    rw [cheap_min (end_some mo.l1 mo.lr hc)]
    rfl
  have hm := hmin (μ ++ ν ++ [.lst ((endL r l p row).map .int)]) lst_at_new
  refine ⟨ν, ?_⟩
  unfold m__law_least
  rw [seq_eq, s1]
  simp only []
  rw [seq_eq, h1]
  simp only []
  rw [seq_eq]
  unfold sRet
  have e5 : (gE (eApp minD (esCons (eLc (iSeq (eVar 2)) (.nm 5) (tBl (gE (eBin (cmpD .Eq) (gE (eBin ixD (eVar 5) (eK (.int 1)))) (eK (.int 0))))) (gE (eBin ixD (eVar 2) (eVar 5))) [5]) esNil))) [some (mD r l p), some (.tup (row.map .int)), some (.loc nb), y3, y4, y5, y6, y7, y8] (μ ++ ν) = .ok (.int (cheapP r l p row).1) (μ ++ ν) := by
    have hE : esCons (eLc (iSeq (eVar 2)) (.nm 5) (tBl (gE (eBin (cmpD .Eq) (gE (eBin ixD (eVar 5) (eK (.int 1)))) (eK (.int 0))))) (gE (eBin ixD (eVar 2) (eVar 5))) [5]) esNil [some (mD r l p), some (.tup (row.map .int)), some (.loc nb), y3, y4, y5, y6, y7, y8] (μ ++ ν) = .ok [.loc (μ ++ ν).length] (μ ++ ν ++ [.lst ((endL r l p row).map .int)]) := by
      unfold esCons
      rw [hlc]
      rfl
    show gc false (μ ++ ν) ((esCons (eLc (iSeq (eVar 2)) (.nm 5) (tBl (gE (eBin (cmpD .Eq) (gE (eBin ixD (eVar 5) (eK (.int 1)))) (eK (.int 0))))) (gE (eBin ixD (eVar 2) (eVar 5))) [5]) esNil [some (mD r l p), some (.tup (row.map .int)), some (.loc nb), y3, y4, y5, y6, y7, y8] (μ ++ ν)).bind fun xs μ1 => (minD xs μ1).r) = _
    rw [hE, bind_ok, hm]
    exact gc_low rfl
  rw [e5]
  rfl
/-! ### what is spent -/
theorem simG_split {r l p : Int} : ∀ {xs ys : List (Int × Bool)} {s v : Sim}, simG r l p (xs ++ ys) s = some v → ∃ u, simG r l p xs s = some u ∧ simG r l p ys u = some v
  | [], ys, s, v, h => ⟨s, rfl, h⟩
  | x :: xs, ys, s, v, h => by
    rw [List.cons_append] at h
    unfold simG at h
    split at h
    · rename_i s' e
      obtain ⟨u, h1, h2⟩ := simG_split h
      refine ⟨u, ?_, h2⟩
      unfold simG
      rw [e]
      exact h1
    · cases h
def S_spent (c : Tab) : Prop := ∀ r l p (row : List Int) (bs : List Bool) (v : Sim) μ, row.length ≤ 60 → bs.length = row.length → simG r l p (row.zip bs) (0, 0, 0) = some v → v.2.1 = 0 → run c "_law_spent" [mD r l p, .tup (row.map .int), .tup ((idx 0 bs).map .int)] μ = .ok (.int v.2.2) μ
theorem ok_spent {c c' : Tab} (h : c' "_law_spent" = some (mkFn 3 4 2 m__law_spent c)) : S_spent c' := by
  intro r l p row bs v μ hl hbl hs hv
  rw [run_mk h rfl, gcM2]
  have hlen : lenD [.tup (row.map .int)] μ = some (.int (row.length : Nat), μ) := by rw [len_tup, List.length_map]
  have hi : iRg1 (esCons (gE (eApp lenD (esCons (eVar 1) esNil))) esNil) [some (mD r l p), some (.tup (row.map .int)), some (.tup ((idx 0 bs).map .int)), none, some (.int 0), some (.int 0), some (.int 0)] μ = .ok (.rng 0 row.length) μ := by
    unfold iRg1
    simp only [List.length_cons, List.length_nil, if_true, List.map_cons, List.map_nil, List.replicate_zero, List.replicate_succ, List.append_nil, List.cons_append, List.nil_append, seq_eq, sRet, sNx, sIf, sExpr, sSet, sRaise, eAn, eOr, eNo, eUn, eBin, eApp, esCons, esNil, eIf, eChain, eVar, eK, tNo, tTru, tBl, tAn, tOr', gE, gc_id, gc_ex, List.getElem?_cons_zero, List.getElem?_cons_succ, bind_ok, bind_ex, st_ok, st_ex, r_some, cmpD, binD, runS, eDef_eq, Tg.sets, set_tp, setE_z, setE_s, Option.map_some, List.set_cons_zero, List.set_cons_succ, Bool.false_eq_true, if_false, tru_bl, Bool.not_true, Bool.not_false, hlen]
    rw [rg1_ok (by omega) (by omega)]
    rfl
  obtain ⟨ρ', μ', h1, y3, st, h2, h3, h4⟩ := for_rng (it := iRg1 (esCons (gE (eApp lenD (esCons (eVar 1) esNil))) esNil)) (tg := .nm 3) (b := _law_spent_b1 c) (N := row.length)
    (fun i ρ μ' => ∃ y3 st, ρ = [some (mD r l p), some (.tup (row.map .int)), some (.tup ((idx 0 bs).map .int)), y3, some (.int st.1), some (.int st.2.1), some (.int st.2.2)] ∧ μ' = μ ∧ simG r l p ((row.zip bs).take i) (0, 0, 0) = some st) hi ⟨none, (0, 0, 0), rfl, rfl, rfl⟩
    (fun i ρ μ' hi ⟨y3, st, h1, h2, h3⟩ => by
      subst h1
      rw [h2]
      obtain ⟨busy, cnt, found⟩ := st
      have hz : i < (row.zip bs).length := by rw [List.length_zip, hbl, Nat.min_self]; exact hi
      have hsp : row.zip bs = (row.zip bs).take i ++ ((row.zip bs)[i] :: (row.zip bs).drop (i + 1)) := by
        rw [List.getElem_cons_drop, List.take_append_drop]
      have hs' := hs
      rw [hsp] at hs'
      obtain ⟨u, q1, q2⟩ := simG_split hs'
      rw [h3] at q1
      cases q1
      unfold simG at q2
      split at q2
      rotate_left
      · cases q2
      rename_i s' e
      have hnext : simG r l p ((row.zip bs).take (i + 1)) (0, 0, 0) = some s' := by
        rw [List.take_succ, List.getElem?_eq_getElem hz]
        exact simG_app h3 e
      have hbi : i < bs.length := by omega
      have hzi : (row.zip bs)[i] = (row[i], bs[i]) := by simp
      rw [hzi] at e
      have hrow : ixD (.tup (row.map .int)) (.int (0 + (i : Nat))) μ = some (.int row[i], μ) := by
        rw [Int.zero_add]
        exact ixD_seq (xs := row.map .int) rfl (atI_get (by simp [hi]))
      have hin : inD (.int (0 + (i : Nat))) (.tup ((idx 0 bs).map .int)) μ = some (.bl bs[i], μ) := by
        rw [in_ints]
        congr 2
        cases hb : bs[i] with
        | true =>
          have : ((0 : Int) + (i : Nat)) ∈ idx 0 bs := idx_mem.mpr ⟨i, rfl, by rw [List.getElem?_eq_getElem hbi, hb]⟩
          rw [decide_eq_true this]
        | false =>
          have : ¬ ((0 : Int) + (i : Nat)) ∈ idx 0 bs := fun hm => by
            obtain ⟨j, e1, e2⟩ := idx_mem.mp hm
            have : i = j := by omega
            subst this
            rw [List.getElem?_eq_getElem hbi, hb] at e2
            cases e2
          rw [decide_eq_false this]
      refine ⟨[some (mD r l p), some (.tup (row.map .int)), some (.tup ((idx 0 bs).map .int)), some (.int (0 + (i : Nat))), some (.int busy), some (.int cnt), some (.int found)], _, μ, rfl, ?_, some (.int (0 + (i : Nat))), s', rfl, rfl, hnext⟩
      unfold simS at e
      unfold _law_spent_b1
      cases hb : bs[i] with
      | true =>
        rw [hb] at e
        dsimp only at e
        rw [if_pos rfl] at e
        split at e
        · cases e
        · rename_i hc
          cases e
          have k1 : ¬ busy > 0 := fun k => hc (.inl k)
          have k2 : (cnt + row[i] == 0) = false := by
            simp only [beq_eq_false_iff_ne]
            exact fun k => hc (.inr k)
          rw [hb] at hin
          simp only [mD, List.length_cons, List.length_nil, if_true, List.map_cons, List.map_nil, List.replicate_zero, List.replicate_succ, List.append_nil, List.cons_append, List.nil_append, seq_eq, sRet, sNx, sIf, sExpr, sSet, sRaise, eAn, eOr, eNo, eUn, eBin, eApp, esCons, esNil, eIf, eChain, eVar, eK, tNo, tTru, tBl, tAn, tOr', gE, gc_id, gc_ex, List.getElem?_cons_zero, List.getElem?_cons_succ, bind_ok, bind_ex, st_ok, st_ex, r_some, cmpD, binD, runS, eDef_eq, Tg.sets, set_tp, setE_z, setE_s, Option.map_some, List.set_cons_zero, List.set_cons_succ, Bool.false_eq_true, if_false, tru_bl, Bool.not_true, Bool.not_false, hrow, addD_int, hin, icmp, eqD_int, k1, k2, decide_false, ix3_0, ix3_1, ix3_2, subD_int, maxD_int, tup3, tup2]
          rfl
      | false =>
        rw [hb] at e hin
        cases e
        simp only [mD, List.length_cons, List.length_nil, if_true, List.map_cons, List.map_nil, List.replicate_zero, List.replicate_succ, List.append_nil, List.cons_append, List.nil_append, seq_eq, sRet, sNx, sIf, sExpr, sSet, sRaise, eAn, eOr, eNo, eUn, eBin, eApp, esCons, esNil, eIf, eChain, eVar, eK, tNo, tTru, tBl, tAn, tOr', gE, gc_id, gc_ex, List.getElem?_cons_zero, List.getElem?_cons_succ, bind_ok, bind_ex, st_ok, st_ex, r_some, cmpD, binD, runS, eDef_eq, Tg.sets, set_tp, setE_z, setE_s, Option.map_some, List.set_cons_zero, List.set_cons_succ, Bool.false_eq_true, if_false, tru_bl, Bool.not_true, Bool.not_false, hrow, addD_int, hin, subD_int, maxD_int, tup2]
        rfl)
  subst h2
  rw [List.take_of_length_le (by rw [List.length_zip, hbl, Nat.min_self]; exact Nat.le_refl _), hs] at h4
  cases h4
  rw [show ([mD r l p, .tup (row.map .int), .tup ((idx 0 bs).map .int)].map some ++ List.replicate 4 none) = [some (mD r l p), some (.tup (row.map .int)), some (.tup ((idx 0 bs).map .int)), none, none, none, none] from rfl]
  unfold m__law_spent
  have s1 : sSet (.tp [.nm 4, .nm 5, .nm 6]) (eApp tupP (esCons (eK (.int 0)) (esCons (eK (.int 0)) (esCons (eK (.int 0)) esNil)))) [some (mD r l p), some (.tup (row.map .int)), some (.tup ((idx 0 bs).map .int)), none, none, none, none] μ = .nx [some (mD r l p), some (.tup (row.map .int)), some (.tup ((idx 0 bs).map .int)), none, some (.int 0), some (.int 0), some (.int 0)] μ := by
    simp only [List.length_cons, List.length_nil, if_true, List.map_cons, List.map_nil, List.replicate_zero, List.replicate_succ, List.append_nil, List.cons_append, List.nil_append, seq_eq, sRet, sNx, sIf, sExpr, sSet, sRaise, eAn, eOr, eNo, eUn, eBin, eApp, esCons, esNil, eIf, eChain, eVar, eK, tNo, tTru, tBl, tAn, tOr', gE, gc_id, gc_ex, List.getElem?_cons_zero, List.getElem?_cons_succ, bind_ok, bind_ex, st_ok, st_ex, r_some, cmpD, binD, runS, eDef_eq, Tg.sets, set_tp, setE_z, setE_s, Option.map_some, List.set_cons_zero, List.set_cons_succ, Bool.false_eq_true, if_false, tru_bl, Bool.not_true, Bool.not_false, tup3]
  rw [seq_eq, s1]
  simp only []
  rw [seq_eq, h1]
  simp only []
  have hz : (v.2.1 == 0) = true := by rw [hv]; rfl
  rw [h3]
  simp only [List.length_cons, List.length_nil, if_true, List.map_cons, List.map_nil, List.replicate_zero, List.replicate_succ, List.append_nil, List.cons_append, List.nil_append, seq_eq, sRet, sNx, sIf, sExpr, sSet, sRaise, eAn, eOr, eNo, eUn, eBin, eApp, esCons, esNil, eIf, eChain, eVar, eK, tNo, tTru, tBl, tAn, tOr', gE, gc_id, gc_ex, List.getElem?_cons_zero, List.getElem?_cons_succ, bind_ok, bind_ex, st_ok, st_ex, r_some, cmpD, binD, runS, eDef_eq, Tg.sets, set_tp, setE_z, setE_s, Option.map_some, List.set_cons_zero, List.set_cons_succ, Bool.false_eq_true, if_false, tru_bl, Bool.not_true, Bool.not_false, eqD_int, hz, eIf]
end K03
end Ev

set_option Elab.async false
set_option linter.all false
set_option maxRecDepth 100000
set_option maxHeartbeats 4000000
namespace Ev
open PySem PySem.Spec PyProof.Rows L2
namespace K03
/-- calls that check a machine, a row -/
structure Chk (c : Tab) (x : Str) : Prop where
  m : ∀ v u μ, okTT μ v → machB v = false → run c x [v, u] μ = .ex { c := "InvalidMachine" } μ
  w : ∀ r l p w μ, MOk r l p → okTT μ w → rowB w = false → run c x [mD r l p, w] μ = .ex { c := "InvalidRow" } μ
structure Has (c : Tab) : Prop where
  bag : S_bag c
  mach : S_machine c
  row : S_row c
  least : S_least c
  spent : S_spent c
  num : S_is_num c
  cost : S_best_cost c
  starts : S_best_starts c
  chk : ∀ x, x = ("best_cost" : Str) ∨ x = ("best_starts" : Str) → Chk c x
section
variable {c : Tab} (H : Has c)
include H
theorem turn {x0 x1 x5 x6 x7 x8 x9 x10 : Option D} {r l p : Int} {most : Nat} (hm : most ≤ 60) (mo : MOk r l p) {n : Nat} {μ : Mem} (hb : Bag μ n) :
    ∃ y6 y8 y9 μ', law_b3 c [x0, x1, some (.loc n), some (mD r l p), some (.int most), x5, x6, x7, x8, x9, x10] μ = .nx [x0, x1, some (.loc n), some (mD r l p), some (.int most), x5, y6, x7, y8, y9, x10] μ' ∧ Bag μ' n := by
  obtain ⟨row, μ2, e3, d2, h01, hl⟩ := H.row n most μ hb (by omega)
  have b2 : Bag μ2 n := d2.bag hb
  have hl60 : row.length ≤ 60 := by omega
  obtain ⟨bs, b, g1, g2, g3⟩ := end_good (p := p) mo.l1 h01 (cheap_mem (end_some (r := r) (p := p) mo.l1 mo.lr h01))
  obtain ⟨w, hw⟩ : ∃ w, cheapP r l p row = w := ⟨_, rfl⟩
  have el : ∀ M, run c "_law_least" [mD r l p, .tup (row.map .int)] M = .ok (.int w.1) M := fun M => by rw [← hw]; exact H.least r l p row M mo h01 hl60
  have ec : ∀ M, run c "best_cost" [mD r l p, .tup (row.map .int)] M = .ok (.int w.1) M := fun M => by rw [← hw]; exact H.cost r l p row M mo h01 hl60
  have es : ∀ M, run c "best_starts" [mD r l p, .tup (row.map .int)] M = .ok (.tup (w.2.map .int)) M := fun M => by rw [← hw]; exact H.starts r l p row M mo h01 hl60
  rw [hw] at g2 g3
  have hasc := idx_asc bs 0
  rw [← g3] at hasc
  have hwl : w.2.length ≤ 60 := by
    have := idx_len (bs := bs) (o := 0)
    rw [← g3] at this
    omega
  have ep : ∀ M, run c "_law_spent" [mD r l p, .tup (row.map .int), .tup (w.2.map .int)] M = .ok (.int w.1) M := fun M => by
    rw [g3]
    exact H.spent r l p row bs (b, 0, w.1) M hl60 g1 g2 rfl
  let R : List D := row.map .int
  let Tk : List D := w.2.map .int
  have s1 : sSet (.nm 6) (eDef c "_law_row" (esCons (eVar 2) (esCons (eVar 4) esNil))) [x0, x1, some (.loc n), some (mD r l p), some (.int most), x5, x6, x7, x8, x9, x10] μ = .nx [x0, x1, some (.loc n), some (mD r l p), some (.int most), x5, some (.tup R), x7, x8, x9, x10] μ2 := by
    simp only [List.length_cons, List.length_nil, if_true, List.map_cons, List.map_nil, List.replicate_zero, List.replicate_succ, List.append_nil, List.cons_append, List.nil_append, seq_eq, sRet, sNx, sIf, sExpr, sSet, sRaise, eAn, eOr, eNo, eUn, eBin, eApp, esCons, esNil, eIf, eChain, eVar, eK, tNo, tTru, tBl, tAn, tOr', gE, gc_id, gc_ex, List.getElem?_cons_zero, List.getElem?_cons_succ, bind_ok, bind_ex, st_ok, st_ex, r_some, cmpD, binD, runS, eDef_eq, Tg.sets, set_tp, setE_z, setE_s, Option.map_some, List.set_cons_zero, List.set_cons_succ, Bool.false_eq_true, if_false, tru_bl, Bool.not_true, Bool.not_false, e3]
    rfl
  have s2 : sSet (.tp [(.nm 8), (.nm 9)]) (eApp tupP (esCons (eDef c "_law_least" (esCons (eVar 3) (esCons (eVar 6) esNil))) (esCons (eDef c "best_starts" (esCons (eVar 3) (esCons (eVar 6) esNil))) esNil))) [x0, x1, some (.loc n), some (mD r l p), some (.int most), x5, some (.tup R), x7, x8, x9, x10] μ2 = .nx [x0, x1, some (.loc n), some (mD r l p), some (.int most), x5, some (.tup R), x7, some (.int w.1), some (.tup Tk), x10] μ2 := by
    have h1 := el μ2
    have h2 := es μ2
    simp only [mD] at h1 h2 ⊢
    simp only [List.length_cons, List.length_nil, if_true, List.map_cons, List.map_nil, List.replicate_zero, List.replicate_succ, List.append_nil, List.cons_append, List.nil_append, seq_eq, sRet, sNx, sIf, sExpr, sSet, sRaise, eAn, eOr, eNo, eUn, eBin, eApp, esCons, esNil, eIf, eChain, eVar, eK, tNo, tTru, tBl, tAn, tOr', gE, gc_id, gc_ex, List.getElem?_cons_zero, List.getElem?_cons_succ, bind_ok, bind_ex, st_ok, st_ex, r_some, cmpD, binD, runS, eDef_eq, Tg.sets, set_tp, setE_z, setE_s, Option.map_some, List.set_cons_zero, List.set_cons_succ, Bool.false_eq_true, if_false, tru_bl, Bool.not_true, Bool.not_false, R, h1, h2, tup2]
    rfl
  have s3 : sIf (tOr' (tBl (gE (eBin (cmpD .NotEq) (eDef c "best_cost" (esCons (eVar 3) (esCons (eVar 6) esNil))) (eVar 8)))) (tNo (tTru (eUn (isiD ["tuple"]) (eVar 9))))) (sSeq (sRet (eK (.bl false))) sNx) sNx [x0, x1, some (.loc n), some (mD r l p), some (.int most), x5, some (.tup R), x7, some (.int w.1), some (.tup Tk), x10] μ2
      = .nx [x0, x1, some (.loc n), some (mD r l p), some (.int most), x5, some (.tup R), x7, some (.int w.1), some (.tup Tk), x10] μ2 := by
    have h1 := ec μ2
    have h2 : isiD ["tuple"] (.tup Tk) μ2 = some (.bl true, μ2) := by simp [isiD, tyOfD, isaB]
    have h3 : neD (.int w.1) (.int w.1) μ2 = some (.bl false, μ2) := by rw [neD_int]; simp
    simp only [mD] at h1 ⊢
    simp only [List.length_cons, List.length_nil, if_true, List.map_cons, List.map_nil, List.replicate_zero, List.replicate_succ, List.append_nil, List.cons_append, List.nil_append, seq_eq, sRet, sNx, sIf, sExpr, sSet, sRaise, eAn, eOr, eNo, eUn, eBin, eApp, esCons, esNil, eIf, eChain, eVar, eK, tNo, tTru, tBl, tAn, tOr', gE, gc_id, gc_ex, List.getElem?_cons_zero, List.getElem?_cons_succ, bind_ok, bind_ex, st_ok, st_ex, r_some, cmpD, binD, runS, eDef_eq, Tg.sets, set_tp, setE_z, setE_s, Option.map_some, List.set_cons_zero, List.set_cons_succ, Bool.false_eq_true, if_false, tru_bl, Bool.not_true, Bool.not_false, R, h1, h2, h3]
  have hlen : ∀ M, lenD [.tup R] M = some (.int (row.length : Nat), M) := fun M => by rw [len_tup, List.length_map]
  have hlc := eLc_fix (it := iSeq (eVar 9)) (tg := .nm 10) (ifs := tNo (tTru (eDef c "_law_is_number" (esCons (eVar 10) (esCons (eK (.int 0)) (esCons (eBin (binD .Sub) (gE (eApp lenD (esCons (eVar 6) esNil))) (eK (.int 1))) esNil)))))) (elt := eVar 10) (own := [10]) (ρ := [x0, x1, some (.loc n), some (mD r l p), some (.int most), x5, some (.tup R), x7, some (.int w.1), some (.tup Tk), x10]) (μ := μ2) (μ1 := μ2) D.int w.2 (fun _ => false) (fun k => .int k) (by omega) (iSeq_tup rfl) rfl
    (fun k hk acc => ⟨_, rfl, by
      have hb := hasc.2 k hk
      have h1 := H.num k 0 (row.length - 1) (μ2 ++ [.lst acc])
      have h2 : (decide ((0 : Int) ≤ k) && decide (k ≤ (row.length : Int) - 1)) = true := by
        rw [Bool.and_eq_true, decide_eq_true_eq, decide_eq_true_eq]
        omega
      rw [h2] at h1
      simp only [List.length_cons, List.length_nil, if_true, List.map_cons, List.map_nil, List.replicate_zero, List.replicate_succ, List.append_nil, List.cons_append, List.nil_append, seq_eq, sRet, sNx, sIf, sExpr, sSet, sRaise, eAn, eOr, eNo, eUn, eBin, eApp, esCons, esNil, eIf, eChain, eVar, eK, tNo, tTru, tBl, tAn, tOr', gE, gc_id, gc_ex, List.getElem?_cons_zero, List.getElem?_cons_succ, bind_ok, bind_ex, st_ok, st_ex, r_some, cmpD, binD, runS, eDef_eq, Tg.sets, set_tp, setE_z, setE_s, Option.map_some, List.set_cons_zero, List.set_cons_succ, Bool.false_eq_true, if_false, tru_bl, Bool.not_true, Bool.not_false, wipeE, hlen, subD_int, h1], fun h => by cases h⟩)
  rw [show w.2.filter (fun _ => false) = [] from List.filter_eq_nil_iff.mpr fun _ _ h => by cases h] at hlc
  have s4 : sIf (tBl (gE (eBin (cmpD .NotEq) (eLc (iSeq (eVar 9)) (.nm 10) (tNo (tTru (eDef c "_law_is_number" (esCons (eVar 10) (esCons (eK (.int 0)) (esCons (eBin (binD .Sub) (gE (eApp lenD (esCons (eVar 6) esNil))) (eK (.int 1))) esNil)))))) (eVar 10) [10]) (eApp lstP esNil)))) (sSeq (sRet (eK (.bl false))) sNx) sNx [x0, x1, some (.loc n), some (mD r l p), some (.int most), x5, some (.tup R), x7, some (.int w.1), some (.tup Tk), x10] μ2
      = .nx [x0, x1, some (.loc n), some (mD r l p), some (.int most), x5, some (.tup R), x7, some (.int w.1), some (.tup Tk), x10] μ2 := by
    have hne : neD (.loc μ2.length) (.loc (μ2 ++ [MO.lst []]).length) (μ2 ++ [MO.lst []] ++ [.lst []]) = some (.bl false, μ2 ++ [MO.lst []] ++ [.lst []]) := by
      have := IsL.neD (e := D.int) (as := []) (bs := []) Enc.int (by omega) (μ := μ2 ++ [MO.lst []] ++ [.lst []]) (.inr ⟨μ2.length, rfl, at_app lst_at_new⟩) (.inr ⟨(μ2 ++ [MO.lst []]).length, rfl, lst_at_new⟩)
      simpa using this
    have hv : (eBin (cmpD .NotEq) (eLc (iSeq (eVar 9)) (.nm 10) (tNo (tTru (eDef c "_law_is_number" (esCons (eVar 10) (esCons (eK (.int 0)) (esCons (eBin (binD .Sub) (gE (eApp lenD (esCons (eVar 6) esNil))) (eK (.int 1))) esNil)))))) (eVar 10) [10]) (eApp lstP esNil)) [x0, x1, some (.loc n), some (mD r l p), some (.int most), x5, some (.tup R), x7, some (.int w.1), some (.tup Tk), x10] μ2 = .ok (.bl false) (μ2 ++ [MO.lst []] ++ [.lst []]) := by
      show ((eLc (iSeq (eVar 9)) (.nm 10) (tNo (tTru (eDef c "_law_is_number" (esCons (eVar 10) (esCons (eK (.int 0)) (esCons (eBin (binD .Sub) (gE (eApp lenD (esCons (eVar 6) esNil))) (eK (.int 1))) esNil)))))) (eVar 10) [10] [x0, x1, some (.loc n), some (mD r l p), some (.int most), x5, some (.tup R), x7, some (.int w.1), some (.tup Tk), x10] μ2).bind fun x μ1 => (eApp lstP esNil [x0, x1, some (.loc n), some (mD r l p), some (.int most), x5, some (.tup R), x7, some (.int w.1), some (.tup Tk), x10] μ1).bind fun y μ2 => (cmpD .NotEq x y μ2).r) = _
      rw [hlc]
      simp only [List.length_cons, List.length_nil, if_true, List.map_cons, List.map_nil, List.replicate_zero, List.replicate_succ, List.append_nil, List.cons_append, List.nil_append, seq_eq, sRet, sNx, sIf, sExpr, sSet, sRaise, eAn, eOr, eNo, eUn, eBin, eApp, esCons, esNil, eIf, eChain, eVar, eK, tNo, tTru, tBl, tAn, tOr', gE, gc_id, gc_ex, List.getElem?_cons_zero, List.getElem?_cons_succ, bind_ok, bind_ex, st_ok, st_ex, r_some, cmpD, binD, runS, eDef_eq, Tg.sets, set_tp, setE_z, setE_s, Option.map_some, List.set_cons_zero, List.set_cons_succ, Bool.false_eq_true, if_false, tru_bl, Bool.not_true, Bool.not_false, lst0, hne]
    have hg : (gE (eBin (cmpD .NotEq) (eLc (iSeq (eVar 9)) (.nm 10) (tNo (tTru (eDef c "_law_is_number" (esCons (eVar 10) (esCons (eK (.int 0)) (esCons (eBin (binD .Sub) (gE (eApp lenD (esCons (eVar 6) esNil))) (eK (.int 1))) esNil)))))) (eVar 10) [10]) (eApp lstP esNil))) [x0, x1, some (.loc n), some (mD r l p), some (.int most), x5, some (.tup R), x7, some (.int w.1), some (.tup Tk), x10] μ2 = .ok (.bl false) μ2 := by
      show gc false μ2 (eBin (cmpD .NotEq) (eLc (iSeq (eVar 9)) (.nm 10) (tNo (tTru (eDef c "_law_is_number" (esCons (eVar 10) (esCons (eK (.int 0)) (esCons (eBin (binD .Sub) (gE (eApp lenD (esCons (eVar 6) esNil))) (eK (.int 1))) esNil)))))) (eVar 10) [10]) (eApp lstP esNil) [x0, x1, some (.loc n), some (mD r l p), some (.int most), x5, some (.tup R), x7, some (.int w.1), some (.tup Tk), x10] μ2) = _
      rw [hv, List.append_assoc]
      exact gc_low rfl
    unfold sIf tBl
    rw [hg]
    rfl
  have s5 : sIf (tOr' (tBl (gE (eBin (cmpD .NotEq) (gE (eApp listD2 (esCons (eVar 9) esNil))) (eUn srtSetD (eVar 9))))) (tBl (gE (eBin (cmpD .NotEq) (eDef c "_law_spent" (esCons (eVar 3) (esCons (eVar 6) (esCons (eVar 9) esNil)))) (eVar 8))))) (sSeq (sRet (eK (.bl false))) sNx) sNx [x0, x1, some (.loc n), some (mD r l p), some (.int most), x5, some (.tup R), x7, some (.int w.1), some (.tup Tk), x10] μ2
      = .nx [x0, x1, some (.loc n), some (mD r l p), some (.int most), x5, some (.tup R), x7, some (.int w.1), some (.tup Tk), x10] μ2 := by
    have h1 : listD2 [.tup Tk] μ2 = some (.loc μ2.length, μ2 ++ [.lst Tk]) := rfl
    have h2 : gc false μ2 (.ok (.loc μ2.length) (μ2 ++ [.lst Tk])) = .ok (.loc μ2.length) (μ2 ++ [.lst Tk]) := gc_newA low_ints
    have h3 : srtSetD (.tup Tk) (μ2 ++ [.lst Tk]) = some (.loc (μ2 ++ [MO.lst Tk]).length, μ2 ++ [MO.lst Tk] ++ [.lst Tk]) := by
      unfold srtSetD
      dsimp only
      rw [show intsD Tk = some w.2 from intsD_of w.2]
      dsimp only
      rw [if_pos (by omega), srtI_asc hasc.1]
    have h4 : neD (.loc μ2.length) (.loc (μ2 ++ [MO.lst Tk]).length) (μ2 ++ [MO.lst Tk] ++ [.lst Tk]) = some (.bl false, μ2 ++ [MO.lst Tk] ++ [.lst Tk]) := by
      have := IsL.neD (e := D.int) (as := w.2) (bs := w.2) Enc.int (by omega) (μ := μ2 ++ [MO.lst Tk] ++ [.lst Tk]) (.inr ⟨μ2.length, rfl, at_app lst_at_new⟩) (.inr ⟨(μ2 ++ [MO.lst Tk]).length, rfl, lst_at_new⟩)
      simpa using this
    have h5 := ep μ2
    have h6 : neD (.int w.1) (.int w.1) μ2 = some (.bl false, μ2) := by rw [neD_int]; simp
    have hg : (gE (eBin (cmpD .NotEq) (gE (eApp listD2 (esCons (eVar 9) esNil))) (eUn srtSetD (eVar 9)))) [x0, x1, some (.loc n), some (mD r l p), some (.int most), x5, some (.tup R), x7, some (.int w.1), some (.tup Tk), x10] μ2 = .ok (.bl false) μ2 := by
      simp only [List.length_cons, List.length_nil, if_true, List.map_cons, List.map_nil, List.replicate_zero, List.replicate_succ, List.append_nil, List.cons_append, List.nil_append, seq_eq, sRet, sNx, sIf, sExpr, sSet, sRaise, eAn, eOr, eNo, eUn, eBin, eApp, esCons, esNil, eIf, eChain, eVar, eK, tNo, tTru, tBl, tAn, tOr', gE, gc_id, gc_ex, List.getElem?_cons_zero, List.getElem?_cons_succ, bind_ok, bind_ex, st_ok, st_ex, r_some, cmpD, binD, runS, eDef_eq, Tg.sets, set_tp, setE_z, setE_s, Option.map_some, List.set_cons_zero, List.set_cons_succ, Bool.false_eq_true, if_false, tru_bl, Bool.not_true, Bool.not_false, h1, h2, h3, h4]
      rw [List.append_assoc]
      exact gc_low rfl
    unfold sIf tOr' tBl
    rw [hg]
    simp only [mD] at h5 ⊢
    simp only [List.length_cons, List.length_nil, if_true, List.map_cons, List.map_nil, List.replicate_zero, List.replicate_succ, List.append_nil, List.cons_append, List.nil_append, seq_eq, sRet, sNx, sIf, sExpr, sSet, sRaise, eAn, eOr, eNo, eUn, eBin, eApp, esCons, esNil, eIf, eChain, eVar, eK, tNo, tTru, tBl, tAn, tOr', gE, gc_id, gc_ex, List.getElem?_cons_zero, List.getElem?_cons_succ, bind_ok, bind_ex, st_ok, st_ex, r_some, cmpD, binD, runS, eDef_eq, Tg.sets, set_tp, setE_z, setE_s, Option.map_some, List.set_cons_zero, List.set_cons_succ, Bool.false_eq_true, if_false, tru_bl, Bool.not_true, Bool.not_false, R, Tk, h5, h6]
  refine ⟨some (.tup R), some (.int w.1), some (.tup Tk), μ2, ?_, b2⟩
  unfold law_b3
  rw [seq_eq, s1]
  simp only []
  rw [seq_eq, s2]
  simp only []
  rw [seq_eq, s3]
  simp only []
  rw [seq_eq, s4]
  simp only []
  rw [seq_eq, s5]
  rfl
/-- a call that is refused -/
theorem refused {x : Str} (hx : x = ("best_cost" : Str) ∨ x = ("best_starts" : Str)) {x0 x1 x2 x4 x6 x7 x8 x9 x10 : Option D} {r l p : Int} (mo : MOk r l p) {μ : Mem} :
    ∃ y7 ν, law_b2 c [x0, x1, x2, some (mD r l p), x4, some (.gl x), x6, x7, x8, x9, x10] μ = .nx [x0, x1, x2, some (mD r l p), x4, some (.gl x), x6, y7, x8, x9, x10] (μ ++ ν) := by
  have K := H.chk x hx
  obtain ⟨Z, hZ⟩ : ∃ Z, Z = List.replicate 61 (D.int 0) := ⟨_, rfl⟩
  let bads : List D := [.non, .loc μ.length, .tup [.int 2], .tup [.bl true], .tup Z]
  let M1 : Mem := μ ++ [.lst [.int 1], .lst bads]
  have hm61 : mulD (.tup [.int 0]) (.int 61) (μ ++ [.lst [.int 1]]) = some (.tup Z, μ ++ [.lst [.int 1]]) := by rw [hZ]; rfl
  have hi1 : iSeq (eApp lstP (esCons (eK .non) (esCons (eApp lstP (esCons (eK (.int 1)) esNil)) (esCons (eApp tupP (esCons (eK (.int 2)) esNil)) (esCons (eApp tupP (esCons (eK (.bl true)) esNil)) (esCons (eBin (binD .Mult) (eApp tupP (esCons (eK (.int 0)) esNil)) (eK (.int 61))) esNil))))))
      [x0, x1, x2, some (mD r l p), x4, some (.gl x), x6, x7, x8, x9, x10] μ = .ok (.lst (μ.length + 1)) M1 := by
    refine iSeq_loc (xs := bads) ?_ at_new
    have : ∀ M : Mem, lstP bads M = some (.loc M.length, M ++ [.lst bads]) := fun M => rfl
    simp only [List.length_cons, List.length_nil, if_true, List.map_cons, List.map_nil, List.replicate_zero, List.replicate_succ, List.append_nil, List.cons_append, List.nil_append, seq_eq, sRet, sNx, sIf, sExpr, sSet, sRaise, eAn, eOr, eNo, eUn, eBin, eApp, esCons, esNil, eIf, eChain, eVar, eK, tNo, tTru, tBl, tAn, tOr', gE, gc_id, gc_ex, List.getElem?_cons_zero, List.getElem?_cons_succ, bind_ok, bind_ex, st_ok, st_ex, r_some, cmpD, binD, runS, eDef_eq, Tg.sets, set_tp, setE_z, setE_s, Option.map_some, List.set_cons_zero, List.set_cons_succ, Bool.false_eq_true, if_false, tru_bl, Bool.not_true, Bool.not_false, lst1, tup1, hm61]
    rw [this, r_some]
    simp [M1, bads]
  obtain ⟨ρ1, μ1, f1, y7, h1, h2⟩ := for_lst (it := _) (tg := .nm 7) (b := law_b1 c) (n := μ.length + 1) id bads (fun pre ρ μ' => ∃ y7, ρ = [x0, x1, x2, some (mD r l p), x4, some (.gl x), x6, y7, x8, x9, x10] ∧ μ' = M1) hi1 ⟨x7, rfl, rfl⟩ (fun _ _ _ ⟨_, _, h⟩ => by rw [h, List.map_id]; exact at_new)
    (fun pre v post ρ μ' hp ⟨y7, h1, h2⟩ => by
      subst h1 h2
      have hv : v ∈ bads := by rw [hp]; simp
      have hbad : okTT M1 v ∧ rowB v = false := by
        simp only [bads, List.mem_cons, List.not_mem_nil, or_false] at hv
        rcases hv with rfl | rfl | rfl | rfl | rfl
        · exact ⟨⟨rfl, fun _ h => by cases h⟩, rfl⟩
        · refine ⟨⟨?_, fun _ h => by cases h⟩, rfl⟩
          have : lstAt M1 μ.length = some [.int 1] := at_new0
          unfold okT tyOfD
          simp [this]
        · exact ⟨⟨rfl, fun xs h x hx => by cases h; simp at hx; subst hx; rfl⟩, rfl⟩
        · exact ⟨⟨rfl, fun xs h x hx => by cases h; simp at hx; subst hx; rfl⟩, rfl⟩
        · exact ⟨⟨rfl, fun xs h x hx => by cases h; rw [hZ] at hx; have := (List.mem_replicate.mp hx).2; subst this; rfl⟩, by rw [hZ]; rfl⟩
      have e := K.w r l p v M1 mo hbad.1 hbad.2
      refine ⟨_, _, _, rfl, ?_, some v, rfl, rfl⟩
      unfold law_b1
      rw [seq_eq, law_if (x := { c := "InvalidRow" }) (w := "InvalidRow +") ?_ lawEx_row ok_row_s rfl]
      · rfl
      · rw [eCallV_eq]
        simp only [List.length_cons, List.length_nil, if_true, List.map_cons, List.map_nil, List.replicate_zero, List.replicate_succ, List.append_nil, List.cons_append, List.nil_append, seq_eq, sRet, sNx, sIf, sExpr, sSet, sRaise, eAn, eOr, eNo, eUn, eBin, eApp, esCons, esNil, eIf, eChain, eVar, eK, tNo, tTru, tBl, tAn, tOr', gE, gc_id, gc_ex, List.getElem?_cons_zero, List.getElem?_cons_succ, bind_ok, bind_ex, st_ok, st_ex, r_some, cmpD, binD, runS, eDef_eq, Tg.sets, set_tp, setE_z, setE_s, Option.map_some, List.set_cons_zero, List.set_cons_succ, Bool.false_eq_true, if_false, tru_bl, Bool.not_true, Bool.not_false, e, id])
  subst h1 h2
  have e3 := K.m (.tup [.int r, .int l]) .non M1 (okTT_ints (xs := [r, l])) rfl
  have hcut : slD (mD r l p) none (some 2) M1 = some (.tup [.int r, .int l], M1) := rfl
  refine ⟨y7, [.lst [.int 1], .lst bads], ?_⟩
  unfold law_b2
  rw [seq_eq, f1]
  simp only []
  rw [seq_eq, law_if (x := { c := "InvalidMachine" }) (w := "InvalidMachine +") ?_ lawEx_machine ok_machine_s rfl]
  · rfl
  · rw [eCallV_eq]
    simp only [List.length_cons, List.length_nil, if_true, List.map_cons, List.map_nil, List.replicate_zero, List.replicate_succ, List.append_nil, List.cons_append, List.nil_append, seq_eq, sRet, sNx, sIf, sExpr, sSet, sRaise, eAn, eOr, eNo, eUn, eBin, eApp, esCons, esNil, eIf, eChain, eVar, eK, tNo, tTru, tBl, tAn, tOr', gE, gc_id, gc_ex, List.getElem?_cons_zero, List.getElem?_cons_succ, bind_ok, bind_ex, st_ok, st_ex, r_some, cmpD, binD, runS, eDef_eq, Tg.sets, set_tp, setE_z, setE_s, Option.map_some, List.set_cons_zero, List.set_cons_succ, Bool.false_eq_true, if_false, tru_bl, Bool.not_true, Bool.not_false, eSl, oNo, oSo, hcut, e3]
theorem cell {ns : List Int} {i : Nat} {x2 x3 x4 x5 x6 x7 x8 x9 x10 : Option D} {μ : Mem} (hi : i < 1000) (hl : ns.length ≤ 1000) :
    ∃ y2 y3 y4 y5 y6 y7 y8 y9 y10 μ', law_b4 c [some (.fl (ns.map .int)), some (.int i), x2, x3, x4, x5, x6, x7, x8, x9, x10] μ = .nx [some (.fl (ns.map .int)), some (.int i), y2, y3, y4, y5, y6, y7, y8, y9, y10] μ' := by
  obtain ⟨μ0, e0, b0⟩ := H.bag.use (ns := ns) (k := i) (μ := μ) hi hl
  obtain ⟨r, l, p, μ1, e1, d1, q1, q2, q3, q4, q5, q6⟩ := H.mach μ.length 3 μ0 b0 (by omega) (by omega)
  have mo : MOk r l p := ⟨q3, q4, q2, q5, q6⟩
  have b1 := d1.bag b0
  obtain ⟨ρ', μ', h5, x4', x6', x8', x9', h6, h7⟩ := for_fix (it := iSeq (eApp tupP (esCons (eK (.int 8)) (esCons (eK (.int 25)) (esCons (eK (.int 60)) esNil))))) (tg := .nm 4) (b := law_b3 c) (ρ := [some (.fl (ns.map .int)), some (.int i), some (.loc μ.length), some (mD r l p), x4, x5, x6, x7, x8, x9, x10]) (μ := μ1) (μ1 := μ1) (fun k : Nat => D.int k) [8, 25, 60]
    (fun pre ρ μ' => ∃ x4 x6 x8 x9, ρ = [some (.fl (ns.map .int)), some (.int i), some (.loc μ.length), some (mD r l p), x4, x5, x6, x7, x8, x9, x10] ∧ Bag μ' μ.length) (iSeq_tup rfl) ⟨x4, x6, x8, x9, rfl, b1⟩
    (fun pre k post ρ μ' hp ⟨x4, x6, x8, x9, h1, h2⟩ => by
      subst h1
      have hk : k ∈ [8, 25, 60] := by rw [hp]; simp
      obtain ⟨y6, y8, y9, M, e, hB⟩ := turn H (x0 := some (.fl (ns.map .int))) (x1 := some (.int i)) (x5 := x5) (x6 := x6) (x7 := x7) (x8 := x8) (x9 := x9) (x10 := x10) (most := k) (by simp at hk; omega) mo h2
      exact ⟨_, _, M, rfl, e, _, _, _, _, rfl, hB⟩)
  subst h6
  obtain ⟨ρ2, μ2, h9, x5'', x7'', h10⟩ := for_fix (it := iSeq (eApp tupP (esCons (eK (.gl "best_cost")) (esCons (eK (.gl "best_starts")) esNil)))) (tg := .nm 5) (b := law_b2 c) (ρ := [some (.fl (ns.map .int)), some (.int i), some (.loc μ.length), some (mD r l p), x4', x5, x6', x7, x8', x9', x10]) (μ := μ') (μ1 := μ') D.gl ["best_cost", "best_starts"]
    (fun pre ρ _ => ∃ x5 x7, ρ = [some (.fl (ns.map .int)), some (.int i), some (.loc μ.length), some (mD r l p), x4', x5, x6', x7, x8', x9', x10]) (iSeq_tup rfl) ⟨x5, x7, rfl⟩
    (fun pre x post ρ M hp ⟨x5, x7, h1⟩ => by
      subst h1
      have hx : x ∈ (["best_cost", "best_starts"] : List Str) := by rw [hp]; simp
      obtain ⟨y7, ν, e⟩ := refused H (x := x) (by simpa using hx) (x0 := some (.fl (ns.map .int))) (x1 := some (.int i)) (x2 := some (.loc μ.length)) (x4 := x4') (x6 := x6') (x7 := x7) (x8 := x8') (x9 := x9') (x10 := x10) mo (μ := M)
      exact ⟨_, _, _, rfl, e, some (.gl x), y7, rfl⟩)
  subst h10
  refine ⟨some (.loc μ.length), some (mD r l p), x4', x5'', x6', x7'', x8', x9', x10, μ2, ?_⟩
  unfold law_b4
  have s1 : sSet (.nm 2) (eDef c "_law_bag" (esCons (eVar 0) (esCons (eVar 1) esNil))) [some (.fl (ns.map .int)), some (.int i), x2, x3, x4, x5, x6, x7, x8, x9, x10] μ = .nx [some (.fl (ns.map .int)), some (.int i), some (.loc μ.length), x3, x4, x5, x6, x7, x8, x9, x10] μ0 := by
    simp only [List.length_cons, List.length_nil, if_true, List.map_cons, List.map_nil, List.replicate_zero, List.replicate_succ, List.append_nil, List.cons_append, List.nil_append, seq_eq, sRet, sNx, sIf, sExpr, sSet, sRaise, eAn, eOr, eNo, eUn, eBin, eApp, esCons, esNil, eIf, eChain, eVar, eK, tNo, tTru, tBl, tAn, tOr', gE, gc_id, gc_ex, List.getElem?_cons_zero, List.getElem?_cons_succ, bind_ok, bind_ex, st_ok, st_ex, r_some, cmpD, binD, runS, eDef_eq, Tg.sets, set_tp, setE_z, setE_s, Option.map_some, List.set_cons_zero, List.set_cons_succ, Bool.false_eq_true, if_false, tru_bl, Bool.not_true, Bool.not_false, e0]
  have s2 : sSet (.nm 3) (eDef c "_law_machine" (esCons (eVar 2) (esCons (eK (.int 3)) esNil))) [some (.fl (ns.map .int)), some (.int i), some (.loc μ.length), x3, x4, x5, x6, x7, x8, x9, x10] μ0 = .nx [some (.fl (ns.map .int)), some (.int i), some (.loc μ.length), some (mD r l p), x4, x5, x6, x7, x8, x9, x10] μ1 := by
    simp only [List.length_cons, List.length_nil, if_true, List.map_cons, List.map_nil, List.replicate_zero, List.replicate_succ, List.append_nil, List.cons_append, List.nil_append, seq_eq, sRet, sNx, sIf, sExpr, sSet, sRaise, eAn, eOr, eNo, eUn, eBin, eApp, esCons, esNil, eIf, eChain, eVar, eK, tNo, tTru, tBl, tAn, tOr', gE, gc_id, gc_ex, List.getElem?_cons_zero, List.getElem?_cons_succ, bind_ok, bind_ex, st_ok, st_ex, r_some, cmpD, binD, runS, eDef_eq, Tg.sets, set_tp, setE_z, setE_s, Option.map_some, List.set_cons_zero, List.set_cons_succ, Bool.false_eq_true, if_false, tru_bl, Bool.not_true, Bool.not_false, e1]
  rw [seq_eq, s1]
  simp only []
  rw [seq_eq, s2]
  simp only []
  rw [seq_eq, h5]
  simp only []
  rw [seq_eq, h9]
  rfl
theorem law_true {ns : List Int} {μ : Mem} (hl : ns.length ≤ 63) : ∃ μ', runS (m_law c ([.fl (ns.map .int)].map some ++ List.replicate 10 none) μ) = .ok (.bl true) μ' := by
  obtain ⟨N, hN, hNi⟩ := law_turns (m := 15) (ns := ns) (x := List.replicate 10 none) (μ := μ) (by omega) (by omega)
  obtain ⟨ρ', μ', h5, x1, x2, x3, x4, x5, x6, x7, x8, x9, x10, h6⟩ := for_rng (tg := .nm 1) (b := law_b4 c) (N := N) (fun i ρ μ' => ∃ x1 x2 x3 x4 x5 x6 x7 x8 x9 x10, ρ = [some (.fl (ns.map .int)), x1, x2, x3, x4, x5, x6, x7, x8, x9, x10]) hNi ⟨none, none, none, none, none, none, none, none, none, none, rfl⟩
    (fun i ρ μ' hi ⟨x1, x2, x3, x4, x5, x6, x7, x8, x9, x10, h1⟩ => by
      subst h1
      obtain ⟨y2, y3, y4, y5, y6, y7, y8, y9, y10, M, e⟩ := cell H (ns := ns) (i := i) (x2 := x2) (x3 := x3) (x4 := x4) (x5 := x5) (x6 := x6) (x7 := x7) (x8 := x8) (x9 := x9) (x10 := x10) (μ := μ') (by omega) (by omega)
      refine ⟨_, _, M, rfl, ?_, some (.int (0 + (i : Nat))), y2, y3, y4, y5, y6, y7, y8, y9, y10, rfl⟩
      simp only [Int.zero_add]
      exact e)
  subst h6
  have hc := H.cost 2 2 3 [1, 1, 1] μ' ⟨by omega, by omega, by omega, by omega, by omega⟩ (by decide) (by decide)
  have hd := H.cost 2 1 4 [1, 0, 0, 0, 0, 1] μ' ⟨by omega, by omega, by omega, by omega, by omega⟩ (by decide) (by decide)
  have hv : (cheapP 2 2 3 [1, 1, 1]).1 = 7 := by decide +kernel
  have hw : (cheapP 2 1 4 [1, 0, 0, 0, 0, 1]).1 = 8 := by decide +kernel
  rw [hv] at hc
  rw [hw] at hd
  simp only [mD, List.map_cons, List.map_nil] at hc hd
  have t6 : ∀ (M : Mem) (a b d e f g : D), tupP [a, b, d, e, f, g] M = some (.tup [a, b, d, e, f, g], M) := fun _ _ _ _ _ _ _ => rfl
  refine ⟨μ', ?_⟩
  unfold m_law
  rw [seq_eq]
  rw [show ([D.fl (ns.map .int)].map some ++ List.replicate 10 none) = some (.fl (ns.map .int)) :: List.replicate 10 none from rfl, h5]
  simp only [List.length_cons, List.length_nil, if_true, List.map_cons, List.map_nil, List.replicate_zero, List.replicate_succ, List.append_nil, List.cons_append, List.nil_append, seq_eq, sRet, sNx, sIf, sExpr, sSet, sRaise, eAn, eOr, eNo, eUn, eBin, eApp, esCons, esNil, eIf, eChain, eVar, eK, tNo, tTru, tBl, tAn, tOr', gE, gc_id, gc_ex, List.getElem?_cons_zero, List.getElem?_cons_succ, bind_ok, bind_ex, st_ok, st_ex, r_some, cmpD, binD, runS, eDef_eq, Tg.sets, set_tp, setE_z, setE_s, Option.map_some, List.set_cons_zero, List.set_cons_succ, Bool.false_eq_true, if_false, tru_bl, Bool.not_true, Bool.not_false, tup3, t6, hc, hd, eqD_int]
  simp [List.length_cons, List.length_nil, if_true, List.map_cons, List.map_nil, List.replicate_zero, List.replicate_succ, List.append_nil, List.cons_append, List.nil_append, seq_eq, sRet, sNx, sIf, sExpr, sSet, sRaise, eAn, eOr, eNo, eUn, eBin, eApp, esCons, esNil, eIf, eChain, eVar, eK, tNo, tTru, tBl, tAn, tOr', gE, gc_id, gc_ex, List.getElem?_cons_zero, List.getElem?_cons_succ, bind_ok, bind_ex, st_ok, st_ex, r_some, cmpD, binD, runS, eDef_eq, Tg.sets, set_tp, setE_z, setE_s, Option.map_some, List.set_cons_zero, List.set_cons_succ, Bool.false_eq_true, if_false, tru_bl, Bool.not_true, Bool.not_false, t6, hd, eqD_int]
end
end K03
end Ev

set_option Elab.async false
set_option linter.all false
set_option maxRecDepth 100000
set_option maxHeartbeats 4000000
namespace Ev
open PySem PySem.Spec PyProof.Rows L2 LamX C8 PySem.W
/-! ### the facts of the head's end, by one look each -/
def isDef (x : Str) : Stmt → Bool
  | .FunctionDef (name := n) .. => n == x
  | _ => false
def isCls (x : Str) : Stmt → Bool
  | .ClassDef (name := n) .. => n == x
  | _ => false
/-- a method's def -/
def mthSt (P : Program) (C m : Str) : Stmt := ((clsBody ((P.main.body.find? (isCls C)).getD (.Pass ⟨0, 0, 0, 0⟩))).find? (isDef m)).getD (.Pass ⟨0, 0, 0, 0⟩)
def defSt (P : Program) (x : Str) : Stmt := (P.main.body.find? (isDef x)).getD (.Pass ⟨0, 0, 0, 0⟩)
section
variable {K : Frag} {mg : Str → Option Value} {h : Heap} (X : K.In h) (G : h.Ns mainGlobals mg)
def nsA (K : Frag) (y : Str) : Option Addr := match nsIn K mainGlobals y with
  | some (some (.ref a)) => some a
  | _ => none
include X G in
theorem nsA_mg {y : Str} {a : Addr} (e : nsA K y = some a) : mg y = some (.ref a) := by
  unfold nsA at e
  split at e
  · rename_i b hb
    cases e
    exact mg_of X G hb
  · cases e
include X G in
theorem defX_mk {x : Str} {st : Stmt} {N ps : List Str} {f : Addr} {oc kV doc pm cdv ct : Value} {od an : Option Addr} {osl : Array (Option Value)} (a : nsIn K mainGlobals x = some (some (.ref f))) (l : K.lookup f = some ⟨oc, od, .func (fnOf x x (fnArgs st) (fnBody st) (fnScope st) .none kV doc pm an cdv ct), osl⟩)
    (c : codeIn K cdv x = true) (k : keepIn K (.ref f) = true) (S : scC N ps (fnScope st) = true) (hb : ∀ us : List Value, us.length = ps.length → bindArgs (fnOf x x (fnArgs st) (fnBody st) (fnScope st) .none kV doc pm an cdv ct) ⟨us, []⟩ = pure (ps.zip us)) : DefX K mg x st N ps :=
  ⟨⟨f, _, ⟨⟨oc, od, .none, kV, doc, pm, an, cdv, ct, osl, rfl, l, c⟩, mg_of X G a, k⟩, hb⟩, fnScope_by S⟩
/-- a class and its method -/
def mthB (K : Frag) (Ca : Addr) (m : Str) (f : Addr) : Bool := PySem.W.plainGet K Ca Str.empty && PySem.W.hasDictIn K Ca && PySem.W.plainOver K Ca && (match PySem.W.findIn K (.ref Ca) "__setattr__" with
    | some (some (.builtin n)) => n == "object.__setattr__"
    | _ => false) && PySem.W.isFn K (.ref f) && PySem.W.keepIn K (.ref f) && (!(m == ("__init__" : Str)) || (PySem.W.makesIn K Ca && PySem.W.keepIn K (.ref Ca)))
include X G in
theorem defM_mk {x C m : Str} {st : Stmt} {N ps : List Str} {f Ca : Addr} {oc kV doc pm cdv ct : Value} {od an : Option Addr} {osl : Array (Option Value)} (ht : mTab.lookup x = some (C, m)) (cl : nsIn K mainGlobals C = some (some (.ref Ca))) (a : PySem.W.findIn K (.ref Ca) m = some (some (.ref f)))
    (l : K.lookup f = some ⟨oc, od, .func (fnOf m x (fnArgs st) (fnBody st) (fnScope st) .none kV doc pm an cdv ct), osl⟩) (c : codeIn K cdv x = true) (k : mthB K Ca m f = true) (S : scC N ps (fnScope st) = true)
    (hb : ∀ us : List Value, us.length = ps.length → bindArgs (fnOf m x (fnArgs st) (fnBody st) (fnScope st) .none kV doc pm an cdv ct) ⟨us, []⟩ = pure (ps.zip us)) : DefM K mg x st N ps := by
  refine ⟨⟨f, _, ?_, ?_, hb⟩, fnScope_by S⟩
  · unfold nmOf
    rw [ht]
    exact ⟨oc, od, .none, kV, doc, pm, an, cdv, ct, osl, rfl, l, c⟩
  · unfold mthB at k
    simp only [Bool.and_eq_true] at k
    obtain ⟨⟨⟨⟨⟨⟨k1, k2⟩, k3⟩, k4⟩, k5⟩, k6⟩, k7⟩ := k
    have k4' : PySem.W.findIn K (.ref Ca) "__setattr__" = some (some (.builtin "object.__setattr__")) := by
      split at k4
      · rename_i n e
        rw [e, eq_of_beq k4]
      · cases k4
    unfold LocF
    rw [ht]
    refine ⟨Ca, mg_of X G cl, ⟨k1, k2, k3, k4'⟩, fun g hg => ?_, fun hm => ?_⟩
    · rw [a] at hg
      cases hg
      exact ⟨rfl, a, k5, k6⟩
    · subst hm
      have k7 : (false || (PySem.W.makesIn K Ca && PySem.W.keepIn K (.ref Ca))) = true := k7
      rw [Bool.false_or, Bool.and_eq_true] at k7
      exact ⟨k7.1, a, k5, k7.2⟩
include X G in
theorem defL_mk {cs : List (Addr × Addr)} {T : TX} {d : DI} {f c P : Addr} {oc dV kV doc pm ct : Value} {od an : Option Addr} {osl : Array (Option Value)} (a : nsIn K mainGlobals d.x = some (some (.ref f))) (l : K.lookup f = some ⟨oc, od, .func (fnOf d.x d.x (fnArgs d.st) (fnBody d.st) (fnScope d.st) dV kV doc pm an (.ref c) ct), osl⟩)
    (h1 : (c, P) ∈ cs) (h2 : (P, (envOfC d.x (fnScope d.st) 0 0 .none).qual ++ "<lambda>") ∈ T.l) (h3 : ∀ p ∈ T.l, p.1 = P → p.2 = (envOfC d.x (fnScope d.st) 0 0 .none).qual ++ "<lambda>") : DefL K mg cs T d :=
  ⟨f, c, P, mg_of X G a, fun _ _ _ _ _ _ _ cdv _ _ e => by
    rw [l] at e
    have e1 := congrArg (fun o : Option Obj => match o with
      | some ⟨_, _, .func fd, _⟩ => fd.code
      | _ => .none) e
    exact e1.symm, h1, h2, h3⟩
/-! ### globals -/
def tupsB (f : Value → D → Bool) : List Value → List D → Bool
  | [], [] => true
  | u :: us, d :: ds => f u d && tupsB f us ds
  | _, _ => false
/-- a value of the head, as data -/
def leafB : Value → D → Bool
  | .none, .non => true
  | .bool b, .bl c => b == c
  | .int i _, .int j => i == j
  | .str x _, .str y => x == y
  | _, _ => false
def refB (f : Value → D → Bool) (K : Frag) : Value → D → Bool
  | .ref a, .tup ds => match K.lookup a with
    | some o => o.cls == .type "tuple" && (match o.data with
      | .seq its _ => decide (its.size ≤ 1000) && tupsB f its.toList ds
      | _ => false)
    | none => false
  | _, _ => false
def tupB (K : Frag) : Nat → Value → D → Bool
  | 0, u, d => leafB u d
  | k + 1, u, d => leafB u d || refB (tupB K k) K u d
def gvB (K : Frag) (p : Str × D) : Bool := match nsIn K mainGlobals p.1, p.2 with
  | some (some (.ref _)), .gl y => p.1 == y
  | some (some u), d => tupB K 4 u d
  | _, _ => false
theorem tupsB_rel {G : Gc} {f : Value → D → Bool} (h : ∀ {u : Value} {d : D}, f u d = true → ∃ v, RelV v u ∧ ∀ ι H, RelD G ι H d v) : ∀ {us : List Value} {ds : List D}, tupsB f us ds = true → ∃ vs, Vals vs us ∧ ∀ ι H, RelDs G ι H ds vs
  | [], [], _ => ⟨[], .nil, fun _ _ => .nil⟩
  | u :: us, d :: ds, e => by
    unfold tupsB at e
    rw [Bool.and_eq_true] at e
    obtain ⟨v, h1, h2⟩ := h e.1
    obtain ⟨vs, h3, h4⟩ := tupsB_rel h e.2
    exact ⟨v :: vs, .cons h1 h3, fun ι H => .cons (h2 ι H) (h4 ι H)⟩
  | [], _ :: _, e => by cases e
  | _ :: _, [], e => by cases e
theorem leafB_rel {G : Gc} {u : Value} {d : D} (e : leafB u d = true) : ∃ v, RelV v u ∧ ∀ ι H, RelD G ι H d v := by
  unfold leafB at e
  split at e
  · exact ⟨.non, rfl, fun _ _ => .non⟩
  · have e := eq_of_beq e
    subst e
    exact ⟨.bl _, rfl, fun _ _ => .bl _⟩
  · have e := eq_of_beq e
    subst e
    exact ⟨.int _, ⟨_, rfl⟩, fun _ _ => .int _⟩
  · have e := eq_of_beq e
    subst e
    exact ⟨.str _, ⟨_, rfl⟩, fun _ _ => .str _⟩
  · cases e
theorem tupB_rel {T : TX} : ∀ k {u : Value} {d : D}, tupB K k u d = true → ∃ v, RelV v u ∧ ∀ ι H, RelD ⟨K, mg, T⟩ ι H d v
  | 0, u, d, e => leafB_rel e
  | k + 1, u, d, e => by
    unfold tupB at e
    rw [Bool.or_eq_true] at e
    rcases e with e | e
    · exact leafB_rel e
    · unfold refB at e
      split at e
      · rename_i a ds
        split at e
        · rename_i o ho
          rw [Bool.and_eq_true] at e
          obtain ⟨e1, e2⟩ := e
          split at e2
          · rename_i its n hd
            rw [Bool.and_eq_true, decide_eq_true_eq] at e2
            obtain ⟨vs, h1, h2⟩ := tupsB_rel (G := ⟨K, mg, T⟩) (fun h => tupB_rel k h) e2.2
            have hs : sizeLine = 16777216 := sizeLine_eq
            exact ⟨.ref a, rfl, fun ι H => .tup (.inr ⟨o, its, n, ho, eq_of_beq e1, hd, by omega, h1⟩) (h2 ι H)⟩
          · cases e2
        · cases e
      · cases e
include X G in
theorem gv_ok {T : TX} {l : List (Str × D)} (e : l.all (gvB K) = true) : ∀ x d, l.lookup x = some d → ∃ u v, mg x = some u ∧ RelV v u ∧ ∀ ι H, RelD ⟨K, mg, T⟩ ι H d v := fun x d hd => by
  have h1 := List.all_eq_true.mp e _ (PySem.mem_of_lookup hd)
  unfold gvB at h1
  dsimp only at h1
  split at h1
  · rename_i a y hi
    have e1 := eq_of_beq h1
    subst e1
    exact ⟨_, .ref a, mg_of X G hi, rfl, fun _ _ => .gl (mg_of X G hi)⟩
  · rename_i u hi _
    obtain ⟨v, h2, h3⟩ := tupB_rel (mg := mg) (T := T) 4 h1
    exact ⟨_, v, mg_of X G hi, h2, h3⟩
  · cases h1
def bnB (K : Frag) (x : Str) : Bool := match nsIn K mainGlobals x with
  | some none => true
  | _ => false
include X G in
theorem bn_ok1 {x : Str} (e : bnB K x = true) : mg x = none := by
  unfold bnB at e
  split at e
  · rename_i hi
    exact mg_none_of X G hi
  · cases e
include X G in
theorem mn_ok (e : (mTab.all fun p => bnB K p.1) = true) : ∀ x a, mg x = some (.ref a) → mTab.lookup x = none := by
  intro x a h
  cases hl : mTab.lookup x with
  | none => rfl
  | some q =>
    have := bn_ok1 X G (List.all_eq_true.mp e _ (PySem.mem_of_lookup hl))
    rw [this] at h
    cases h
def excB (K : Frag) (x : Str) : Bool := match nsA K x with
  | some C => excIn K C [.type "ValueError", .type "Exception", .type "BaseException", .type "object"] "ValueError.__new__" && keepIn K (.ref C) && subIn K (.ref C) (.type "BaseException") == some true && typeIn K (.ref C) == some (.type "type")
  | none => false
include X G in
theorem exc_ok1 {x : Str} (e : excB K x = true) : ExcOk K mg x := by
  unfold excB at e
  split at e
  · rename_i C hC
    simp only [Bool.and_eq_true, beq_iff_eq] at e
    exact ⟨C, nsA_mg X G hC, e.1.1.1, e.1.1.2, e.1.2, e.2⟩
  · cases e
/-! ### the classes of errors -/
def excCB (K : Frag) (D : Addr) : Bool := findIn K (.ref D) "__getattribute__" == some (some (.builtin "BaseException.__getattribute__")) && findIn K (.ref D) "__getattr__" == some none && subIn K (.ref D) (.type "BaseException") == some true && hasDictIn K D && findIn K (.ref D) "__class__" == some (some (.builtin "object.__class__")) &&
  specialIn K (.builtin "object.__class__") "__get__" == some (some (.builtin "getset_descriptor.__get__")) && takesIn K (.builtin "object.__class__") == some true && mroIn K D (.type "object") == some true
theorem excC_of {K : Frag} {D : Addr} (e : excCB K D = true) : ExcC K D := by
  unfold excCB at e
  simp only [Bool.and_eq_true, beq_iff_eq] at e
  obtain ⟨⟨⟨⟨⟨⟨⟨h1, h2⟩, h3⟩, h4⟩, h5⟩, h6⟩, h7⟩, h8⟩ := e
  exact ⟨h1, h2, h3, h4, h5, h6, h7, h8⟩
def allCls : List Str := "TooMany" :: lawCls
def isxT (c y : Str) : Option Bool := if y = "ValueError" then some true else if allCls.contains y then some (y == c) else none
def clsB (K : Frag) (c : Str) : Bool := match nsA K c, nsA K "TooMany", nsA K "StartError" with
  | some D, some TM, some SE => exmOne K (.ref D) (.ref TM) == some false && exmOne K (.ref D) (.ref SE) == some true && excCB K D && (allCls.all fun y => match nsA K y with
      | some C => kitOne K (.ref D) (.ref C) == some (y == c)
      | none => false) && kitOne K (.ref D) (.type "ValueError") == some true && bnB K "ValueError"
  | _, _, _ => false
def rtD : RS → Option D
  | .rt d _ => some d
  | _ => none
def kindsB (st : Stmt) (N : List Str) (c : Str) : Bool := match rtD (hSs ⟨N, fnScope st, isxT c⟩ 20 (fnBody st) (some (.rw 0) :: List.replicate (N.length - 1) none) []) with
  | some (.str y) => y == c ++ " +"
  | _ => false
include X G in
theorem cls_ok1 {st : Stmt} {N : List Str} {c : Str} {TM SE : Addr} (e : clsB K c = true) (k : kindsB st N c = true) (hT : nsA K "TooMany" = some TM) (hS : nsA K "StartError" = some SE) :
    ∃ D, mg c = some (.ref D) ∧ exmOne K (.ref D) (.ref TM) = some false ∧ exmOne K (.ref D) (.ref SE) = some true ∧ KFact K mg st N D (c ++ " +") := by
  unfold clsB at e
  split at e
  · rename_i D TM' SE' h1 h2 h3
    rw [hT] at h2
    rw [hS] at h3
    cases h2
    cases h3
    simp only [Bool.and_eq_true, beq_iff_eq] at e
    obtain ⟨⟨⟨⟨⟨e1, e2⟩, e3⟩, e4⟩, e5⟩, e6⟩ := e
    refine ⟨D, nsA_mg X G h1, e1, e2, excC_of e3, ?_⟩
    unfold kindsB at k
    split at k
    · rename_i y hy
      have ey := eq_of_beq k
      subst ey
      unfold rtD at hy
      split at hy
      · rename_i d μ hr
        cases hy
        refine ⟨isxT c, 20, μ, fun z b hz => ?_, hr⟩
        unfold isxT at hz
        split at hz
        · rename_i hv
          subst hv
          cases hz
          exact .inr ⟨"ValueError", bn_ok1 X G e6, by decide +kernel, e5⟩
        · split at hz
          · rename_i hm
            cases hz
            have h4 := List.all_eq_true.mp e4 z (by simpa using hm)
            split at h4
            · rename_i C hC
              exact .inl ⟨C, nsA_mg X G hC, by simpa using h4⟩
            · cases h4
          · cases hz
      · cases hy
    · cases k
  · cases e
/-- the shape of the def that tells what a call returns -/
def LawSh (st : Stmt) (a fo e kn tm se told : Str) : Prop := ∃ (b1 : Stmt) (bs1 : List Stmt) (j1 j2 j3 j4 : Nat) (p1 p2 p3 p4 p5 p6 p7 p8 p9 p10 p11 p12 p13 p14 p15 p16 p17 p18 p19 p20 p21 p22 : Pos), fnBody st = [.Assign [.Name fo p1] (.Constant .none j1 p2) p3,
    .Try [.Assign [.Name fo p4] (.Tuple [.Constant (.str told) j2 p5, .Call (.Name a p6) [] [] p7] j3 p8) p9]
      [.ExceptHandler (some (.Name tm p10)) (some e) (b1 :: bs1) p11,
       .ExceptHandler (some (.Name se p12)) (some e) [.Assign [.Name fo p13] (.Tuple [.Call (.Name kn p14) [.Name e p15] [] p16] j4 p17) p18] p19] [] [] p20,
    .Return (some (.Name fo p21)) p22]
def locB (sc : Scope) (z : Str) : Bool := decide (sc.names.lookup z = some .local) && !badName z
def glbB (sc : Scope) (z : Str) : Bool := decide (sc.names.lookup z = some .globalImplicit) && !badName z
def noCellB (sc : Scope) : Bool := sc.names.all fun y => !decide (y.2 = .cell)
include X G in
theorem lawF_mk {stC stK : Stmt} {NK : List Str} (dx : DefX K mg "_law_call" stC ["call_so", "found", "e"] ["call_so"]) (dk : DefX K mg "_law_kinds" stK NK ["e"]) (sh : LawSh stC "call_so" "found" "e" "_law_kinds" "TooMany" "StartError" "told")
    (b1 : (["call_so", "found", "e"] : List Str).all (locB (fnScope stC)) = true) (b2 : (["_law_kinds", "TooMany", "StartError"] : List Str).all (glbB (fnScope stC)) = true) (b3 : noCellB (fnScope stK) = true)
    (c1 : lawCls.all (clsB K) = true) (c5 : lawCls.all (kindsB stK NK) = true) (bz : bnB K "zip" = true) (bi : bnB K "isinstance" = true) :
    ∃ stC stK a fo e kn tm se y NK TM SE, LawF K mg "_law_call" stC stK a fo e kn tm se y NK TM SE "told" := by
  have h1 := List.all_eq_true.mp c1 "NoText" (by simp [lawCls])
  unfold clsB at h1
  split at h1
  · rename_i D TM SE hD hT hS
    refine ⟨stC, stK, "call_so", "found", "e", "_law_kinds", "TooMany", "StartError", "e", NK, TM, SE, dx, dk, sh, fun z hz => ?_, fun z hz => ?_, fun x hx => ?_, nsA_mg X G hT, nsA_mg X G hS, bn_ok1 X G bz, bn_ok1 X G bi, fun c hc => cls_ok1 X G (List.all_eq_true.mp c1 c hc) (List.all_eq_true.mp c5 c hc) hT hS⟩
    · have h := List.all_eq_true.mp b1 z hz
      unfold locB at h
      simpa using h
    · have h := List.all_eq_true.mp b2 z hz
      unfold glbB at h
      simpa using h
    · unfold locK at hx
      split at hx
      · assumption
      · rename_i e1
        have h := List.all_eq_true.mp b3 _ (PySem.mem_of_lookup e1)
        simp at h
      · cases hx
  · cases h1
end
end Ev

set_option Elab.async false
set_option linter.all false
set_option maxRecDepth 100000
set_option maxHeartbeats 4000000
namespace Ev
open PySem PySem.Spec PyProof.Rows L2 C8
namespace K03
abbrev prg : Program := PySem.Challenge.pw_startorwait_k03_the_one_who_knows
def dS (x : Str) : Stmt := defSt prg x
def d_is_int : DI := ⟨"is_int", dS "is_int", ["value", "low", "high"], ["value", "low", "high"], none, 2, false⟩
def d_is_triple : DI := ⟨"is_triple", dS "is_triple", ["value"], ["value"], none, 2, false⟩
def d_is_machine : DI := ⟨"is_machine", dS "is_machine", ["value"], ["value"], none, 2, false⟩
def d_is_row : DI := ⟨"is_row", dS "is_row", ["value"], ["value", "coming"], none, 2, false⟩
def d_need_machine : DI := ⟨"need_machine", dS "need_machine", ["machine"], ["machine"], none, 2, false⟩
def d_need_row : DI := ⟨"need_row", dS "need_row", ["row"], ["row"], none, 2, false⟩
def d_moves : DI := ⟨"moves", dS "moves", ["machine", "stand", "coming"], ["machine", "stand", "coming", "count", "found", "busy", "room", "length", "price", "left"], none, 2, false⟩
def d_cheapest : DI := ⟨"cheapest", dS "cheapest", ["machine", "row"], ["machine", "row", "best", "found", "tick", "coming", "later", "stand", "paid", "ticks", "begins", "there", "more", "way"], none, 2, true⟩
def d_best_cost : DI := ⟨"best_cost", dS "best_cost", ["machine", "row"], ["machine", "row"], none, 2, false⟩
def d_best_starts : DI := ⟨"best_starts", dS "best_starts", ["machine", "row"], ["machine", "row"], none, 2, false⟩
def d__law_bag : DI := ⟨"_law_bag", dS "_law_bag", ["script", "k"], ["script", "k", "cell", "number"], none, 1, false⟩
def d__law_out : DI := ⟨"_law_out", dS "_law_out", ["bag", "many"], ["bag", "many", "found", "wide"], none, 2, false⟩
def d__law_some : DI := ⟨"_law_some", dS "_law_some", ["bag", "things"], ["bag", "things"], none, 2, false⟩
def d__law_machine : DI := ⟨"_law_machine", dS "_law_machine", ["bag", "most"], ["bag", "most", "room"], none, 2, false⟩
def d__law_row : DI := ⟨"_law_row", dS "_law_row", ["bag", "most"], ["bag", "most", "thin", "tick"], none, 2, false⟩
def d__law_knows : DI := ⟨"_law_knows", dS "_law_knows", ["machine", "stand", "coming"], ["machine", "stand", "coming", "rest", "found", "busy", "count", "left"], none, 2, false⟩
def d__law_is_number : DI := ⟨"_law_is_number", dS "_law_is_number", ["thing", "low", "high"], ["thing", "low", "high"], none, 2, false⟩
def d__law_least : DI := ⟨"_law_least", dS "_law_least", ["machine", "row"], ["machine", "row", "best", "coming", "later", "stand", "begins", "there", "more"], none, 2, false⟩
def d__law_spent : DI := ⟨"_law_spent", dS "_law_spent", ["machine", "row", "ticks"], ["machine", "row", "ticks", "tick", "busy", "count", "found"], none, 2, false⟩
def d_law : DI := ⟨"law", dS "law", ["script"], ["script", "k", "bag", "machine", "most", "call_so", "row", "bad", "due", "ticks", "tick"], some "_law_call", 0, false⟩
def ds : List DI := [d_is_int, d_is_triple, d_is_machine, d_is_row, d_need_machine, d_need_row, d_moves, d_cheapest, d_best_cost, d_best_starts, d__law_bag, d__law_out, d__law_some, d__law_machine, d__law_row, d__law_knows, d__law_is_number, d__law_least, d__law_spent, d_law]
def P : Pg := { ds := ds, gv := [("MOST_TICKS", (.int 60)), ("FREE", (.tup [.int 0, .int 0])), ("best_cost", .gl "best_cost"), ("best_starts", .gl "best_starts")], bn := ["isinstance", "len", "int", "bool", "tuple", "list", "abs", "range", "max", "min", "zip", "enumerate", "all", "sorted", "set"], exc := ["InvalidMachine", "InvalidRow"], fuel := 1000000, dep := 40 }
theorem shape : LawSh (dS "_law_call") "call_so" "found" "e" "_law_kinds" "TooMany" "StartError" "told" := ⟨_, _, _, _, _, _, _, _, _, _, _, _, _, _, _, _, _, _, _, _, _, _, _, _, _, _, _, _, rfl⟩
theorem g_is_int (n : Nat) : P.call (n + 1) "is_int" = some (mkFn 3 0 2 m_is_int (P.call n)) := by kernel_rfl
theorem g_is_triple (n : Nat) : P.call (n + 1) "is_triple" = some (mkFn 1 0 2 m_is_triple (P.call n)) := by kernel_rfl
theorem g_is_machine (n : Nat) : P.call (n + 1) "is_machine" = some (mkFn 1 0 2 m_is_machine (P.call n)) := by kernel_rfl
theorem g_is_row (n : Nat) : P.call (n + 1) "is_row" = some (mkFn 1 1 2 m_is_row (P.call n)) := by kernel_rfl
theorem g_need_machine (n : Nat) : P.call (n + 1) "need_machine" = some (mkFn 1 0 2 m_need_machine (P.call n)) := by kernel_rfl
theorem g_need_row (n : Nat) : P.call (n + 1) "need_row" = some (mkFn 1 0 2 m_need_row (P.call n)) := by kernel_rfl
theorem g_moves (n : Nat) : P.call (n + 1) "moves" = some (mkFn 3 7 2 m_moves (P.call n)) := by kernel_rfl
theorem g_cheapest (n : Nat) : P.call (n + 1) "cheapest" = some (mkFn 2 12 2 m_cheapest (P.call n)) := by kernel_rfl
theorem g_best_cost (n : Nat) : P.call (n + 1) "best_cost" = some (mkFn 2 0 2 m_best_cost (P.call n)) := by kernel_rfl
theorem g_best_starts (n : Nat) : P.call (n + 1) "best_starts" = some (mkFn 2 0 2 m_best_starts (P.call n)) := by kernel_rfl
theorem g__law_bag (n : Nat) : P.call (n + 1) "_law_bag" = some (mkFn 2 2 1 m__law_bag (P.call n)) := by kernel_rfl
theorem g__law_out (n : Nat) : P.call (n + 1) "_law_out" = some (mkFn 2 2 2 m__law_out (P.call n)) := by kernel_rfl
theorem g__law_some (n : Nat) : P.call (n + 1) "_law_some" = some (mkFn 2 0 2 m__law_some (P.call n)) := by kernel_rfl
theorem g__law_machine (n : Nat) : P.call (n + 1) "_law_machine" = some (mkFn 2 1 2 m__law_machine (P.call n)) := by kernel_rfl
theorem g__law_row (n : Nat) : P.call (n + 1) "_law_row" = some (mkFn 2 2 2 m__law_row (P.call n)) := by kernel_rfl
theorem g__law_knows (n : Nat) : P.call (n + 1) "_law_knows" = some (mkFn 3 5 2 m__law_knows (P.call n)) := by kernel_rfl
theorem g__law_is_number (n : Nat) : P.call (n + 1) "_law_is_number" = some (mkFn 3 0 2 m__law_is_number (P.call n)) := by kernel_rfl
theorem g__law_least (n : Nat) : P.call (n + 1) "_law_least" = some (mkFn 2 7 2 m__law_least (P.call n)) := by kernel_rfl
theorem g__law_spent (n : Nat) : P.call (n + 1) "_law_spent" = some (mkFn 3 4 2 m__law_spent (P.call n)) := by kernel_rfl
theorem g_law (n : Nat) : P.call (n + 1) "law" = some (mkFn 1 10 0 m_law (P.call n)) := by kernel_rfl
end K03
namespace K03
variable (n : Nat)
theorem t_is_machine : S_is_machine (P.call (n + 2)) := ok_is_machine (g_is_machine _) (ok_is_triple (g_is_triple n)) (ok_is_int (g_is_int n))
theorem t_is_row : S_is_row (P.call (n + 2)) := ok_is_row (g_is_row _) (ok_is_int (g_is_int n))
theorem t_nm : S_need_machine (P.call (n + 3)) := ok_need_machine (g_need_machine _) (t_is_machine n)
theorem t_nw : S_need_row (P.call (n + 3)) := ok_need_row (g_need_row _) (t_is_row n)
theorem t_cheap : S_cheapest (P.call (n + 2)) := ok_cheapest (g_cheapest _) (ok_moves (g_moves n))
theorem t_out : S_out (P.call (n + 1)) := ok_out (g__law_out n)
theorem has : Has (P.call (n + 4)) where
  bag := ok_bag (g__law_bag _)
  mach := ok_machine (g__law_machine _) (t_out (n + 2))
  row := ok_row (g__law_row _) (t_out (n + 2)) (ok_some (g__law_some _) (t_out (n + 1)))
  least := ok_least (g__law_least _) (ok_law_knows (g__law_knows (n + 2)))
  spent := ok_spent (g__law_spent _)
  num := ok_is_num (g__law_is_number _)
  cost := ok_best_cost (t_nm n) (t_nw n) (g_best_cost _) (t_cheap (n + 1))
  starts := ok_best_starts (t_nm n) (t_nw n) (g_best_starts _) (t_cheap (n + 1))
  chk := fun x hx => by
    rcases hx with rfl | rfl
    · exact ⟨fun v u μ h1 h2 => err_machine (g_best_cost _) rfl (t_nm n) rfl h1 h2, fun r l p w μ mo h1 h2 => err_row2 (t_nm n) (t_nw n) (g_best_cost _) rfl mo h1 h2⟩
    · exact ⟨fun v u μ h1 h2 => err_machine (g_best_starts _) rfl (t_nm n) rfl h1 h2, fun r l p w μ mo h1 h2 => err_row2 (t_nm n) (t_nw n) (g_best_starts _) rfl mo h1 h2⟩
theorem law_fn : P.fn (P.call 8) d_law = mkFn 1 10 0 m_law (P.call 8) := by kernel_rfl
theorem math (ns : List Int) (hl : ns.length ≤ 63) (hb : ∀ z ∈ ns, Builtin.Int.intBits z ≤ 1048576) : ∃ μ', P.fn (P.call 8) d_law [.fl (ns.map .int)] [] = .ok (.bl true) μ' := by
  rw [law_fn]
  exact law_true (has 4) hl
end K03
end Ev

open PySem PySem.W PyProof.Rows
set_option Elab.async false
set_option maxRecDepth 100000 in
set_option maxHeartbeats 0 in
theorem PySem.Challenge.cw_startorwait_k03_the_one_who_knows_holds : PySem.Challenge.rw_startorwait_k03_the_one_who_knows.Holds := by
  w_on; o_law; k_head; (case hw => w_witness2)
  k_fill
  refine LamX.walk_ofTs (l := PySem.Challenge.rw_startorwait_k03_the_one_who_knows) (n := 63) (k := 50) (x := "script") (CX := fun w => L2N.CX PySem.Challenge.rw_startorwait_k03_the_one_who_knows.prog w) rfl (by decide) rfl ⟨rfl, by decide, by decide⟩ (fun w h Y => PySem.W.km_in_of Y) ?F ?C
  case C =>
    intro w H s e s' hh
    obtain ⟨_, _, _, _, _, _, _, _, _, _, _, _, z⟩ := hh
    exact z.elim
  case F =>
    intro w mg fa h Y KX G hmg
    have x_is_int : Ev.DefX (PySem.Challenge.cw_startorwait_k03_the_one_who_knows_holds.heap_39 w.params) mg "is_int" (Ev.K03.dS "is_int") ["value", "low", "high"] ["value", "low", "high"] := by
      refine' Ev.defX_mk KX G ?aiszint ?liszint ?ciszint ?kiszint ?Siszint ?biszint
      (case aiszint => k_is); (case liszint => k_is); (case ciszint => k_is); (case kiszint => k_is); (case Siszint => kernel_rfl)
      case biszint =>
        intro us hl
        match us, hl with
        | [_, _, _], _ => rfl
    have x_is_triple : Ev.DefX (PySem.Challenge.cw_startorwait_k03_the_one_who_knows_holds.heap_39 w.params) mg "is_triple" (Ev.K03.dS "is_triple") ["value"] ["value"] := by
      refine' Ev.defX_mk KX G ?aisztriple ?lisztriple ?cisztriple ?kisztriple ?Sisztriple ?bisztriple
      (case aisztriple => k_is); (case lisztriple => k_is); (case cisztriple => k_is); (case kisztriple => k_is); (case Sisztriple => kernel_rfl)
      case bisztriple =>
        intro us hl
        match us, hl with
        | [_], _ => rfl
    have x_is_machine : Ev.DefX (PySem.Challenge.cw_startorwait_k03_the_one_who_knows_holds.heap_39 w.params) mg "is_machine" (Ev.K03.dS "is_machine") ["value"] ["value"] := by
      refine' Ev.defX_mk KX G ?aiszmachine ?liszmachine ?ciszmachine ?kiszmachine ?Siszmachine ?biszmachine
      (case aiszmachine => k_is); (case liszmachine => k_is); (case ciszmachine => k_is); (case kiszmachine => k_is); (case Siszmachine => kernel_rfl)
      case biszmachine =>
        intro us hl
        match us, hl with
        | [_], _ => rfl
    have x_is_row : Ev.DefX (PySem.Challenge.cw_startorwait_k03_the_one_who_knows_holds.heap_39 w.params) mg "is_row" (Ev.K03.dS "is_row") ["value", "coming"] ["value"] := by
      refine' Ev.defX_mk KX G ?aiszrow ?liszrow ?ciszrow ?kiszrow ?Siszrow ?biszrow
      (case aiszrow => k_is); (case liszrow => k_is); (case ciszrow => k_is); (case kiszrow => k_is); (case Siszrow => kernel_rfl)
      case biszrow =>
        intro us hl
        match us, hl with
        | [_], _ => rfl
    have x_need_machine : Ev.DefX (PySem.Challenge.cw_startorwait_k03_the_one_who_knows_holds.heap_39 w.params) mg "need_machine" (Ev.K03.dS "need_machine") ["machine"] ["machine"] := by
      refine' Ev.defX_mk KX G ?aneedzmachine ?lneedzmachine ?cneedzmachine ?kneedzmachine ?Sneedzmachine ?bneedzmachine
      (case aneedzmachine => k_is); (case lneedzmachine => k_is); (case cneedzmachine => k_is); (case kneedzmachine => k_is); (case Sneedzmachine => kernel_rfl)
      case bneedzmachine =>
        intro us hl
        match us, hl with
        | [_], _ => rfl
    have x_need_row : Ev.DefX (PySem.Challenge.cw_startorwait_k03_the_one_who_knows_holds.heap_39 w.params) mg "need_row" (Ev.K03.dS "need_row") ["row"] ["row"] := by
      refine' Ev.defX_mk KX G ?aneedzrow ?lneedzrow ?cneedzrow ?kneedzrow ?Sneedzrow ?bneedzrow
      (case aneedzrow => k_is); (case lneedzrow => k_is); (case cneedzrow => k_is); (case kneedzrow => k_is); (case Sneedzrow => kernel_rfl)
      case bneedzrow =>
        intro us hl
        match us, hl with
        | [_], _ => rfl
    have x_moves : Ev.DefX (PySem.Challenge.cw_startorwait_k03_the_one_who_knows_holds.heap_39 w.params) mg "moves" (Ev.K03.dS "moves") ["machine", "stand", "coming", "count", "found", "busy", "room", "length", "price", "left"] ["machine", "stand", "coming"] := by
      refine' Ev.defX_mk KX G ?amoves ?lmoves ?cmoves ?kmoves ?Smoves ?bmoves
      (case amoves => k_is); (case lmoves => k_is); (case cmoves => k_is); (case kmoves => k_is); (case Smoves => kernel_rfl)
      case bmoves =>
        intro us hl
        match us, hl with
        | [_, _, _], _ => rfl
    have x_cheapest : Ev.DefX (PySem.Challenge.cw_startorwait_k03_the_one_who_knows_holds.heap_39 w.params) mg "cheapest" (Ev.K03.dS "cheapest") ["machine", "row", "best", "found", "tick", "coming", "later", "stand", "paid", "ticks", "begins", "there", "more", "way"] ["machine", "row"] := by
      refine' Ev.defX_mk KX G ?acheapest ?lcheapest ?ccheapest ?kcheapest ?Scheapest ?bcheapest
      (case acheapest => k_is); (case lcheapest => k_is); (case ccheapest => k_is); (case kcheapest => k_is); (case Scheapest => kernel_rfl)
      case bcheapest =>
        intro us hl
        match us, hl with
        | [_, _], _ => rfl
    have x_best_cost : Ev.DefX (PySem.Challenge.cw_startorwait_k03_the_one_who_knows_holds.heap_39 w.params) mg "best_cost" (Ev.K03.dS "best_cost") ["machine", "row"] ["machine", "row"] := by
      refine' Ev.defX_mk KX G ?abestzcost ?lbestzcost ?cbestzcost ?kbestzcost ?Sbestzcost ?bbestzcost
      (case abestzcost => k_is); (case lbestzcost => k_is); (case cbestzcost => k_is); (case kbestzcost => k_is); (case Sbestzcost => kernel_rfl)
      case bbestzcost =>
        intro us hl
        match us, hl with
        | [_, _], _ => rfl
    have x_best_starts : Ev.DefX (PySem.Challenge.cw_startorwait_k03_the_one_who_knows_holds.heap_39 w.params) mg "best_starts" (Ev.K03.dS "best_starts") ["machine", "row"] ["machine", "row"] := by
      refine' Ev.defX_mk KX G ?abestzstarts ?lbestzstarts ?cbestzstarts ?kbestzstarts ?Sbestzstarts ?bbestzstarts
      (case abestzstarts => k_is); (case lbestzstarts => k_is); (case cbestzstarts => k_is); (case kbestzstarts => k_is); (case Sbestzstarts => kernel_rfl)
      case bbestzstarts =>
        intro us hl
        match us, hl with
        | [_, _], _ => rfl
    have x__law_bag : Ev.DefX (PySem.Challenge.cw_startorwait_k03_the_one_who_knows_holds.heap_39 w.params) mg "_law_bag" (Ev.K03.dS "_law_bag") ["script", "k", "cell", "number"] ["script", "k"] := by
      refine' Ev.defX_mk KX G ?azlawzbag ?lzlawzbag ?czlawzbag ?kzlawzbag ?Szlawzbag ?bzlawzbag
      (case azlawzbag => k_is); (case lzlawzbag => k_is); (case czlawzbag => k_is); (case kzlawzbag => k_is); (case Szlawzbag => kernel_rfl)
      case bzlawzbag =>
        intro us hl
        match us, hl with
        | [_, _], _ => rfl
    have x__law_out : Ev.DefX (PySem.Challenge.cw_startorwait_k03_the_one_who_knows_holds.heap_39 w.params) mg "_law_out" (Ev.K03.dS "_law_out") ["bag", "many", "found", "wide"] ["bag", "many"] := by
      refine' Ev.defX_mk KX G ?azlawzout ?lzlawzout ?czlawzout ?kzlawzout ?Szlawzout ?bzlawzout
      (case azlawzout => k_is); (case lzlawzout => k_is); (case czlawzout => k_is); (case kzlawzout => k_is); (case Szlawzout => kernel_rfl)
      case bzlawzout =>
        intro us hl
        match us, hl with
        | [_, _], _ => rfl
    have x__law_some : Ev.DefX (PySem.Challenge.cw_startorwait_k03_the_one_who_knows_holds.heap_39 w.params) mg "_law_some" (Ev.K03.dS "_law_some") ["bag", "things"] ["bag", "things"] := by
      refine' Ev.defX_mk KX G ?azlawzsome ?lzlawzsome ?czlawzsome ?kzlawzsome ?Szlawzsome ?bzlawzsome
      (case azlawzsome => k_is); (case lzlawzsome => k_is); (case czlawzsome => k_is); (case kzlawzsome => k_is); (case Szlawzsome => kernel_rfl)
      case bzlawzsome =>
        intro us hl
        match us, hl with
        | [_, _], _ => rfl
    have x__law_machine : Ev.DefX (PySem.Challenge.cw_startorwait_k03_the_one_who_knows_holds.heap_39 w.params) mg "_law_machine" (Ev.K03.dS "_law_machine") ["bag", "most", "room"] ["bag", "most"] := by
      refine' Ev.defX_mk KX G ?azlawzmachine ?lzlawzmachine ?czlawzmachine ?kzlawzmachine ?Szlawzmachine ?bzlawzmachine
      (case azlawzmachine => k_is); (case lzlawzmachine => k_is); (case czlawzmachine => k_is); (case kzlawzmachine => k_is); (case Szlawzmachine => kernel_rfl)
      case bzlawzmachine =>
        intro us hl
        match us, hl with
        | [_, _], _ => rfl
    have x__law_row : Ev.DefX (PySem.Challenge.cw_startorwait_k03_the_one_who_knows_holds.heap_39 w.params) mg "_law_row" (Ev.K03.dS "_law_row") ["bag", "most", "thin", "tick"] ["bag", "most"] := by
      refine' Ev.defX_mk KX G ?azlawzrow ?lzlawzrow ?czlawzrow ?kzlawzrow ?Szlawzrow ?bzlawzrow
      (case azlawzrow => k_is); (case lzlawzrow => k_is); (case czlawzrow => k_is); (case kzlawzrow => k_is); (case Szlawzrow => kernel_rfl)
      case bzlawzrow =>
        intro us hl
        match us, hl with
        | [_, _], _ => rfl
    have x__law_knows : Ev.DefX (PySem.Challenge.cw_startorwait_k03_the_one_who_knows_holds.heap_39 w.params) mg "_law_knows" (Ev.K03.dS "_law_knows") ["machine", "stand", "coming", "rest", "found", "busy", "count", "left"] ["machine", "stand", "coming"] := by
      refine' Ev.defX_mk KX G ?azlawzknows ?lzlawzknows ?czlawzknows ?kzlawzknows ?Szlawzknows ?bzlawzknows
      (case azlawzknows => k_is); (case lzlawzknows => k_is); (case czlawzknows => k_is); (case kzlawzknows => k_is); (case Szlawzknows => kernel_rfl)
      case bzlawzknows =>
        intro us hl
        match us, hl with
        | [_, _, _], _ => rfl
    have x__law_is_number : Ev.DefX (PySem.Challenge.cw_startorwait_k03_the_one_who_knows_holds.heap_39 w.params) mg "_law_is_number" (Ev.K03.dS "_law_is_number") ["thing", "low", "high"] ["thing", "low", "high"] := by
      refine' Ev.defX_mk KX G ?azlawzisznumber ?lzlawzisznumber ?czlawzisznumber ?kzlawzisznumber ?Szlawzisznumber ?bzlawzisznumber
      (case azlawzisznumber => k_is); (case lzlawzisznumber => k_is); (case czlawzisznumber => k_is); (case kzlawzisznumber => k_is); (case Szlawzisznumber => kernel_rfl)
      case bzlawzisznumber =>
        intro us hl
        match us, hl with
        | [_, _, _], _ => rfl
    have x__law_kinds : Ev.DefX (PySem.Challenge.cw_startorwait_k03_the_one_who_knows_holds.heap_39 w.params) mg "_law_kinds" (Ev.K03.dS "_law_kinds") ["e", "some", "words", "word", "good"] ["e"] := by
      refine' Ev.defX_mk KX G ?azlawzkinds ?lzlawzkinds ?czlawzkinds ?kzlawzkinds ?Szlawzkinds ?bzlawzkinds
      (case azlawzkinds => k_is); (case lzlawzkinds => k_is); (case czlawzkinds => k_is); (case kzlawzkinds => k_is); (case Szlawzkinds => kernel_rfl)
      case bzlawzkinds =>
        intro us hl
        match us, hl with
        | [_], _ => rfl
    have x__law_call : Ev.DefX (PySem.Challenge.cw_startorwait_k03_the_one_who_knows_holds.heap_39 w.params) mg "_law_call" (Ev.K03.dS "_law_call") ["call_so", "found", "e"] ["call_so"] := by
      refine' Ev.defX_mk KX G ?azlawzcall ?lzlawzcall ?czlawzcall ?kzlawzcall ?Szlawzcall ?bzlawzcall
      (case azlawzcall => k_is); (case lzlawzcall => k_is); (case czlawzcall => k_is); (case kzlawzcall => k_is); (case Szlawzcall => kernel_rfl)
      case bzlawzcall =>
        intro us hl
        match us, hl with
        | [_], _ => rfl
    have x__law_least : Ev.DefX (PySem.Challenge.cw_startorwait_k03_the_one_who_knows_holds.heap_39 w.params) mg "_law_least" (Ev.K03.dS "_law_least") ["machine", "row", "best", "coming", "later", "stand", "begins", "there", "more"] ["machine", "row"] := by
      refine' Ev.defX_mk KX G ?azlawzleast ?lzlawzleast ?czlawzleast ?kzlawzleast ?Szlawzleast ?bzlawzleast
      (case azlawzleast => k_is); (case lzlawzleast => k_is); (case czlawzleast => k_is); (case kzlawzleast => k_is); (case Szlawzleast => kernel_rfl)
      case bzlawzleast =>
        intro us hl
        match us, hl with
        | [_, _], _ => rfl
    have x__law_spent : Ev.DefX (PySem.Challenge.cw_startorwait_k03_the_one_who_knows_holds.heap_39 w.params) mg "_law_spent" (Ev.K03.dS "_law_spent") ["machine", "row", "ticks", "tick", "busy", "count", "found"] ["machine", "row", "ticks"] := by
      refine' Ev.defX_mk KX G ?azlawzspent ?lzlawzspent ?czlawzspent ?kzlawzspent ?Szlawzspent ?bzlawzspent
      (case azlawzspent => k_is); (case lzlawzspent => k_is); (case czlawzspent => k_is); (case kzlawzspent => k_is); (case Szlawzspent => kernel_rfl)
      case bzlawzspent =>
        intro us hl
        match us, hl with
        | [_, _, _], _ => rfl
    have x_law : Ev.DefX (PySem.Challenge.cw_startorwait_k03_the_one_who_knows_holds.heap_39 w.params) mg "law" (Ev.K03.dS "law") ["script", "k", "bag", "machine", "most", "call_so", "row", "bad", "due", "ticks", "tick"] ["script"] := by
      refine' Ev.defX_mk KX G ?alaw ?llaw ?claw ?klaw ?Slaw ?blaw
      (case alaw => k_is); (case llaw => k_is); (case claw => k_is); (case klaw => k_is); (case Slaw => kernel_rfl)
      case blaw =>
        intro us hl
        match us, hl with
        | [_], _ => rfl
    have c2 : Ev.K03.P.gv.all (Ev.gvB (PySem.Challenge.cw_startorwait_k03_the_one_who_knows_holds.heap_39 w.params)) = true := by kernel_rfl
    have c3 : Ev.K03.P.bn.all (Ev.bnB (PySem.Challenge.cw_startorwait_k03_the_one_who_knows_holds.heap_39 w.params)) = true := by kernel_rfl
    have c4 : Ev.K03.P.exc.all (Ev.excB (PySem.Challenge.cw_startorwait_k03_the_one_who_knows_holds.heap_39 w.params)) = true := by kernel_rfl
    have c1 : Ev.lawCls.all (Ev.clsB (PySem.Challenge.cw_startorwait_k03_the_one_who_knows_holds.heap_39 w.params)) = true := by kernel_rfl
    have c5 : Ev.lawCls.all (Ev.kindsB (Ev.K03.dS "_law_kinds") ["e", "some", "words", "word", "good"]) = true := by kernel_rfl
    have cm : (Ev.mTab.all fun p => Ev.bnB (PySem.Challenge.cw_startorwait_k03_the_one_who_knows_holds.heap_39 w.params) p.1) = true := by kernel_rfl
    have hmn := Ev.mn_ok KX G cm
    have hdefs : ∀ d ∈ Ev.K03.P.ds, Ev.DefM (PySem.Challenge.cw_startorwait_k03_the_one_who_knows_holds.heap_39 w.params) mg d.x d.st d.N d.ps := List.forall_mem_cons.mpr ⟨(.of x_is_int rfl), List.forall_mem_cons.mpr ⟨(.of x_is_triple rfl), List.forall_mem_cons.mpr ⟨(.of x_is_machine rfl), List.forall_mem_cons.mpr ⟨(.of x_is_row rfl), List.forall_mem_cons.mpr ⟨(.of x_need_machine rfl), List.forall_mem_cons.mpr ⟨(.of x_need_row rfl), List.forall_mem_cons.mpr ⟨(.of x_moves rfl), List.forall_mem_cons.mpr ⟨(.of x_cheapest rfl), List.forall_mem_cons.mpr ⟨(.of x_best_cost rfl), List.forall_mem_cons.mpr ⟨(.of x_best_starts rfl), List.forall_mem_cons.mpr ⟨(.of x__law_bag rfl), List.forall_mem_cons.mpr ⟨(.of x__law_out rfl), List.forall_mem_cons.mpr ⟨(.of x__law_some rfl), List.forall_mem_cons.mpr ⟨(.of x__law_machine rfl), List.forall_mem_cons.mpr ⟨(.of x__law_row rfl), List.forall_mem_cons.mpr ⟨(.of x__law_knows rfl), List.forall_mem_cons.mpr ⟨(.of x__law_is_number rfl), List.forall_mem_cons.mpr ⟨(.of x__law_least rfl), List.forall_mem_cons.mpr ⟨(.of x__law_spent rfl), List.forall_mem_cons.mpr ⟨(.of x_law rfl), List.forall_mem_nil _⟩⟩⟩⟩⟩⟩⟩⟩⟩⟩⟩⟩⟩⟩⟩⟩⟩⟩⟩⟩
    have hlawF := Ev.lawF_mk KX G x__law_call x__law_kinds Ev.K03.shape (by kernel_rfl) (by kernel_rfl) (by kernel_rfl) c1 c5 (by kernel_rfl) (by kernel_rfl)
    let T : Ev.TX := ⟨[(282, (envOfC "law" (C8.fnScope (Ev.K03.dS "law")) 0 0 .none).qual ++ "<lambda>"), (192, (envOfC "cheapest" (C8.fnScope (Ev.K03.dS "cheapest")) 0 0 .none).qual ++ "<lambda>")], fun _ => none, w⟩
    let cs : List (Addr × Addr) := [(284, 282), (194, 192)]
    have l_law : Ev.DefL (PySem.Challenge.cw_startorwait_k03_the_one_who_knows_holds.heap_39 w.params) mg cs T Ev.K03.d_law := by
      refine' Ev.defL_mk (c := 284) (P := 282) KX G ?aLlaw ?lLlaw (List.mem_of_elem_eq_true rfl) (List.mem_of_elem_eq_true (by kernel_rfl)) ?uLlaw
      (case aLlaw => k_is); (case lLlaw => k_is)
      case uLlaw => exact fun p hp => (by decide +kernel : ∀ p ∈ ([(282, (envOfC "law" (C8.fnScope (Ev.K03.dS "law")) 0 0 .none).qual ++ "<lambda>"), (192, (envOfC "cheapest" (C8.fnScope (Ev.K03.dS "cheapest")) 0 0 .none).qual ++ "<lambda>")] : List (Addr × Str)), p.1 = 282 → p.2 = (envOfC Ev.K03.d_law.x (C8.fnScope Ev.K03.d_law.st) 0 0 Value.none).qual ++ "<lambda>") p hp
    have l_cheapest : Ev.DefL (PySem.Challenge.cw_startorwait_k03_the_one_who_knows_holds.heap_39 w.params) mg cs T Ev.K03.d_cheapest := by
      refine' Ev.defL_mk (c := 194) (P := 192) KX G ?aLcheapest ?lLcheapest (List.mem_of_elem_eq_true rfl) (List.mem_of_elem_eq_true (by kernel_rfl)) ?uLcheapest
      (case aLcheapest => k_is); (case lLcheapest => k_is)
      case uLcheapest => exact fun p hp => (by decide +kernel : ∀ p ∈ ([(282, (envOfC "law" (C8.fnScope (Ev.K03.dS "law")) 0 0 .none).qual ++ "<lambda>"), (192, (envOfC "cheapest" (C8.fnScope (Ev.K03.dS "cheapest")) 0 0 .none).qual ++ "<lambda>")] : List (Addr × Str)), p.1 = 192 → p.2 = (envOfC Ev.K03.d_cheapest.x (C8.fnScope Ev.K03.d_cheapest.st) 0 0 Value.none).qual ++ "<lambda>") p hp
    have hkey : ∀ d ∈ Ev.K03.P.ds, d.lk = true → Ev.DefL (PySem.Challenge.cw_startorwait_k03_the_one_who_knows_holds.heap_39 w.params) mg cs T d :=
      List.forall_mem_cons.mpr ⟨(fun h => by cases h), List.forall_mem_cons.mpr ⟨(fun h => by cases h), List.forall_mem_cons.mpr ⟨(fun h => by cases h), List.forall_mem_cons.mpr ⟨(fun h => by cases h), List.forall_mem_cons.mpr ⟨(fun h => by cases h), List.forall_mem_cons.mpr ⟨(fun h => by cases h), List.forall_mem_cons.mpr ⟨(fun h => by cases h), List.forall_mem_cons.mpr ⟨(fun h => l_cheapest), List.forall_mem_cons.mpr ⟨(fun h => by cases h), List.forall_mem_cons.mpr ⟨(fun h => by cases h), List.forall_mem_cons.mpr ⟨(fun h => by cases h), List.forall_mem_cons.mpr ⟨(fun h => by cases h), List.forall_mem_cons.mpr ⟨(fun h => by cases h), List.forall_mem_cons.mpr ⟨(fun h => by cases h), List.forall_mem_cons.mpr ⟨(fun h => by cases h), List.forall_mem_cons.mpr ⟨(fun h => by cases h), List.forall_mem_cons.mpr ⟨(fun h => by cases h), List.forall_mem_cons.mpr ⟨(fun h => by cases h), List.forall_mem_cons.mpr ⟨(fun h => by cases h), List.forall_mem_cons.mpr ⟨(fun h => by cases h), List.forall_mem_nil _⟩⟩⟩⟩⟩⟩⟩⟩⟩⟩⟩⟩⟩⟩⟩⟩⟩⟩⟩⟩
    have hlaw : ∀ d ∈ Ev.K03.P.ds, ∀ x, d.law = some x → (∃ stC stK a fo e kn tm se y NK TM SE, Ev.LawF (PySem.Challenge.cw_startorwait_k03_the_one_who_knows_holds.heap_39 w.params) mg x stC stK a fo e kn tm se y NK TM SE "told") ∧ (x == ("__debug__" : Str)) = false ∧ Ev.DefL (PySem.Challenge.cw_startorwait_k03_the_one_who_knows_holds.heap_39 w.params) mg cs T d :=
      List.forall_mem_cons.mpr ⟨(fun x h => by (have h : (none : Option Str) = some x := h); cases h), List.forall_mem_cons.mpr ⟨(fun x h => by (have h : (none : Option Str) = some x := h); cases h), List.forall_mem_cons.mpr ⟨(fun x h => by (have h : (none : Option Str) = some x := h); cases h), List.forall_mem_cons.mpr ⟨(fun x h => by (have h : (none : Option Str) = some x := h); cases h), List.forall_mem_cons.mpr ⟨(fun x h => by (have h : (none : Option Str) = some x := h); cases h), List.forall_mem_cons.mpr ⟨(fun x h => by (have h : (none : Option Str) = some x := h); cases h), List.forall_mem_cons.mpr ⟨(fun x h => by (have h : (none : Option Str) = some x := h); cases h), List.forall_mem_cons.mpr ⟨(fun x h => by (have h : (none : Option Str) = some x := h); cases h), List.forall_mem_cons.mpr ⟨(fun x h => by (have h : (none : Option Str) = some x := h); cases h), List.forall_mem_cons.mpr ⟨(fun x h => by (have h : (none : Option Str) = some x := h); cases h), List.forall_mem_cons.mpr ⟨(fun x h => by (have h : (none : Option Str) = some x := h); cases h), List.forall_mem_cons.mpr ⟨(fun x h => by (have h : (none : Option Str) = some x := h); cases h), List.forall_mem_cons.mpr ⟨(fun x h => by (have h : (none : Option Str) = some x := h); cases h), List.forall_mem_cons.mpr ⟨(fun x h => by (have h : (none : Option Str) = some x := h); cases h), List.forall_mem_cons.mpr ⟨(fun x h => by (have h : (none : Option Str) = some x := h); cases h), List.forall_mem_cons.mpr ⟨(fun x h => by (have h : (none : Option Str) = some x := h); cases h), List.forall_mem_cons.mpr ⟨(fun x h => by (have h : (none : Option Str) = some x := h); cases h), List.forall_mem_cons.mpr ⟨(fun x h => by (have h : (none : Option Str) = some x := h); cases h), List.forall_mem_cons.mpr ⟨(fun x h => by (have h : (none : Option Str) = some x := h); cases h), List.forall_mem_cons.mpr ⟨(fun x h => by (have h : some ("_law_call" : Str) = some x := h); cases h; exact ⟨hlawF, by decide, l_law⟩), List.forall_mem_nil _⟩⟩⟩⟩⟩⟩⟩⟩⟩⟩⟩⟩⟩⟩⟩⟩⟩⟩⟩⟩
    refine Ev.lawAt_of (P := Ev.K03.P) (cs := cs) (T := T) (n := 9) (c := Ev.K03.P.fn (Ev.K03.P.call 8) Ev.K03.d_law) rfl ⟨hdefs, hmn, Ev.gv_ok KX G c2, fun x hx => Ev.bn_ok1 KX G (List.all_eq_true.mp c3 x hx), fun x hx => Ev.exc_ok1 KX G (List.all_eq_true.mp c4 x hx), hlaw, hkey⟩ ?_ ?_ ?_ ?_ hmg (by kernel_rfl) (by decide) (fun st hst => ?_) Ev.K03.math
    · exact List.forall_mem_cons.mpr ⟨(PySem.W.km_tabs_of Y _ (List.mem_of_elem_eq_true rfl)), List.forall_mem_cons.mpr ⟨(PySem.W.km_tabs_of Y _ (List.mem_of_elem_eq_true rfl)), List.forall_mem_nil _⟩⟩
    · exact List.forall_mem_cons.mpr ⟨(by kernel_rfl), List.forall_mem_cons.mpr ⟨(by kernel_rfl), List.forall_mem_nil _⟩⟩
    · exact List.forall_mem_cons.mpr ⟨(PySem.W.codeHd_of_K KX (by kernel_rfl)), List.forall_mem_cons.mpr ⟨(PySem.W.codeHd_of_K KX (by kernel_rfl)), List.forall_mem_nil _⟩⟩
    · exact List.forall_mem_cons.mpr ⟨⟨_, List.mem_of_elem_eq_true (show List.elem (284, 282) cs = true from rfl), rfl⟩, List.forall_mem_cons.mpr ⟨⟨_, List.mem_of_elem_eq_true (show List.elem (194, 192) cs = true from rfl), rfl⟩, List.forall_mem_nil _⟩⟩
    · have e : some (["script"] : List Str) = some st := (show some (["script"] : List Str) = (Ev.K03.P.ds.find? fun d => d.x == ("law" : Str)).map (·.ps) from by kernel_rfl).trans hst
      cases e
      rfl

