import PyProof.Rows.All
import HandS.ForMost
import HandS.Walk
import HandS.Exc
import HandS.ExcOwn
import HandS.WordsExc
import HandS.TryOnly
import HandS.Lambda
import HandS.TupAny
import HandS.RaiseMore
import HandS.Text
import HandS.Style
import HandS.Iter
import HandS.Set
import HandS.SetFor
import HandS.TupSets
import HandS.SortOrd
import HandS.Sort
import PyProof.Rows.SortShellAny
import HandS.IsInst
import HandS.MapJoin
import PyProof.ReprRoads
import KE.KExcSuper
import HandS.ExcInit
import HandS.ExcField
import HandS.EndTab
import HandS.ForDict
import HandS.MakeKw
import HandS.OwnEq
import KE.KCallOwn
import HandS.Codes
import HandS.ClsMeth
import PyProof.InstNe
import HandS.NamedTupSort
import HandS.FStr
import HandS.ExcIs
import KE.KExcIs
import HandS.Star
import PyProof.StrOps2
import HandS.ListItems
import PySem.Challenge.RW_duskwishes_k82_texts_of_ledgers
import KE.IntTextText
import KE.KIntText
set_option Elab.async false
set_option linter.all false
set_option maxRecDepth 100000
set_option maxHeartbeats 4000000
/-! The value layer, 1: data by value, cells, what stands for what, what a step leaves. -/
namespace VL
open PySem PySem.Spec PyProof.Rows L2 LamX

/-- a text, by its signs -/
abbrev T := List Nat
def T.s (t : T) : Str := ⟨t.toArray⟩
theorem T.inj {a b : T} (h : T.s a = T.s b) : a = b := by
  have e : a.toArray = b.toArray := congrArg Str.cps h
  simpa using e
theorem T.len (t : T) : (T.s t).length = t.length := by simp [T.s, Str.length]
theorem T.of (x : Str) : T.s x.cps.toList = x := by simp [T.s]
/-- a dict's key -/
abbrev Ky := Sum Int T
def Ky.k : Ky → Key
  | .inl i => .inl i
  | .inr t => .inr t.s
theorem Ky.inj : ∀ {a b : Ky}, Ky.k a = Ky.k b → a = b
  | .inl _, .inl _, h => by cases h; rfl
  | .inl _, .inr _, h => by cases h
  | .inr _, .inl _, h => by cases h
  | .inr a, .inr b, h => by
    have h' : T.s a = T.s b := Sum.inr.inj h
    rw [T.inj h']
/-- data by value -/
inductive D where
  | non | bl (b : Bool) | int (i : Int) | str (s : T)
  | tup (xs : List D) | lst (xs : List D) | fl (xs : List D)
  | dct (kvs : List (Ky × D)) | dcu (kvs : List (List Ky × D))
  | ins (c : Nat) (fs : List (T × D))
  | cls (c : Nat) | exn (c : Nat) (fs : List (T × D))
/-- a changing thing -/
inductive Cell where
  | dead | lst (xs : List D) | dct (kvs : List (Ky × D)) | ins (c : Nat) (fs : List (T × D))
/-- what a name or an expression holds -/
inductive U where
  | d (x : D) | loc (n : Nat)
abbrev Env := List (Option U)
abbrev Store := List Cell
/-- how an expression ends -/
inductive R (α : Type) where
  | ok (a : α) (τ : Store)
  | exc (c : Nat) (fs : List (T × D)) (τ : Store)
  | bad
abbrev EV := Env → Store → R U
abbrev EB := Env → Store → R Bool
abbrev EL := Env → Store → R (List U)
def R.bind {α β : Type} : R α → (α → Store → R β) → R β
  | .ok a τ, k => k a τ
  | .exc c fs τ, _ => .exc c fs τ
  | .bad, _ => .bad
@[simp] theorem R.bind_ok {α β : Type} (a : α) (τ : Store) (k : α → Store → R β) : (R.ok a τ).bind k = k a τ := rfl
@[simp] theorem R.bind_exc {α β : Type} (c : Nat) (fs : List (T × D)) (τ : Store) (k : α → Store → R β) : (R.exc c fs τ).bind k = .exc c fs τ := rfl
@[simp] theorem R.bind_bad {α β : Type} (k : α → Store → R β) : (R.bad : R α).bind k = .bad := rfl

/-- what the ground knows: the written part, the classes by number, the tables of code objects -/
structure Gd where
  K : PySem.W.Frag
  ca : Nat → Addr
  T : List (Addr × Str)

/-- an error, kept: its class, its dict -/
def exnO (C a dd : Addr) : HO := .ext fun h => ∃ (oe : Obj) (vs : Array Value), h.get? a = some oe ∧ oe.cls = .ref C ∧ oe.dict = some dd ∧ oe.data = .fields vs
mutual
inductive Rep (G : Gd) (S : Hp) : D → V → Prop
  | non : Rep G S .non .non
  | bl (b : Bool) : Rep G S (.bl b) (.bl b)
  | int (i : Int) : Rep G S (.int i) (.int i)
  | str (s : T) : Rep G S (.str s) (.str s.s)
  | tup {a : Addr} {vs : List V} {ds : List D} : SqT G.K S a vs → Reps G S ds vs → Rep G S (.tup ds) (.ref a)
  | lst {a : Addr} {vs : List V} {ds : List D} : S a = some (.lst vs) → Reps G S ds vs → Rep G S (.lst ds) (.ref a)
  | fl {a : Addr} {vs : List V} {ds : List D} : SqL G.K S a vs → Reps G S ds vs → Rep G S (.fl ds) (.ref a)
  | dct {a : Addr} {o : Obj} {ps : List (Key × V)} {kvs : List (Ky × D)} : S a = some (.frz o (.dK ps)) → RepK G S kvs ps → Rep G S (.dct kvs) (.ref a)
  | dcu {a : Addr} {ps : List (List Key × V)} {kvs : List (List Ky × D)} : Rd S a (.dT ps) → RepT G S kvs ps → Rep G S (.dcu kvs) (.ref a)
  | ins {a dx : Addr} {c : Nat} {ps : List (Str × V)} {fs : List (T × D)} : S a = some (.ins (G.ca c) dx ps) → RepF G S fs ps → Rep G S (.ins c fs) (.ref a)
  | cls (c : Nat) : Rep G S (.cls c) (.ref (G.ca c))
  | exn {a dd : Addr} {c : Nat} {ps : List (Str × V)} {fs : List (T × D)} : S a = some (exnO (G.ca c) a dd) → S dd = some (.xd ps) → RepF G S fs ps → Rep G S (.exn c fs) (.ref a)
inductive Reps (G : Gd) (S : Hp) : List D → List V → Prop
  | nil : Reps G S [] []
  | cons {d : D} {v : V} {ds : List D} {vs : List V} : Rep G S d v → Reps G S ds vs → Reps G S (d :: ds) (v :: vs)
inductive RepK (G : Gd) (S : Hp) : List (Ky × D) → List (Key × V) → Prop
  | nil : RepK G S [] []
  | cons {k : Ky} {d : D} {v : V} {ds : List (Ky × D)} {vs : List (Key × V)} : Rep G S d v → RepK G S ds vs → RepK G S ((k, d) :: ds) ((k.k, v) :: vs)
inductive RepT (G : Gd) (S : Hp) : List (List Ky × D) → List (List Key × V) → Prop
  | nil : RepT G S [] []
  | cons {k : List Ky} {d : D} {v : V} {ds : List (List Ky × D)} {vs : List (List Key × V)} : Rep G S d v → RepT G S ds vs → RepT G S ((k, d) :: ds) ((k.map Ky.k, v) :: vs)
inductive RepF (G : Gd) (S : Hp) : List (T × D) → List (Str × V) → Prop
  | nil : RepF G S [] []
  | cons {k : T} {d : D} {v : V} {ds : List (T × D)} {vs : List (Str × V)} : Rep G S d v → RepF G S ds vs → RepF G S ((k, d) :: ds) ((k.s, v) :: vs)
end

section
variable {G : Gd} {S S' : Hp}
theorem rd_mono (e : Same S S') {a : Addr} {u : HO} (h : Rd S a u) : Rd S' a u := by
  rcases h with h | ⟨o, h⟩
  · exact .inl (e _ _ h)
  · exact .inr ⟨o, e _ _ h⟩
theorem sqT_mono (e : Same S S') {a : Addr} {xs : List V} (h : SqT G.K S a xs) : SqT G.K S' a xs := by
  rcases h with h | h
  · exact .inl (rd_mono e h)
  · exact .inr h
theorem sqL_mono (e : Same S S') {a : Addr} {xs : List V} (h : SqL G.K S a xs) : SqL G.K S' a xs := by
  rcases h with h | h
  · exact .inl (rd_mono e h)
  · exact .inr h
mutual
theorem Rep.mono (e : Same S S') : ∀ (d : D) (v : V), Rep G S d v → Rep G S' d v
  | .non, _, h => by cases h; exact .non
  | .bl b, _, h => by cases h; exact .bl b
  | .int i, _, h => by cases h; exact .int i
  | .str s, _, h => by cases h; exact .str s
  | .tup ds, _, h => by
    cases h with
    | tup h1 h2 => exact .tup (sqT_mono e h1) (Reps.mono e ds _ h2)
  | .lst ds, _, h => by
    cases h with
    | lst h1 h2 => exact .lst (e _ _ h1) (Reps.mono e ds _ h2)
  | .fl ds, _, h => by
    cases h with
    | fl h1 h2 => exact .fl (sqL_mono e h1) (Reps.mono e ds _ h2)
  | .dct ds, _, h => by
    cases h with
    | dct h1 h2 => exact .dct (e _ _ h1) (RepK.mono e ds _ h2)
  | .dcu ds, _, h => by
    cases h with
    | dcu h1 h2 => exact .dcu (rd_mono e h1) (RepT.mono e ds _ h2)
  | .ins c ds, _, h => by
    cases h with
    | ins h1 h2 => exact .ins (e _ _ h1) (RepF.mono e ds _ h2)
  | .cls c, _, h => by cases h; exact .cls c
  | .exn c ds, _, h => by
    cases h with
    | exn h1 h2 h3 => exact .exn (e _ _ h1) (e _ _ h2) (RepF.mono e ds _ h3)
theorem Reps.mono (e : Same S S') : ∀ (ds : List D) (vs : List V), Reps G S ds vs → Reps G S' ds vs
  | [], _, h => by cases h; exact .nil
  | d :: ds, _, h => by
    cases h with
    | cons h1 h2 => exact .cons (Rep.mono e d _ h1) (Reps.mono e ds _ h2)
theorem RepK.mono (e : Same S S') : ∀ (ds : List (Ky × D)) (vs : List (Key × V)), RepK G S ds vs → RepK G S' ds vs
  | [], _, h => by cases h; exact .nil
  | (k, d) :: ds, _, h => by
    cases h with
    | cons h1 h2 => exact .cons (Rep.mono e d _ h1) (RepK.mono e ds _ h2)
theorem RepT.mono (e : Same S S') : ∀ (ds : List (List Ky × D)) (vs : List (List Key × V)), RepT G S ds vs → RepT G S' ds vs
  | [], _, h => by cases h; exact .nil
  | (k, d) :: ds, _, h => by
    cases h with
    | cons h1 h2 => exact .cons (Rep.mono e d _ h1) (RepT.mono e ds _ h2)
theorem RepF.mono (e : Same S S') : ∀ (ds : List (T × D)) (vs : List (Str × V)), RepF G S ds vs → RepF G S' ds vs
  | [], _, h => by cases h; exact .nil
  | (k, d) :: ds, _, h => by
    cases h with
    | cons h1 h2 => exact .cons (Rep.mono e d _ h1) (RepF.mono e ds _ h2)
end
theorem Reps.length : ∀ {ds : List D} {vs : List V}, Reps G S ds vs → ds.length = vs.length
  | [], _, h => by cases h; rfl
  | d :: ds, _, h => by
    cases h with
    | cons _ h2 => simp [Reps.length h2]
theorem Reps.append : ∀ {ds es : List D} {vs ws : List V}, Reps G S ds vs → Reps G S es ws → Reps G S (ds ++ es) (vs ++ ws)
  | [], _, _, _, h, k => by cases h; exact k
  | d :: ds, _, _, _, h, k => by
    cases h with
    | cons h1 h2 => exact .cons h1 (Reps.append h2 k)
theorem Reps.get : ∀ {ds : List D} {vs : List V} {i : Nat} {d : D}, Reps G S ds vs → ds[i]? = some d → ∃ v, vs[i]? = some v ∧ Rep G S d v
  | [], _, _, _, _, e => by simp at e
  | x :: ds, _, 0, d, h, e => by
    cases h with
    | cons h1 h2 =>
      have e' : x = d := by simpa using e
      subst e'
      exact ⟨_, rfl, h1⟩
  | x :: ds, _, i + 1, d, h, e => by
    cases h with
    | cons h1 h2 =>
      obtain ⟨v, q1, q2⟩ := Reps.get (i := i) h2 (by simpa using e)
      exact ⟨v, by simpa using q1, q2⟩
theorem Reps.get' {ds : List D} {vs : List V} {i : Nat} {v : V} (h : Reps G S ds vs) (e : vs[i]? = some v) : ∃ d, ds[i]? = some d ∧ Rep G S d v := by
  have hl := h.length
  have hi := (List.getElem?_eq_some_iff.mp e).1
  obtain ⟨w, q1, q2⟩ := h.get (i := i) (d := ds[i]'(by omega)) (by simp [show i < ds.length by omega])
  rw [e] at q1
  cases q1
  exact ⟨_, by simp [show i < ds.length by omega], q2⟩
theorem Reps.take (n : Nat) : ∀ {ds : List D} {vs : List V}, Reps G S ds vs → Reps G S (ds.take n) (vs.take n) := by
  induction n with
  | zero => intro ds vs h; exact .nil
  | succ n ih =>
    intro ds vs h
    cases h with
    | nil => exact .nil
    | cons h1 h2 => exact .cons h1 (ih h2)
theorem Reps.drop (n : Nat) : ∀ {ds : List D} {vs : List V}, Reps G S ds vs → Reps G S (ds.drop n) (vs.drop n) := by
  induction n with
  | zero => intro ds vs h; exact h
  | succ n ih =>
    intro ds vs h
    cases h with
    | nil => exact .nil
    | cons h1 h2 => exact ih h2
theorem Reps.set {d : D} {v : V} (r : Rep G S d v) : ∀ {ds : List D} {vs : List V} (i : Nat), Reps G S ds vs → Reps G S (ds.set i d) (vs.set i v)
  | [], _, _, h => by cases h; exact .nil
  | _ :: _, _, 0, h => by
    cases h with
    | cons h1 h2 => exact .cons r h2
  | _ :: _, _, i + 1, h => by
    cases h with
    | cons h1 h2 => exact .cons h1 (Reps.set r i h2)
theorem Reps.eraseIdx : ∀ {ds : List D} {vs : List V} (i : Nat), Reps G S ds vs → Reps G S (ds.eraseIdx i) (vs.eraseIdx i)
  | [], _, _, h => by cases h; exact .nil
  | _ :: _, _, 0, h => by
    cases h with
    | cons h1 h2 => exact h2
  | _ :: _, _, i + 1, h => by
    cases h with
    | cons h1 h2 => exact .cons h1 (Reps.eraseIdx i h2)
theorem Reps.reverse : ∀ {ds : List D} {vs : List V}, Reps G S ds vs → Reps G S ds.reverse vs.reverse
  | [], _, h => by cases h; exact .nil
  | d :: ds, _, h => by
    cases h with
    | cons h1 h2 =>
      rw [List.reverse_cons, List.reverse_cons]
      exact (Reps.reverse h2).append (.cons h1 .nil)
theorem reps_ints : ∀ ns : List Int, Reps G S (ns.map D.int) (ns.map V.int)
  | [] => .nil
  | n :: ns => .cons (.int n) (reps_ints ns)
theorem reps_strs : ∀ ns : List T, Reps G S (ns.map D.str) ((ns.map T.s).map V.str)
  | [] => .nil
  | n :: ns => .cons (.str n) (reps_strs ns)
end

/-! ### where one stands: what is shared, the whole heap, the cells' addresses -/
structure Z where
  S : Hp
  H : Hp
  ms : List Addr
def notTbl (o : HO) : Prop := ∀ ps, o ≠ .tbl ps
/-- what a step leaves -/
structure Fut (z z' : Z) : Prop where
  ss : Same z.S z'.S
  pre : z.ms <+: z'.ms
  frame : ∀ a o, z.H a = some o → a ∉ z.ms → notTbl o → z'.H a = some o
  dom : ∀ a o, z.H a = some o → notTbl o → ∃ o', z'.H a = some o' ∧ notTbl o'
  claim : ∀ a o, z.H a = some o → notTbl o → a ∉ z.ms → z'.S a = z.S a
  new : ∀ a, a ∈ z'.ms → a ∈ z.ms ∨ ∀ o, z.H a = some o → ¬ notTbl o
theorem Fut.refl (z : Z) : Fut z z := ⟨Same.refl _, List.prefix_refl _, fun _ _ h _ _ => h, fun a o h n => ⟨o, h, n⟩, fun _ _ _ _ _ => rfl, fun _ h => .inl h⟩
theorem Fut.trans {z z1 z2 : Z} (f : Fut z z1) (g : Fut z1 z2) : Fut z z2 := by
  have out : ∀ a o, z.H a = some o → notTbl o → a ∉ z.ms → a ∉ z1.ms := fun a o h t n m => by
    rcases f.new a m with q | q
    · exact n q
    · exact q o h t
  refine ⟨f.ss.trans g.ss, f.pre.trans g.pre, fun a o h n t => g.frame a o (f.frame a o h n t) (out a o h t n) t, fun a o h t => ?_, fun a o h t n => ?_, fun a h => ?_⟩
  · obtain ⟨o1, h1, t1⟩ := f.dom a o h t
    exact g.dom a o1 h1 t1
  · rw [g.claim a o (f.frame a o h n t) t (out a o h t n), f.claim a o h t n]
  · rcases g.new a h with q | q
    · exact f.new a q
    · refine .inr fun o e t => ?_
      obtain ⟨o', h', t'⟩ := f.dom a o e t
      exact q o' h' t'

def CellR (G : Gd) (S H : Hp) (a : Addr) : Cell → Prop
  | .dead => True
  | .lst ds => S a = none ∧ ∃ vs, H a = some (.lst vs) ∧ Reps G S ds vs
  | .dct kvs => S a = none ∧ ∃ ps, H a = some (.dK ps) ∧ RepK G S kvs ps
  | .ins c fs => S a = none ∧ ∃ dx ps, H a = some (.ins (G.ca c) dx ps) ∧ RepF G S fs ps
/-- what may change -/
def pln : HO → Prop
  | .lst _ => True
  | .dK _ => True
  | .ins _ _ _ => True
  | .frz _ _ => True
  | _ => False
theorem pln.nt {o : HO} (h : pln o) : notTbl o := fun ps e => by subst e; exact h
structure Cells (G : Gd) (z : Z) (τ : Store) : Prop where
  sub : Same z.S z.H
  len : z.ms.length = τ.length
  nd : z.ms.Nodup
  al : ∀ a ∈ z.ms, ∃ o, z.H a = some o ∧ pln o
  at_ : ∀ (i : Nat) a c, z.ms[i]? = some a → τ[i]? = some c → CellR G z.S z.H a c
  tab : Tabs G.T z.H
  nt : ∀ a o, z.S a = some o → notTbl o
inductive RepU (G : Gd) (z : Z) : U → V → Prop
  | d {x : D} {v : V} : Rep G z.S x v → RepU G z (.d x) v
  | loc {n : Nat} {a : Addr} : z.ms[n]? = some a → RepU G z (.loc n) (.ref a)
inductive RepUs (G : Gd) (z : Z) : List U → List V → Prop
  | nil : RepUs G z [] []
  | cons {u : U} {v : V} {us : List U} {vs : List V} : RepU G z u v → RepUs G z us vs → RepUs G z (u :: us) (v :: vs)
structure EnvR (G : Gd) (z : Z) (ρ : Env) (σ : L2.St) : Prop where
  len : σ.length = ρ.length
  at_ : ∀ (i : Nat) u, ρ[i]? = some (some u) → ∃ v, σ[i]? = some (some v) ∧ RepU G z u v
section
variable {G : Gd} {z z' : Z}
theorem pre_get {l m : List Addr} (h : l <+: m) {n : Nat} {a : Addr} (e : l[n]? = some a) : m[n]? = some a := by
  obtain ⟨t, rfl⟩ := h
  have hn := (List.getElem?_eq_some_iff.mp e).1
  rw [List.getElem?_append_left hn]
  exact e
theorem RepU.fut (f : Fut z z') {u : U} {v : V} (h : RepU G z u v) : RepU G z' u v := by
  cases h with
  | d h => exact .d (Rep.mono f.ss _ _ h)
  | loc h => exact .loc (pre_get f.pre h)
theorem RepUs.fut (f : Fut z z') : ∀ {us : List U} {vs : List V}, RepUs G z us vs → RepUs G z' us vs
  | _, _, .nil => .nil
  | _, _, .cons h t => .cons (h.fut f) (RepUs.fut f t)
theorem RepUs.length : ∀ {us : List U} {vs : List V}, RepUs G z us vs → us.length = vs.length
  | _, _, .nil => rfl
  | _, _, .cons _ t => by simp [RepUs.length t]
theorem EnvR.fut {ρ : Env} {σ : L2.St} (f : Fut z z') (h : EnvR G z ρ σ) : EnvR G z' ρ σ :=
  ⟨h.len, fun i u e => let ⟨v, q, r⟩ := h.at_ i u e; ⟨v, q, r.fut f⟩⟩
theorem EnvR.set {ρ : Env} {σ : L2.St} {i : Nat} {u : U} {v : V} (h : EnvR G z ρ σ) (r : RepU G z u v) : EnvR G z (ρ.set i (some u)) (σ.set i (some v)) := by
  refine ⟨by simp [h.len], fun j w e => ?_⟩
  by_cases hj : i = j
  · subst hj
    by_cases hi : i < ρ.length
    · rw [List.getElem?_set_self hi] at e
      cases e
      exact ⟨v, by rw [List.getElem?_set_self (by rw [h.len]; exact hi)], r⟩
    · rw [List.getElem?_eq_none (by simpa using Nat.le_of_not_lt hi)] at e
      cases e
  · rw [List.getElem?_set_ne hj] at e
    obtain ⟨v', q1, q2⟩ := h.at_ j w e
    exact ⟨v', by rw [List.getElem?_set_ne hj]; exact q1, q2⟩
theorem EnvR.unset {ρ : Env} {σ : L2.St} {i : Nat} {x : Option V} (h : EnvR G z ρ σ) : EnvR G z (ρ.set i none) (σ.set i x) := by
  refine ⟨by simp [h.len], fun j w e => ?_⟩
  by_cases hj : i = j
  · subst hj
    by_cases hi : i < ρ.length
    · rw [List.getElem?_set_self hi] at e
      cases e
    · rw [List.getElem?_eq_none (by simpa using Nat.le_of_not_lt hi)] at e
      cases e
  · rw [List.getElem?_set_ne hj] at e
    obtain ⟨v', q1, q2⟩ := h.at_ j w e
    exact ⟨v', by rw [List.getElem?_set_ne hj]; exact q1, q2⟩
end

/-! ### runs -/
/-- what is wanted behind an expression -/
def Run {α β : Type} (G : Gd) (rep : Z → α → β → Prop) (r : R α) (W : XK) (z : Z) (k : β → Hp → Prop) : Prop :=
  match r with
  | .ok a τ => ∀ z' b, Fut z z' → Cells G z' τ → rep z' a b → k b z'.H
  | .exc c fs τ => ∀ z' dd vs, Fut z z' → Cells G z' τ → z'.S dd = some (.xd vs) → RepF G z'.S fs vs → W (.ref (G.ca c)) (some dd) z'.H
  | .bad => False
section
variable {α β α' β' : Type} {G : Gd} {rep : Z → α → β → Prop} {rep' : Z → α' → β' → Prop} {z : Z} {W : XK} {k : β → Hp → Prop} {k' : β' → Hp → Prop}
theorem Run.imp {r : R α} {k2 : β → Hp → Prop} (h : Run G rep r W z k) (hk : ∀ b H, k b H → k2 b H) : Run G rep r W z k2 := by
  cases r with
  | ok a τ => exact fun z' b f c q => hk _ _ (h z' b f c q)
  | exc c fs τ => exact h
  | bad => exact h
theorem Run.bind {r : R α} {g : α → Store → R α'} (h : Run G rep' (r.bind g) W z k') :
    Run G rep r W z fun b H => ∃ z1 a τ1, z1.H = H ∧ Fut z z1 ∧ Cells G z1 τ1 ∧ rep z1 a b ∧ Run G rep' (g a τ1) W z1 k' := by
  cases r with
  | bad => exact h
  | exc c fs τ => exact h
  | ok a τ =>
    intro z1 b f c q
    refine ⟨z1, a, τ, rfl, f, c, q, ?_⟩
    have h' : Run G rep' (g a τ) W z k' := h
    cases e : g a τ with
    | bad => rw [e] at h'; exact h'
    | exc c2 fs τ2 =>
      rw [e] at h'
      exact fun z' dd vs f' c' s' r' => h' z' dd vs (f.trans f') c' s' r'
    | ok a2 τ2 =>
      rw [e] at h'
      exact fun z' b' f' c' q' => h' z' b' (f.trans f') c' q'
theorem Run.ok {a : α} {τ : Store} {b : β} (h : Run G rep (.ok a τ) W z k) (c : Cells G z τ) (r : rep z a b) : k b z.H := h z b (Fut.refl z) c r
theorem Run.pre {r : R α} {z1 : Z} (h : Run G rep r W z k) (f : Fut z z1) : Run G rep r W z1 k := by
  cases r with
  | ok a τ => exact fun z' b f' c q => h z' b (f.trans f') c q
  | exc c fs τ => exact fun z' dd vs f' => h z' dd vs (f.trans f')
  | bad => exact h
end

/-! ### readings -/
abbrev EqRep {β : Type} : Z → β → β → Prop := fun _ a b => a = b
def VE (G : Gd) (W : WX) (f : EV) : TE := fun σ H Q => ∃ z ρ τ, z.H = H ∧ Cells G z τ ∧ EnvR G z ρ σ ∧ Run G (RepU G) (f ρ τ) (fun c d H' => W c d σ H') z Q
def VB (G : Gd) (W : WX) (f : EB) : TT := fun σ H Q => ∃ z ρ τ, z.H = H ∧ Cells G z τ ∧ EnvR G z ρ σ ∧ Run G EqRep (f ρ τ) (fun c d H' => W c d σ H') z Q
def VA (G : Gd) (W : WX) (f : EL) : TA := fun σ H Q => ∃ z ρ τ, z.H = H ∧ Cells G z τ ∧ EnvR G z ρ σ ∧ Run G (RepUs G) (f ρ τ) (fun c d H' => W c d σ H') z Q
theorem pe_weak {X : Cx} {e : Expr} {t t' : TE} (h : PE X e t) (w : ∀ σ H Q, t' σ H Q → t σ H Q) : PE X e t' := ⟨fun pins s σ H Q I q => h.run pins s σ H Q I (w _ _ _ q)⟩
theorem pt_weak {X : Cx} {e : Expr} {t t' : TT} (h : PT X e t) (w : ∀ σ H Q, t' σ H Q → t σ H Q) : PT X e t' := ⟨fun pins s σ H Q I q => h.run pins s σ H Q I (w _ _ _ q)⟩
theorem pw_weak {X : Cx} {e : Expr} {t t' : TT} (h : PW X e t) (w : ∀ σ H Q, t' σ H Q → t σ H Q) : PW X e t' := ⟨fun wh pins s σ H Q I q => h.run wh pins s σ H Q I (w _ _ _ q)⟩
theorem pa_weak {X : Cx} {es : List Expr} {t t' : TA} (h : PA X es t) (w : ∀ σ H Q, t' σ H Q → t σ H Q) : PA X es t' := ⟨fun pos pins s σ H Q I q => h.run pos pins s σ H Q I (w _ _ _ q)⟩
theorem ps_weak {X : Cx} {st : Stmt} {t t' : TS} (h : PS X st t) (w : ∀ D σ H, t' D σ H → t D σ H) : PS X st t' := ⟨fun pins s σ H D I q => h.run pins s σ H D I (w _ _ _ q)⟩
theorem pss_weak {X : Cx} {st : List Stmt} {t t' : TS} (h : PSs X st t) (w : ∀ D σ H, t' D σ H → t D σ H) : PSs X st t' := ⟨fun pins s σ H D I q => h.run pins s σ H D I (w _ _ _ q)⟩

section
variable {X : Cx} {G : Gd} {W : WX} {a b : Expr} {fa fb : EV} {pos : Pos}
/-- one part, then a step on its value -/
theorem ve_step1 {e : Expr} {t : TE} {g : U → Store → R U} {r : V → Hp → VK → Prop} (h : PE X e t) (he : ∀ σ H Q, (VE G W fa) σ H (fun x H1 => r x H1 Q) → t σ H Q)
    (hr : ∀ (z : Z) (u : U) (τ : Store) (v : V) (W : XK) (Q : VK), Cells G z τ → RepU G z u v → Run G (RepU G) (g u τ) W z Q → r v z.H Q) : PE X e (VE G W fun ρ τ => (fa ρ τ).bind g) := by
  refine pe_weak h fun σ H Q ⟨z, ρ, τ, hz, c, en, q⟩ => he _ _ _ ⟨z, ρ, τ, hz, c, en, ?_⟩
  exact (Run.bind q).imp fun v H1 ⟨z1, u, τ1, e1, f, c1, r1, q1⟩ => by
    subst e1
    exact hr z1 u τ1 v _ Q c1 r1 q1
/-- two parts, then a step on their values -/
theorem ve_step2 {e : Expr} {t : TE} {g : U → U → Store → R U} {r : R2} (h : PE X e t) (he : ∀ σ H Q, (VE G W fa) σ H (fun x H1 => (VE G W fb) σ H1 fun y H2 => r x y H2 Q) → t σ H Q)
    (hr : ∀ (z : Z) (u w : U) (τ : Store) (x y : V) (W : XK) (Q : VK), Cells G z τ → RepU G z u x → RepU G z w y → Run G (RepU G) (g u w τ) W z Q → r x y z.H Q) :
    PE X e (VE G W fun ρ τ => (fa ρ τ).bind fun u τ1 => (fb ρ τ1).bind fun w τ2 => g u w τ2) := by
  refine pe_weak h fun σ H Q ⟨z, ρ, τ, hz, c, en, q⟩ => he _ _ _ ⟨z, ρ, τ, hz, c, en, ?_⟩
  exact (Run.bind q).imp fun x H1 ⟨z1, u, τ1, e1, f, c1, r1, q1⟩ => by
    subst e1
    refine ⟨z1, ρ, τ1, rfl, c1, en.fut f, ?_⟩
    exact (Run.bind q1).imp fun y H2 ⟨z2, w, τ2, e2, f2, c2, r2, q2⟩ => by
      subst e2
      exact hr z2 u w τ2 x y _ Q c2 (r1.fut f2) r2 q2
end

/-! ### names and constants -/
def eVar (i : Nat) : EV := fun ρ τ => match ρ[i]? with
  | some (some u) => .ok u τ
  | _ => .bad
def eC (x : D) : EV := fun _ τ => .ok (.d x) τ
section
variable {X : Cx} {G : Gd} {W : WX} {pos : Pos}
theorem v_var (i : Nat) {x : Str} (hN : X.N[i]? = some x) (hv : Vis X.env.scope x) (hd : (x == ("__debug__" : Str)) = false := by decide) (hcd : (x == ("__classdict__" : Str)) = false := by decide) : PE X (.Name x pos) (VE G W (eVar i)) := by
  refine pe_weak (pe_var hN hv hd hcd) fun σ H Q ⟨z, ρ, τ, hz, c, en, q⟩ => ?_
  subst hz
  unfold eVar at q
  cases e : ρ[i]? with
  | none => rw [e] at q; exact q.elim
  | some o =>
    cases o with
    | none => rw [e] at q; exact q.elim
    | some u =>
      rw [e] at q
      obtain ⟨v, h1, h2⟩ := en.at_ i u e
      exact ⟨v, h1, q.ok c h2⟩
theorem v_c {e : Expr} {v : V} {x : D} (h : PE X e (tC v)) (r : ∀ S, Rep G S x v) : PE X e (VE G W (eC x)) := by
  refine pe_weak h fun σ H Q ⟨z, ρ, τ, hz, c, en, q⟩ => ?_
  subst hz
  exact Run.ok (rep := RepU G) q c (.d (r _))
theorem v_int {i : Int} {j} : PE X (.Constant (.int i) j pos) (VE G W (eC (.int i))) := v_c pe_int fun _ => .int i
theorem v_bl {b : Bool} {j} : PE X (.Constant (.bool b) j pos) (VE G W (eC (.bl b))) := v_c pe_bl fun _ => .bl b
theorem v_non {j} : PE X (.Constant .none j pos) (VE G W (eC .non)) := v_c pe_non fun _ => .non
theorem v_str {s : Str} (t : T) {j} (h : s = t.s) : PE X (.Constant (.str s) j pos) (VE G W (eC (.str t))) := v_c pe_str fun _ => by rw [h]; exact .str t
theorem v_glob {x : Str} {v : V} {u : Value} {d : D} (hg : Gl X x) (hm : X.mg x = some u) (r : RelV v u) (h : ∀ S, Rep G S d v) (hd : (x == ("__debug__" : Str)) = false := by decide) : PE X (.Name x pos) (VE G W (eC d)) :=
  v_c (pe_glob hg hm r hd) h
end
end VL

/-! The value layer, 2: what is read, what is made, what is changed; operators and comparisons. -/
namespace VL
open PySem PySem.Spec PyProof.Rows L2 LamX

def vw (τ : Store) : U → Option D
  | .d x => some x
  | .loc n => match τ[n]? with
    | some (.lst ds) => some (.lst ds)
    | some (.dct kvs) => some (.dct kvs)
    | some (.ins c fs) => some (.ins c fs)
    | _ => none
@[simp] theorem vw_d (τ : Store) (x : D) : vw τ (.d x) = some x := rfl
/-- what may be read now -/
inductive RepH (G : Gd) (z : Z) : D → V → Prop
  | sh {d : D} {v : V} : Rep G z.S d v → RepH G z d v
  | lst {a : Addr} {vs : List V} {ds : List D} : z.H a = some (.lst vs) → Reps G z.S ds vs → RepH G z (.lst ds) (.ref a)
  | dct {a : Addr} {ps : List (Key × V)} {kvs : List (Ky × D)} : z.H a = some (.dK ps) → RepK G z.S kvs ps → RepH G z (.dct kvs) (.ref a)
  | ins {a dx : Addr} {c : Nat} {ps : List (Str × V)} {fs : List (T × D)} : z.H a = some (.ins (G.ca c) dx ps) → RepF G z.S fs ps → RepH G z (.ins c fs) (.ref a)
section
variable {G : Gd} {z : Z} {τ : Store}
theorem vw_rep (c : Cells G z τ) {u : U} {v : V} {d : D} (r : RepU G z u v) (e : vw τ u = some d) : RepH G z d v := by
  cases r with
  | d h =>
    have e' := Option.some.inj e
    subst e'
    exact .sh h
  | loc h =>
    rename_i n a
    unfold vw at e
    simp only at e
    cases q : τ[n]? with
    | none => rw [q] at e; cases e
    | some cl =>
      have w := c.at_ n a cl h q
      rw [q] at e
      cases cl with
      | dead => cases e
      | lst ds => cases e; obtain ⟨_, vs, h1, h2⟩ := w; exact .lst h1 h2
      | dct kvs => cases e; obtain ⟨_, vs, h1, h2⟩ := w; exact .dct h1 h2
      | ins cc fs => cases e; obtain ⟨_, dx, vs, h1, h2⟩ := w; exact .ins h1 h2
theorem RepH.non_ {v : V} (r : RepH G z .non v) : v = .non := by cases r with | sh h => cases h; rfl
theorem RepH.bl_ {v : V} {b : Bool} (r : RepH G z (.bl b) v) : v = .bl b := by cases r with | sh h => cases h; rfl
theorem RepH.int_ {v : V} {i : Int} (r : RepH G z (.int i) v) : v = .int i := by cases r with | sh h => cases h; rfl
theorem RepH.str_ {v : V} {s : T} (r : RepH G z (.str s) v) : v = .str s.s := by cases r with | sh h => cases h; rfl
theorem RepH.lst_ {v : V} {ds : List D} (c : Cells G z τ) (r : RepH G z (.lst ds) v) : ∃ a vs, v = .ref a ∧ z.H a = some (.lst vs) ∧ Reps G z.S ds vs := by
  cases r with
  | sh h => cases h with | lst h1 h2 => exact ⟨_, _, rfl, c.sub _ _ h1, h2⟩
  | lst h1 h2 => exact ⟨_, _, rfl, h1, h2⟩
theorem RepH.fl_ {v : V} {ds : List D} (c : Cells G z τ) (r : RepH G z (.fl ds) v) : ∃ a vs, v = .ref a ∧ SqL G.K z.H a vs ∧ Reps G z.S ds vs := by
  cases r with
  | sh h => cases h with | fl h1 h2 => exact ⟨_, _, rfl, sqL_mono c.sub h1, h2⟩
theorem RepH.tup_ {v : V} {ds : List D} (c : Cells G z τ) (r : RepH G z (.tup ds) v) : ∃ a vs, v = .ref a ∧ SqT G.K z.H a vs ∧ Reps G z.S ds vs := by
  cases r with
  | sh h => cases h with | tup h1 h2 => exact ⟨_, _, rfl, sqT_mono c.sub h1, h2⟩
/-- a list's or a tuple's items -/
def D.seq : D → Option (List D)
  | .lst ds => some ds
  | .fl ds => some ds
  | .tup ds => some ds
  | _ => none
theorem RepH.seq_ {v : V} {d : D} {ds : List D} (c : Cells G z τ) (r : RepH G z d v) (e : d.seq = some ds) : ∃ a vs, v = .ref a ∧ (SqL G.K z.H a vs ∨ SqT G.K z.H a vs) ∧ Reps G z.S ds vs := by
  cases d with
  | lst xs =>
    cases e
    obtain ⟨a, vs, h1, h2, h3⟩ := r.lst_ c
    exact ⟨a, vs, h1, .inl (SqL.of h2), h3⟩
  | fl xs =>
    cases e
    obtain ⟨a, vs, h1, h2, h3⟩ := r.fl_ c
    exact ⟨a, vs, h1, .inl h2, h3⟩
  | tup xs =>
    cases e
    obtain ⟨a, vs, h1, h2, h3⟩ := r.tup_ c
    exact ⟨a, vs, h1, .inr h2, h3⟩
  | _ => cases e
theorem RepH.dct_ {v : V} {kvs : List (Ky × D)} (c : Cells G z τ) (r : RepH G z (.dct kvs) v) : ∃ a ps, v = .ref a ∧ Rd z.H a (.dK ps) ∧ RepK G z.S kvs ps := by
  cases r with
  | sh h => cases h with | dct h1 h2 => exact ⟨_, _, rfl, .inr ⟨_, c.sub _ _ h1⟩, h2⟩
  | dct h1 h2 => exact ⟨_, _, rfl, .inl h1, h2⟩
theorem RepH.ins_ {v : V} {cc : Nat} {fs : List (T × D)} (c : Cells G z τ) (r : RepH G z (.ins cc fs) v) : ∃ a dx ps, v = .ref a ∧ z.H a = some (.ins (G.ca cc) dx ps) ∧ RepF G z.S fs ps := by
  cases r with
  | sh h => cases h with | ins h1 h2 => exact ⟨_, _, _, rfl, c.sub _ _ h1, h2⟩
  | ins h1 h2 => exact ⟨_, _, _, rfl, h1, h2⟩

/-! ### a new object -/
theorem CellR.more {S S' H H' : Hp} {a : Addr} {cl : Cell} (h : CellR G S H a cl) (s : Same S S') (e1 : S a = none → S' a = none) (e2 : ∀ o, H a = some o → H' a = some o) : CellR G S' H' a cl := by
  cases cl with
  | dead => exact trivial
  | lst ds => obtain ⟨n, vs, h1, h2⟩ := h; exact ⟨e1 n, vs, e2 _ h1, Reps.mono s _ _ h2⟩
  | dct ds => obtain ⟨n, vs, h1, h2⟩ := h; exact ⟨e1 n, vs, e2 _ h1, RepK.mono s _ _ h2⟩
  | ins cc ds => obtain ⟨n, dx, vs, h1, h2⟩ := h; exact ⟨e1 n, dx, vs, e2 _ h1, RepF.mono s _ _ h2⟩
theorem same_upd {H : Hp} {p : Addr} {o : HO} (h : H p = none) : Same H (upd H p o) := fun b u e => by rw [upd_ne (ne_of_none e h)]; exact e
theorem Cells.none_ (c : Cells G z τ) {p : Addr} (h : z.H p = none) : z.S p = none := Same.free c.sub h
theorem Cells.nin (c : Cells G z τ) {p : Addr} (h : z.H p = none) : p ∉ z.ms := fun m => by
  obtain ⟨o, e, _⟩ := c.al p m
  rw [h] at e; cases e
theorem fut_sh {p : Addr} {o : HO} (hn : z.S p = none) (h : z.H p = none) : Fut z ⟨upd z.S p o, upd z.H p o, z.ms⟩ :=
  ⟨same_upd hn, List.prefix_refl _, fun a u e _ _ => same_upd h a u e, fun a u e t => ⟨u, same_upd h a u e, t⟩,
    fun a u e _ _ => upd_ne (ne_of_none e h), fun a m => .inl m⟩
theorem cells_sh (c : Cells G z τ) {p : Addr} {o : HO} (h : z.H p = none) (no : notTbl o := by intro ps e; cases e) : Cells G ⟨upd z.S p o, upd z.H p o, z.ms⟩ τ := by
  have hn := c.none_ h
  refine ⟨fun b u e => ?_, c.len, c.nd, fun a m => ?_, fun i a cl e1 e2 => ?_, c.tab.ext (same_upd h), fun a u e => by
    by_cases ha : a = p
    · have e : upd z.S p o a = some u := e
      rw [ha, upd_same] at e
      cases e
      exact no
    · have e : upd z.S p o a = some u := e
      rw [upd_ne ha] at e
      exact c.nt a u e⟩
  · by_cases hb : b = p
    · subst hb
      have e : upd z.S b o b = some u := e
      rw [upd_same] at e
      show upd z.H b o b = some u
      rw [upd_same]
      exact e
    · have e : upd z.S p o b = some u := e
      rw [upd_ne hb] at e
      show upd z.H p o b = some u
      rw [upd_ne hb]
      exact c.sub b u e
  · obtain ⟨u, e, q⟩ := c.al a m
    exact ⟨u, same_upd h a u e, q⟩
  · have ne : a ≠ p := fun q => c.nin h (q ▸ List.mem_of_getElem? e1)
    exact (c.at_ i a cl e1 e2).more (same_upd hn) (fun n => (upd_ne ne).trans n) fun u e => (upd_ne ne).trans e
theorem fut_own {p : Addr} {o : HO} (h : z.H p = none) : Fut z ⟨z.S, upd z.H p o, z.ms ++ [p]⟩ :=
  ⟨Same.refl _, List.prefix_append _ _, fun a u e _ _ => same_upd h a u e, fun a u e t => ⟨u, same_upd h a u e, t⟩, fun a u e _ _ => rfl, fun a m => by
    rcases List.mem_append.mp m with m | m
    · exact .inl m
    · refine .inr fun u e => ?_
      rw [List.mem_singleton.mp m, h] at e
      cases e⟩
theorem cells_own (c : Cells G z τ) {p : Addr} {o : HO} {cl : Cell} (h : z.H p = none) (ho : pln o) (hc : CellR G z.S (upd z.H p o) p cl) : Cells G ⟨z.S, upd z.H p o, z.ms ++ [p]⟩ (τ ++ [cl]) := by
  refine ⟨c.sub.trans (same_upd h), by simp [c.len], ?_, fun a m => ?_, fun i a cl' e1 e2 => ?_, c.tab.ext (same_upd h), c.nt⟩
  · refine List.nodup_append.mpr ⟨c.nd, by simp, fun a ha b hb => ?_⟩
    rw [List.mem_singleton.mp hb]
    exact fun q => c.nin h (q ▸ ha)
  · rcases List.mem_append.mp m with m | m
    · obtain ⟨u, e, q⟩ := c.al a m
      exact ⟨u, same_upd h a u e, q⟩
    · rw [List.mem_singleton.mp m]
      exact ⟨o, upd_same, ho⟩
  · by_cases hi : i < z.ms.length
    · have e1 : (z.ms ++ [p])[i]? = some a := e1
      rw [List.getElem?_append_left hi] at e1
      rw [List.getElem?_append_left (by rw [← c.len]; exact hi)] at e2
      have ne : a ≠ p := fun q => c.nin h (q ▸ List.mem_of_getElem? e1)
      exact (c.at_ i a cl' e1 e2).more (Same.refl _) (fun n => n) fun u e => (upd_ne ne).trans e
    · have e1 : (z.ms ++ [p])[i]? = some a := e1
      have hl := (List.getElem?_eq_some_iff.mp e1).1
      have hi2 : i = z.ms.length := by
        rw [List.length_append, List.length_singleton] at hl
        omega
      subst hi2
      rw [List.getElem?_append_right (Nat.le_refl _)] at e1
      rw [c.len, List.getElem?_append_right (Nat.le_refl _)] at e2
      simp only [Nat.sub_self, List.getElem?_cons_zero, Option.some.injEq] at e1 e2
      subst e1 e2
      exact hc
/-- a new list: shared, or a cell -/
def allocL (own : Bool) (ds : List D) (τ : Store) : R U := if own then .ok (.loc τ.length) (τ ++ [.lst ds]) else .ok (.d (.lst ds)) τ
@[simp] theorem allocL_f (ds : List D) (τ : Store) : allocL false ds τ = .ok (.d (.lst ds)) τ := rfl
@[simp] theorem allocL_t (ds : List D) (τ : Store) : allocL true ds τ = .ok (.loc τ.length) (τ ++ [.lst ds]) := rfl
theorem alloc_lst (c : Cells G z τ) {own : Bool} {ds : List D} {vs : List V} {p : Addr} {W : XK} {Q : VK} (h : z.H p = none) (r : Reps G z.S ds vs) (q : Run G (RepU G) (allocL own ds τ) W z Q) : Q (.ref p) (upd z.H p (.lst vs)) := by
  cases own with
  | false => exact q ⟨upd z.S p (.lst vs), upd z.H p (.lst vs), z.ms⟩ (.ref p) (fut_sh (c.none_ h) h) (cells_sh c h) (.d (.lst upd_same (Reps.mono (same_upd (c.none_ h)) _ _ r)))
  | true =>
    refine q ⟨z.S, upd z.H p (.lst vs), z.ms ++ [p]⟩ (.ref p) (fut_own h) (cells_own c h trivial ⟨c.none_ h, vs, upd_same, r⟩) (.loc ?_)
    show (z.ms ++ [p])[τ.length]? = some p
    rw [← c.len, List.getElem?_append_right (Nat.le_refl _)]
    simp
def allocD (ds : List (Ky × D)) (τ : Store) : R U := .ok (.loc τ.length) (τ ++ [.dct ds])
theorem alloc_dct (c : Cells G z τ) {ds : List (Ky × D)} {vs : List (Key × V)} {p : Addr} {W : XK} {Q : VK} (h : z.H p = none) (r : RepK G z.S ds vs) (q : Run G (RepU G) (allocD ds τ) W z Q) : Q (.ref p) (upd z.H p (.dK vs)) := by
  refine q ⟨z.S, upd z.H p (.dK vs), z.ms ++ [p]⟩ (.ref p) (fut_own h) (cells_own c h trivial ⟨c.none_ h, vs, upd_same, r⟩) (.loc ?_)
  show (z.ms ++ [p])[τ.length]? = some p
  rw [← c.len, List.getElem?_append_right (Nat.le_refl _)]
  simp
theorem alloc_tup (c : Cells G z τ) {ds : List D} {vs : List V} {p : Addr} {W : XK} {Q : VK} (h : z.H p = none) (r : Reps G z.S ds vs) (q : Run G (RepU G) (.ok (.d (.tup ds)) τ) W z Q) : Q (.ref p) (upd z.H p (.tup vs)) :=
  q ⟨upd z.S p (.tup vs), upd z.H p (.tup vs), z.ms⟩ (.ref p) (fut_sh (c.none_ h) h) (cells_sh c h) (.d (.tup (SqT.of upd_same) (Reps.mono (same_upd (c.none_ h)) _ _ r)))

/-! ### a cell is changed, a cell is let go -/
theorem tabs_upd {T : List (Addr × Str)} {H : Hp} {a : Addr} {o o' : HO} (t : Tabs T H) (h : H a = some o) (p : pln o) : Tabs T (upd H a o') := fun x hx => by
  obtain ⟨ps, h1, h2, h3⟩ := t x hx
  have n1 : x.1 ≠ a := fun q => by
    rw [q, h] at h1
    cases h1
    exact p
  refine ⟨ps, by rw [upd_ne n1]; exact h1, h2, fun pos cv hc => ?_⟩
  obtain ⟨cc, e1, e2⟩ := h3 pos cv hc
  have n2 : cc ≠ a := fun q => by
    rw [q, h] at e2
    have e3 := Option.some.inj e2
    subst e3
    exact p
  exact ⟨cc, e1, by rw [upd_ne n2]; exact e2⟩
theorem fut_set {a : Addr} {o o' : HO} (h : z.H a = some o) (m : a ∈ z.ms) (p' : pln o') : Fut z ⟨z.S, upd z.H a o', z.ms⟩ :=
  ⟨Same.refl _, List.prefix_refl _, fun b u e n _ => (upd_ne (show b ≠ a from fun q => n (by rw [q]; exact m))).trans e, fun b u e t => by
    by_cases hb : b = a
    · exact ⟨o', by rw [hb]; exact upd_same, p'.nt⟩
    · exact ⟨u, (upd_ne hb).trans e, t⟩, fun _ _ _ _ _ => rfl, fun _ m => .inl m⟩
theorem cells_set (c : Cells G z τ) {n : Nat} {a : Addr} {o o' : HO} {cl : Cell} (hm : z.ms[n]? = some a) (h : z.H a = some o) (hs : z.S a = none) (p' : pln o') (hc : CellR G z.S (upd z.H a o') a cl) : Cells G ⟨z.S, upd z.H a o', z.ms⟩ (τ.set n cl) := by
  have p : pln o := by
    obtain ⟨u, e, q⟩ := c.al a (List.mem_of_getElem? hm)
    rw [h] at e; cases e
    exact q
  refine ⟨fun b u e => ?_, by simp [c.len], c.nd, fun b m => ?_, fun i b cl' e1 e2 => ?_, tabs_upd c.tab h p, c.nt⟩
  · have nb : b ≠ a := fun q => by
      have e : z.S b = some u := e
      rw [q, hs] at e; cases e
    exact (upd_ne nb).trans (c.sub b u e)
  · by_cases hb : b = a
    · exact ⟨o', by rw [hb]; exact upd_same, p'⟩
    · obtain ⟨u, e, q⟩ := c.al b m
      exact ⟨u, (upd_ne hb).trans e, q⟩
  · by_cases hi : n = i
    · subst hi
      have e1 : z.ms[n]? = some b := e1
      rw [hm] at e1; cases e1
      have hl : n < τ.length := by
        rw [← c.len]
        exact (List.getElem?_eq_some_iff.mp hm).1
      rw [List.getElem?_set_self hl] at e2
      cases e2
      exact hc
    · rw [List.getElem?_set_ne hi] at e2
      have nb : b ≠ a := fun q => by
        subst q
        have e1 : z.ms[i]? = some b := e1
        exact hi (nd_ix c.nd hm e1)
      exact (c.at_ i b cl' e1 e2).more (Same.refl _) (fun n => n) fun u e => (upd_ne nb).trans e
/-- a cell becomes shared data -/
theorem fut_frz {a : Addr} {o : HO} (hs : z.S a = none) (m : a ∈ z.ms) : Fut z ⟨upd z.S a o, z.H, z.ms⟩ :=
  ⟨same_upd hs, List.prefix_refl _, fun _ _ e _ _ => e, fun b u e t => ⟨u, e, t⟩, fun b u e _ n => upd_ne (show b ≠ a from fun q => n (by rw [q]; exact m)), fun _ m => .inl m⟩
theorem cells_frz (c : Cells G z τ) {n : Nat} {a : Addr} {o : HO} (hm : z.ms[n]? = some a) (h : z.H a = some o) (hs : z.S a = none) : Cells G ⟨upd z.S a o, z.H, z.ms⟩ (τ.set n .dead) := by
  refine ⟨fun b u e => ?_, by simp [c.len], c.nd, c.al, fun i b cl' e1 e2 => ?_, c.tab, fun b u e => by
    by_cases hb : b = a
    · have e : upd z.S a o b = some u := e
      rw [hb, upd_same] at e
      cases e
      obtain ⟨v, q1, q2⟩ := c.al a (List.mem_of_getElem? hm)
      rw [h] at q1
      cases q1
      exact q2.nt
    · have e : upd z.S a o b = some u := e
      rw [upd_ne hb] at e
      exact c.nt b u e⟩
  · by_cases hb : b = a
    · have e : upd z.S a o b = some u := e
      rw [hb, upd_same] at e
      cases e
      rw [hb]
      exact h
    · have e : upd z.S a o b = some u := e
      rw [upd_ne hb] at e
      exact c.sub b u e
  · by_cases hi : n = i
    · subst hi
      have hl : n < τ.length := by
        rw [← c.len]
        exact (List.getElem?_eq_some_iff.mp hm).1
      rw [List.getElem?_set_self hl] at e2
      cases e2
      exact trivial
    · rw [List.getElem?_set_ne hi] at e2
      have nb : b ≠ a := fun q => by
        subst q
        have e1 : z.ms[i]? = some b := e1
        exact hi (nd_ix c.nd hm e1)
      exact (c.at_ i b cl' e1 e2).more (same_upd hs) (fun q => (upd_ne nb).trans q) fun u e => e
/-- let go: U as data, the store behind it -/
def frz (τ : Store) : U → Option (D × Store)
  | .d x => some (x, τ)
  | .loc n => match τ[n]? with
    | some (.lst ds) => some (.lst ds, τ.set n .dead)
    | some (.ins c fs) => some (.ins c fs, τ.set n .dead)
    | _ => none
@[simp] theorem frz_d (τ : Store) (x : D) : frz τ (.d x) = some (x, τ) := rfl
theorem frz_ok (c : Cells G z τ) {u : U} {v : V} {x : D} {τ' : Store} (r : RepU G z u v) (e : frz τ u = some (x, τ')) : ∃ z', z'.H = z.H ∧ Fut z z' ∧ Cells G z' τ' ∧ Rep G z'.S x v ∧ z'.ms = z.ms := by
  cases r with
  | d h =>
    cases e
    exact ⟨z, rfl, Fut.refl z, c, h, rfl⟩
  | loc h =>
    rename_i n a
    unfold frz at e
    simp only at e
    have m := List.mem_of_getElem? h
    cases q : τ[n]? with
    | none => rw [q] at e; cases e
    | some cl =>
      have w := c.at_ n a cl h q
      rw [q] at e
      cases cl with
      | dead => cases e
      | lst ds =>
        cases e
        obtain ⟨hs, vs, h1, h2⟩ := w
        exact ⟨⟨upd z.S a (.lst vs), z.H, z.ms⟩, rfl, fut_frz hs m, cells_frz c h h1 hs, .lst upd_same (Reps.mono (same_upd hs) _ _ h2), rfl⟩
      | dct ds => cases e
      | ins cc ds =>
        cases e
        obtain ⟨hs, dx, vs, h1, h2⟩ := w
        exact ⟨⟨upd z.S a (.ins (G.ca cc) dx vs), z.H, z.ms⟩, rfl, fut_frz hs m, cells_frz c h h1 hs, .ins upd_same (RepF.mono (same_upd hs) _ _ h2), rfl⟩
end

/-! ### two values by an operator -/
def OpS (G : Gd) (g : D → D → Store → R U) (r : R2) : Prop :=
  ∀ (z : Z) (a b : D) (τ : Store) (x y : V) (W : XK) (Q : VK), Cells G z τ → RepH G z a x → RepH G z b y → Run G (RepU G) (g a b τ) W z Q → r x y z.H Q
def opD (g : D → D → Store → R U) (u w : U) (τ : Store) : R U := match vw τ u, vw τ w with
  | some a, some b => g a b τ
  | _, _ => .bad
@[simp] theorem opD_d (g : D → D → Store → R U) (a b : D) (τ : Store) : opD g (.d a) (.d b) τ = g a b τ := rfl
def eOp (g : D → D → Store → R U) (fa fb : EV) : EV := fun ρ τ => (fa ρ τ).bind fun u τ1 => (fb ρ τ1).bind fun w τ2 => opD g u w τ2
theorem opD_run {G : Gd} {g : D → D → Store → R U} {r : R2} (hs : OpS G g r) (z : Z) (u w : U) (τ : Store) (x y : V) (W : XK) (Q : VK) (c : Cells G z τ) (r1 : RepU G z u x) (r2 : RepU G z w y) (q : Run G (RepU G) (opD g u w τ) W z Q) : r x y z.H Q := by
  unfold opD at q
  cases e1 : vw τ u with
  | none => rw [e1] at q; exact q.elim
  | some a =>
    cases e2 : vw τ w with
    | none => rw [e1, e2] at q; exact q.elim
    | some b =>
      rw [e1, e2] at q
      exact hs z a b τ x y W Q c (vw_rep c r1 e1) (vw_rep c r2 e2) q
/-- a truth value wanted -/
def bOf (f : EV) : EB := fun ρ τ => (f ρ τ).bind fun u τ1 => match u with
  | .d (.bl b) => .ok b τ1
  | _ => .bad
section
variable {X : Cx} {G : Gd} {W : WX} {a b : Expr} {fa fb : EV} {pos : Pos}
theorem v_op {op : Operator} {g : D → D → Store → R U} {r : R2} (ho : OpR X (binaryOp op) r) (hs : OpS G g r) (ha : PE X a (VE G W fa)) (hb : PE X b (VE G W fb)) : PE X (.BinOp a op b pos) (VE G W (eOp g fa fb)) :=
  ve_step2 (pe_op ho ha hb) (fun _ _ _ h => h) (opD_run hs)
theorem v_cmp {op : CmpOp} {g : D → D → Store → R U} {r : R2} (ho : OpR X (compareOp op) r) (hs : OpS G g r) (ha : PE X a (VE G W fa)) (hb : PE X b (VE G W fb)) (hm : behindInMarks op b = false) : PE X (.Compare a [op] [b] pos) (VE G W (eOp g fa fb)) :=
  ve_step2 (pe_cmpR ho ha hb hm) (fun _ _ _ h => h) (opD_run hs)
/-- from a reading as a value to one as a truth value -/
theorem vb_tB {t : TE} {f : EV} {e : Expr} (h : PT X e (tB t)) (w : ∀ σ H Q, VE G W f σ H Q → t σ H Q) : PT X e (VB G W (bOf f)) := by
  refine pt_weak h fun σ H Q ⟨z, ρ, τ, hz, c, en, q⟩ => w _ _ _ ⟨z, ρ, τ, hz, c, en, ?_⟩
  refine (Run.bind q).imp fun v H1 ⟨z1, u, τ1, e1, f, c1, r1, q1⟩ => ?_
  subst e1
  cases u with
  | loc n => exact q1.elim
  | d x =>
    cases x with
    | bl k =>
      cases r1 with
      | d r1 =>
        cases r1
        exact ⟨k, rfl, q1.ok c1 rfl⟩
    | _ => exact q1.elim
theorem vb_val {e : Expr} {f : EV} (h : PE X e (VE G W f)) (he : ∀ whole, isTrue e X.env whole = (do let v ← whole; standAt e.pos; holding [v] (truthy v)) := by intro _; rfl) : PT X e (VB G W (bOf f)) :=
  vb_tB (pt_val h he) fun _ _ _ q => q
theorem vb_cmp {op : CmpOp} {g : D → D → Store → R U} {r : R2} (ho : OpR X (compareOp op) r) (hs : OpS G g r) (ha : PE X a (VE G W fa)) (hb : PE X b (VE G W fb)) (hm : behindInMarks op b = false) : PT X (.Compare a [op] [b] pos) (VB G W (bOf (eOp g fa fb))) := by
  refine vb_tB (t := tOp r (VE G W fa) (VE G W fb)) (pt_cmpR ho ha hb hm) fun σ H Q q => ?_
  obtain ⟨z, ρ, τ, hz, c, en, q⟩ := q
  refine ⟨z, ρ, τ, hz, c, en, ?_⟩
  exact (Run.bind q).imp fun x H1 ⟨z1, u, τ1, e1, f, c1, r1, q1⟩ => by
    subst e1
    refine ⟨z1, ρ, τ1, rfl, c1, en.fut f, ?_⟩
    exact (Run.bind q1).imp fun y H2 ⟨z2, w, τ2, e2, f2, c2, r2, q2⟩ => by
      subst e2
      exact opD_run hs z2 u w τ2 x y _ Q c2 (r1.fut f2) r2 q2
end
end VL

/-! The value layer, 3: the operators' rules, displays, subscripts, truth, built-in calls. -/
namespace VL
open PySem PySem.Spec PyProof.Rows L2 LamX

/-! ### data for == and repr -/
mutual
def D.py : D → Option PyData
  | .non => some .none
  | .bl b => some (.bool b)
  | .int i => some (.int i)
  | .str t => some (.str t.s)
  | .tup ds => (pys ds).map PyData.tuple
  | .lst ds => (pys ds).map PyData.list
  | .fl _ => none
  | .dct _ => none
  | .dcu _ => none
  | .ins _ _ => none
  | .cls _ => none
  | .exn _ _ => none
def pys : List D → Option (List PyData)
  | [] => some []
  | d :: ds => match D.py d, pys ds with
    | some x, some xs => some (x :: xs)
    | _, _ => none
end
section
variable {G : Gd} {S : Hp}
mutual
theorem Rep.dp : ∀ (d : D) (v : V) (x : PyData), Rep G S d v → d.py = some x → Dp G.K S v x
  | .non, _, _, h, e => by cases h; cases e; exact .non
  | .bl b, _, _, h, e => by cases h; cases e; exact .bl b
  | .int i, _, _, h, e => by cases h; cases e; exact .int i
  | .str t, _, _, h, e => by cases h; cases e; exact .str _
  | .tup ds, _, x, h, e => by
    cases h with
    | tup h1 h2 =>
      cases q : pys ds with
      | none => simp [D.py, q] at e
      | some xs =>
        simp only [D.py, q, Option.map_some, Option.some.injEq] at e
        subst e
        exact .tup h1 (Reps.dp ds _ xs h2 q)
  | .lst ds, _, x, h, e => by
    cases h with
    | lst h1 h2 =>
      cases q : pys ds with
      | none => simp [D.py, q] at e
      | some xs =>
        simp only [D.py, q, Option.map_some, Option.some.injEq] at e
        subst e
        exact .lst (SqL.of h1) (Reps.dp ds _ xs h2 q)
  | .fl _, _, _, _, e => by cases e
  | .dct _, _, _, _, e => by cases e
  | .dcu _, _, _, _, e => by cases e
  | .ins _ _, _, _, _, e => by cases e
  | .cls _, _, _, _, e => by cases e
  | .exn _ _, _, _, _, e => by cases e
theorem Reps.dp : ∀ (ds : List D) (vs : List V) (xs : List PyData), Reps G S ds vs → pys ds = some xs → DpAll G.K S vs xs
  | [], _, _, h, e => by cases h; cases e; exact .nil
  | d :: ds, _, xs, h, e => by
    cases h with
    | cons h1 h2 =>
      cases q1 : D.py d with
      | none => simp [pys, q1] at e
      | some x =>
        cases q2 : pys ds with
        | none => simp [pys, q1, q2] at e
        | some ys =>
          simp only [pys, q1, q2, Option.some.injEq] at e
          subst e
          exact .cons (Rep.dp d _ x h1 q1) (Reps.dp ds _ ys h2 q2)
end
end
mutual
theorem dp_mono {K : PySem.W.Frag} {S S' : Hp} (e : Same S S') : ∀ (x : PyData) (v : V), Dp K S v x → Dp K S' v x
  | .none, _, h => by cases h; exact .non
  | .bool b, _, h => by cases h; exact .bl b
  | .int i, _, h => by cases h; exact .int i
  | .str s, _, h => by cases h; exact .str s
  | .list xs, _, h => by
    cases h with
    | lst h1 h2 => exact .lst (sqL_mono (G := ⟨K, fun _ => 0, []⟩) e h1) (dpAll_mono e xs _ h2)
  | .tuple xs, _, h => by
    cases h with
    | tup h1 h2 => exact .tup (sqT_mono (G := ⟨K, fun _ => 0, []⟩) e h1) (dpAll_mono e xs _ h2)
  | .dict _, _, h => by cases h
theorem dpAll_mono {K : PySem.W.Frag} {S S' : Hp} (e : Same S S') : ∀ (xs : List PyData) (vs : List V), DpAll K S vs xs → DpAll K S' vs xs
  | [], _, h => by cases h; exact .nil
  | x :: xs, _, h => by
    cases h with
    | cons h1 h2 => exact .cons (dp_mono e x _ h1) (dpAll_mono e xs _ h2)
end
theorem RepH.dp_ {G : Gd} {z : Z} {τ : Store} (c : Cells G z τ) {d : D} {v : V} {x : PyData} (r : RepH G z d v) (e : d.py = some x) : Dp G.K z.H v x := by
  cases r with
  | sh h => exact dp_mono c.sub _ _ (Rep.dp _ _ _ h e)
  | lst h1 h2 =>
    rename_i a vs ds
    cases q : pys ds with
    | none => simp [D.py, q] at e
    | some xs =>
      simp only [D.py, q, Option.map_some, Option.some.injEq] at e
      subst e
      exact .lst (SqL.of h1) (dpAll_mono c.sub _ _ (Reps.dp ds _ xs h2 q))
  | dct h1 h2 => cases e
  | ins h1 h2 => cases e

/-! ### operators by data -/
def oAdd (own : Bool) : D → D → Store → R U
  | .int i, .int j, τ => .ok (.d (.int (i + j))) τ
  | .str a, .str b, τ => if a.length + b.length ≤ sizeLine then .ok (.d (.str (a ++ b))) τ else .bad
  | .lst a, .lst b, τ => if a.length + b.length ≤ sizeLine then allocL own (a ++ b) τ else .bad
  | .tup a, .tup b, τ => if a.length + b.length ≤ sizeLine then .ok (.d (.tup (a ++ b))) τ else .bad
  | _, _, _ => .bad
def oSub : D → D → Store → R U
  | .int i, .int j, τ => .ok (.d (.int (i - j))) τ
  | _, _, _ => .bad
def oMul : D → D → Store → R U
  | .int i, .int j, τ => if (-(2 ^ 64) < i ∧ i < 2 ^ 64) ∨ (-(2 ^ 64) < j ∧ j < 2 ^ 64) then .ok (.d (.int (i * j))) τ else .bad
  | _, _, _ => .bad
def oMod : D → D → Store → R U
  | .int i, .int j, τ => if 0 < j then .ok (.d (.int (i % j))) τ else .bad
  | _, _, _ => .bad
def oDiv : D → D → Store → R U
  | .int i, .int j, τ => if 0 < j ∧ j < 1073741824 then .ok (.d (.int (i / j))) τ else .bad
  | _, _, _ => .bad
def oPow : D → D → Store → R U
  | .int i, .int j, τ => if 0 ≤ j ∧ j ≤ 1000000 ∧ i.natAbs < 2 ^ 64 then .ok (.d (.int (i ^ j.toNat))) τ else .bad
  | _, _, _ => .bad
theorem s_append (a b : T) : a.s ++ b.s = T.s (a ++ b) := by
  show (⟨a.toArray ++ b.toArray⟩ : Str) = ⟨(a ++ b).toArray⟩
  simp
def rAdd' (K : PySem.W.Frag) : R2 := fun x y H Q => (∃ i j, x = .int i ∧ y = .int j ∧ Q (.int (i + j)) H) ∨ ((∃ i j, x = .str i ∧ y = .str j ∧ i.length + j.length ≤ sizeLine ∧ Q (.str (i ++ j)) H) ∨ (rCat x y H Q ∨ rCatA K x y H Q))
theorem op_add' {X : Cx} : OpR X (binaryOp .Add) (rAdd' X.K) := OpR.or op_add (OpR.or op_add_str (OpR.or op_cat op_catA))
section
variable {G : Gd}
theorem s_add {own : Bool} : OpS G (oAdd own) (rAdd' G.K) := by
  intro z a b τ x y W Q c ra rb q
  cases a <;> cases b <;> first | exact q.elim | skip
  · rw [ra.int_, rb.int_]
    exact .inl ⟨_, _, rfl, rfl, Run.ok (rep := RepU G) q c (.d (.int _))⟩
  · rename_i s t
    rw [ra.str_, rb.str_]
    simp only [oAdd] at q
    split at q
    · rename_i h
      refine .inr (.inl ⟨_, _, rfl, rfl, by rw [T.len, T.len]; exact h, ?_⟩)
      rw [s_append]
      exact Run.ok (rep := RepU G) q c (.d (.str _))
    · exact q.elim
  · rename_i as bs
    obtain ⟨p, vs, rfl, h1, h2⟩ := ra.tup_ c
    obtain ⟨p', vs', rfl, h1', h2'⟩ := rb.tup_ c
    simp only [oAdd] at q
    split at q
    · rename_i h
      refine .inr (.inr (.inr ⟨_, _, _, _, rfl, rfl, h1, h1', by rw [← h2.length, ← h2'.length]; exact h, fun e => ?_, fun _ e => ?_, fun _ _ p hp => alloc_tup c hp (h2.append h2') q⟩))
      · subst e
        cases h2
        refine Run.ok (rep := RepU G) q c (.d ?_)
        cases rb with
        | sh r => exact r
      · subst e
        cases h2'
        rw [List.append_nil] at q
        refine Run.ok (rep := RepU G) q c (.d ?_)
        cases ra with
        | sh r => exact r
    · exact q.elim
  · rename_i as bs
    obtain ⟨p, vs, rfl, h1, h2⟩ := ra.lst_ c
    obtain ⟨p', vs', rfl, h1', h2'⟩ := rb.lst_ c
    simp only [oAdd] at q
    split at q
    · rename_i h
      exact .inr (.inr (.inl ⟨_, _, _, _, rfl, rfl, h1, h1', by rw [← h2.length, ← h2'.length]; exact h, fun p hp => alloc_lst c hp (h2.append h2') q⟩))
    · exact q.elim
theorem s_int0 {g : Int → Int → V} {o : D → D → Store → R U} {h : Int → Int → D} (hr : ∀ S i j, Rep G S (h i j) (g i j)) (e : ∀ a b τ, o a b τ = .bad ∨ ∃ i j, a = .int i ∧ b = .int j ∧ o a b τ = .ok (.d (h i j)) τ) : OpS G o (rI0 g) := by
  intro z a b τ x y W Q c ra rb q
  rcases e a b τ with e | ⟨i, j, rfl, rfl, e⟩
  · rw [e] at q; exact q.elim
  · rw [e] at q
    rw [ra.int_, rb.int_]
    exact ⟨i, j, rfl, rfl, Run.ok (rep := RepU G) q c (.d (hr _ i j))⟩
theorem s_int1 {C : Int → Int → Prop} {g : Int → Int → V} {o : D → D → Store → R U} {h : Int → Int → D} (hr : ∀ S i j, Rep G S (h i j) (g i j)) (e : ∀ a b τ, o a b τ = .bad ∨ ∃ i j, a = .int i ∧ b = .int j ∧ C i j ∧ o a b τ = .ok (.d (h i j)) τ) : OpS G o (rI C g) := by
  intro z a b τ x y W Q c ra rb q
  rcases e a b τ with e | ⟨i, j, rfl, rfl, hc, e⟩
  · rw [e] at q; exact q.elim
  · rw [e] at q
    rw [ra.int_, rb.int_]
    exact ⟨i, j, rfl, rfl, hc, Run.ok (rep := RepU G) q c (.d (hr _ i j))⟩
theorem s_sub : OpS G oSub (rI0 fun i j => .int (i - j)) := s_int0 (h := fun i j => .int (i - j)) (fun _ _ _ => .int _) fun a b τ => by
  cases a <;> cases b <;> first | exact .inl rfl | exact .inr ⟨_, _, rfl, rfl, rfl⟩
theorem s_mul : OpS G oMul (rI CMul fun i j => .int (i * j)) := s_int1 (h := fun i j => .int (i * j)) (fun _ _ _ => .int _) fun a b τ => by
  cases a <;> cases b <;> first | exact .inl rfl | skip
  simp only [oMul]
  split
  · rename_i h
    exact .inr ⟨_, _, rfl, rfl, h, rfl⟩
  · exact .inl rfl
theorem s_mod : OpS G oMod (rI (fun _ j => 0 < j) fun i j => .int (i % j)) := s_int1 (h := fun i j => .int (i % j)) (fun _ _ _ => .int _) fun a b τ => by
  cases a <;> cases b <;> first | exact .inl rfl | skip
  simp only [oMod]
  split
  · rename_i h
    exact .inr ⟨_, _, rfl, rfl, h, rfl⟩
  · exact .inl rfl
theorem s_div : OpS G oDiv (rI CDiv fun i j => .int (i / j)) := s_int1 (h := fun i j => .int (i / j)) (fun _ _ _ => .int _) fun a b τ => by
  cases a <;> cases b <;> first | exact .inl rfl | skip
  simp only [oDiv]
  split
  · rename_i h
    exact .inr ⟨_, _, rfl, rfl, h, rfl⟩
  · exact .inl rfl
theorem s_pow : OpS G oPow (rI CPow fun i j => .int (i ^ j.toNat)) := s_int1 (h := fun i j => .int (i ^ j.toNat)) (fun _ _ _ => .int _) fun a b τ => by
  cases a <;> cases b <;> first | exact .inl rfl | skip
  simp only [oPow]
  split
  · rename_i h
    exact .inr ⟨_, _, rfl, rfl, h, rfl⟩
  · exact .inl rfl
end

/-! ### comparisons by data -/
def shp (x : PyData) : Bool := SeqAt.shaped x
def oEq : D → D → Store → R U
  | .int i, .int j, τ => .ok (.d (.bl (decide (i = j)))) τ
  | .str a, .str b, τ => .ok (.d (.bl (decide (a = b)))) τ
  | .bl a, .bl b, τ => .ok (.d (.bl (decide (a = b)))) τ
  | a, b, τ => match a.py, b.py with
    | some x, some y => if shp x = true ∧ shp y = true then .ok (.d (.bl (PyData.eqv x y))) τ else .bad
    | _, _ => .bad
def bNot : R U → R U
  | .ok (.d (.bl b)) τ => .ok (.d (.bl (!b))) τ
  | _ => .bad
def oNe (a b : D) (τ : Store) : R U := bNot (oEq a b τ)
def rEq' (K : PySem.W.Frag) : R2 := fun x y H Q => rEq x y H Q ∨ rEqD K x y H Q
def rNe' (K : PySem.W.Frag) : R2 := fun x y H Q => rNe x y H Q ∨ rNeD K x y H Q
theorem op_eq' {X : Cx} (hu : X.A.units + 64 < cLine) : OpR X (compareOp .Eq) (rEq' X.K) := OpR.or op_eq (op_eqD hu)
theorem op_ne' {X : Cx} (hu : X.A.units + 64 < cLine) : OpR X (compareOp .NotEq) (rNe' X.K) := OpR.or op_ne (op_neD hu)
theorem dec_s {a b : T} : decide (V.str a.s = V.str b.s) = decide (a = b) := by
  by_cases h : a = b
  · subst h; simp
  · rw [decide_eq_false h, decide_eq_false]
    intro q
    exact h (T.inj (V.str.inj q))
/-- the ways of == -/
theorem oEq_ways (G : Gd) (z : Z) (a b : D) (τ : Store) {x y : V} (c : Cells G z τ) (ra : RepH G z a x) (rb : RepH G z b y) :
    oEq a b τ = .bad ∨ (∃ k, oEq a b τ = .ok (.d (.bl k)) τ ∧ scal x y = true ∧ decide (x = y) = k) ∨
      ∃ d e, Dp G.K z.H x d ∧ Dp G.K z.H y e ∧ SeqAt.shaped d = true ∧ SeqAt.shaped e = true ∧ oEq a b τ = .ok (.d (.bl (PyData.eqv d e))) τ := by
  have gen : ∀ r : R U, r = (match a.py, b.py with
    | some x, some y => if shp x = true ∧ shp y = true then .ok (.d (.bl (PyData.eqv x y))) τ else .bad
    | _, _ => .bad) → r = .bad ∨ (∃ k, r = .ok (.d (.bl k)) τ ∧ scal x y = true ∧ decide (x = y) = k) ∨
      ∃ d e, Dp G.K z.H x d ∧ Dp G.K z.H y e ∧ SeqAt.shaped d = true ∧ SeqAt.shaped e = true ∧ r = .ok (.d (.bl (PyData.eqv d e))) τ := by
    intro r hr
    subst hr
    cases e1 : a.py with
    | none => exact .inl rfl
    | some d =>
      cases e2 : b.py with
      | none => exact .inl rfl
      | some e =>
        by_cases h : shp d = true ∧ shp e = true
        · exact .inr (.inr ⟨d, e, ra.dp_ c e1, rb.dp_ c e2, h.1, h.2, if_pos h⟩)
        · exact .inl (if_neg h)
  cases a <;> cases b <;> first
    | exact gen _ rfl
    | (rw [ra.int_, rb.int_]; exact .inr (.inl ⟨_, rfl, rfl, by simp⟩))
    | (rw [ra.str_, rb.str_]; exact .inr (.inl ⟨_, rfl, rfl, dec_s⟩))
    | (rw [ra.bl_, rb.bl_]; exact .inr (.inl ⟨_, rfl, rfl, by simp⟩))
section
variable {G : Gd}
theorem s_eq : OpS G oEq (rEq' G.K) := by
  intro z a b τ x y W Q c ra rb q
  rcases oEq_ways G z a b τ c ra rb with e | ⟨k, e, h1, h2⟩ | ⟨d, e', h1, h2, h3, h4, e⟩
  · rw [e] at q; exact q.elim
  · rw [e] at q
    refine .inl ⟨h1, ?_⟩
    rw [h2]
    exact Run.ok (rep := RepU G) q c (.d (.bl _))
  · rw [e] at q
    exact .inr ⟨d, e', h1, h2, h3, h4, Run.ok (rep := RepU G) q c (.d (.bl _))⟩
theorem s_ne : OpS G oNe (rNe' G.K) := by
  intro z a b τ x y W Q c ra rb q
  unfold oNe at q
  rcases oEq_ways G z a b τ c ra rb with e | ⟨k, e, h1, h2⟩ | ⟨d, e', h1, h2, h3, h4, e⟩
  · rw [e] at q; exact q.elim
  · rw [e] at q
    refine .inl ⟨h1, ?_⟩
    rw [h2]
    exact Run.ok (rep := RepU G) (a := U.d (.bl (!k))) q c (.d (.bl _))
  · rw [e] at q
    exact .inr ⟨d, e', h1, h2, h3, h4, Run.ok (rep := RepU G) (a := U.d (.bl (!PyData.eqv d e'))) q c (.d (.bl _))⟩
end
def oLt : D → D → Store → R U
  | .int i, .int j, τ => .ok (.d (.bl (decide (i < j)))) τ
  | .str a, .str b, τ => .ok (.d (.bl (decide (a < b)))) τ
  | _, _, _ => .bad
def oLe : D → D → Store → R U
  | .int i, .int j, τ => .ok (.d (.bl (decide (i ≤ j)))) τ
  | .str a, .str b, τ => .ok (.d (.bl (!decide (b < a)))) τ
  | _, _, _ => .bad
def oGt : D → D → Store → R U
  | .int i, .int j, τ => .ok (.d (.bl (decide (j < i)))) τ
  | .str a, .str b, τ => .ok (.d (.bl (decide (b < a)))) τ
  | _, _, _ => .bad
def oGe : D → D → Store → R U
  | .int i, .int j, τ => .ok (.d (.bl (decide (j ≤ i)))) τ
  | .str a, .str b, τ => .ok (.d (.bl (!decide (a < b)))) τ
  | _, _, _ => .bad
def rS (g : Str → Str → Bool) : R2 := fun x y H Q => ∃ i j, x = .str i ∧ y = .str j ∧ Q (.bl (g i j)) H
section
variable {G : Gd} {X : Cx}
theorem s_is {gi : Int → Int → Bool} {gs : Str → Str → Bool} {gt : T → T → Bool} {o : D → D → Store → R U} (ht : ∀ a b, gs (T.s a) (T.s b) = gt a b)
    (e : ∀ a b τ, o a b τ = .bad ∨ (∃ i j, a = .int i ∧ b = .int j ∧ o a b τ = .ok (.d (.bl (gi i j))) τ) ∨ ∃ s t, a = .str s ∧ b = .str t ∧ o a b τ = .ok (.d (.bl (gt s t))) τ) :
    OpS G o (fun x y H Q => rI0 (fun i j => .bl (gi i j)) x y H Q ∨ rS gs x y H Q) := by
  intro z a b τ x y W Q c ra rb q
  rcases e a b τ with e | ⟨i, j, rfl, rfl, e⟩ | ⟨s, t, rfl, rfl, e⟩
  · rw [e] at q; exact q.elim
  · rw [e] at q
    rw [ra.int_, rb.int_]
    exact .inl ⟨i, j, rfl, rfl, Run.ok (rep := RepU G) q c (.d (.bl _))⟩
  · rw [e] at q
    rw [ra.str_, rb.str_]
    refine .inr ⟨_, _, rfl, rfl, ?_⟩
    rw [ht]
    exact Run.ok (rep := RepU G) q c (.d (.bl _))
theorem op_lt' : OpR X (compareOp .Lt) (fun x y H Q => rI0 (fun i j => .bl (decide (i < j))) x y H Q ∨ rS (fun i j => decide (i.cps.toList < j.cps.toList)) x y H Q) := OpR.or op_lt op_lt_str
theorem op_le' : OpR X (compareOp .LtE) (fun x y H Q => rI0 (fun i j => .bl (decide (i ≤ j))) x y H Q ∨ rS (fun i j => !decide (j.cps.toList < i.cps.toList)) x y H Q) := OpR.or op_le op_le_str
theorem op_gt' : OpR X (compareOp .Gt) (fun x y H Q => rI0 (fun i j => .bl (decide (j < i))) x y H Q ∨ rS (fun i j => decide (j.cps.toList < i.cps.toList)) x y H Q) := OpR.or op_gt op_gt_str
theorem op_ge' : OpR X (compareOp .GtE) (fun x y H Q => rI0 (fun i j => .bl (decide (j ≤ i))) x y H Q ∨ rS (fun i j => !decide (i.cps.toList < j.cps.toList)) x y H Q) := OpR.or op_ge op_ge_str
theorem s_lt : OpS G oLt (fun x y H Q => rI0 (fun i j => .bl (decide (i < j))) x y H Q ∨ rS (fun i j => decide (i.cps.toList < j.cps.toList)) x y H Q) :=
  s_is (gi := fun i j => decide (i < j)) (gt := fun a b => decide (a < b)) (fun a b => rfl) fun a b τ => by
    cases a <;> cases b <;> first | exact .inl rfl | exact .inr (.inl ⟨_, _, rfl, rfl, rfl⟩) | exact .inr (.inr ⟨_, _, rfl, rfl, rfl⟩)
theorem s_le : OpS G oLe (fun x y H Q => rI0 (fun i j => .bl (decide (i ≤ j))) x y H Q ∨ rS (fun i j => !decide (j.cps.toList < i.cps.toList)) x y H Q) :=
  s_is (gi := fun i j => decide (i ≤ j)) (gt := fun a b => !decide (b < a)) (fun a b => rfl) fun a b τ => by
    cases a <;> cases b <;> first | exact .inl rfl | exact .inr (.inl ⟨_, _, rfl, rfl, rfl⟩) | exact .inr (.inr ⟨_, _, rfl, rfl, rfl⟩)
theorem s_gt : OpS G oGt (fun x y H Q => rI0 (fun i j => .bl (decide (j < i))) x y H Q ∨ rS (fun i j => decide (j.cps.toList < i.cps.toList)) x y H Q) :=
  s_is (gi := fun i j => decide (j < i)) (gt := fun a b => decide (b < a)) (fun a b => rfl) fun a b τ => by
    cases a <;> cases b <;> first | exact .inl rfl | exact .inr (.inl ⟨_, _, rfl, rfl, rfl⟩) | exact .inr (.inr ⟨_, _, rfl, rfl, rfl⟩)
theorem s_ge : OpS G oGe (fun x y H Q => rI0 (fun i j => .bl (decide (j ≤ i))) x y H Q ∨ rS (fun i j => !decide (i.cps.toList < j.cps.toList)) x y H Q) :=
  s_is (gi := fun i j => decide (j ≤ i)) (gt := fun a b => !decide (a < b)) (fun a b => rfl) fun a b τ => by
    cases a <;> cases b <;> first | exact .inl rfl | exact .inr (.inl ⟨_, _, rfl, rfl, rfl⟩) | exact .inr (.inr ⟨_, _, rfl, rfl, rfl⟩)
end

/-! ### in -/
def D.flat : D → Bool
  | .non => true | .bl _ => true | .int _ => true | .str _ => true
  | _ => false
/-- == of flat data -/
def eqF : D → D → Bool
  | .int i, .int j => decide (i = j)
  | .str a, .str b => decide (a = b)
  | .bl a, .bl b => decide (a = b)
  | .non, .non => true
  | .int i, .bl b => decide (i = if b then 1 else 0)
  | .bl b, .int i => decide (i = if b then 1 else 0)
  | _, _ => false
def inF (x : D) (ds : List D) : Bool := ds.any fun y => eqF y x
def oInG (neg : Bool) : D → D → Store → R U
  | .str [c], .str t, τ => .ok (.d (.bl (if neg then !decide (c ∈ t) else decide (c ∈ t)))) τ
  | x, d, τ => match d.seq with
    | some ds => if x.flat = true ∧ ds.all D.flat = true then .ok (.d (.bl (if neg then !inF x ds else inF x ds))) τ else .bad
    | none => .bad
def rInG (K : PySem.W.Frag) (neg : Bool) : R2 := fun x y H Q => (∃ (c : Nat) (z : Str), x = .str ⟨#[c]⟩ ∧ y = .str z ∧ Q (.bl (if neg then !decide (c ∈ z.cps.toList) else decide (c ∈ z.cps.toList))) H) ∨ rIn K neg x y H Q
theorem op_in' {X : Cx} : OpR X (compareOp .In) (rInG X.K false) := OpR.or op_in_sign op_in_seq
theorem op_nin' {X : Cx} : OpR X (compareOp .NotIn) (rInG X.K true) := OpR.or op_notIn_sign op_notIn_seq
section
variable {G : Gd} {z : Z} {S : Hp}
theorem flat_v {d : D} {v : V} (r : Rep G S d v) (h : d.flat = true) : flatV v = true := by
  cases r <;> first | rfl | exact absurd h Bool.false_ne_true
theorem flat_h {d : D} {v : V} (r : RepH G z d v) (h : d.flat = true) : Rep G z.S d v := by
  cases r with
  | sh h => exact h
  | lst _ _ => exact absurd h Bool.false_ne_true
  | dct _ _ => exact absurd h Bool.false_ne_true
  | ins _ _ => exact absurd h Bool.false_ne_true
theorem eqF_v {d e : D} {v w : V} (r : Rep G S d v) (r' : Rep G S e w) (h : d.flat = true) (h' : e.flat = true) : eqV v w = eqF d e := by
  cases r <;> first
    | exact absurd h Bool.false_ne_true
    | (cases r' <;> first
        | exact absurd h' Bool.false_ne_true
        | rfl
        | (simp [eqV, eqF]; done)
        | (rename_i a b; show (T.s a == T.s b) = decide (a = b); by_cases e : a = b
           · subst e; simp
           · rw [decide_eq_false e]; exact beq_eq_false_iff_ne.mpr fun q => e (T.inj q))
        | (simp only [eqV, eqF]; rename_i i b; cases b <;> simp <;> (try rw [Bool.eq_iff_iff]) <;> simp <;> (try omega))
        | (simp only [eqV, eqF]; rename_i b i; cases b <;> simp <;> (try rw [Bool.eq_iff_iff]) <;> simp <;> (try omega)))
theorem flats_v : ∀ {ds : List D} {vs : List V}, Reps G S ds vs → ds.all D.flat = true → vs.all flatV = true
  | _, _, .nil, _ => rfl
  | _, _, .cons r t, h => by
    simp only [List.all_cons, Bool.and_eq_true] at h ⊢
    exact ⟨flat_v r h.1, flats_v t h.2⟩
theorem inF_v {x : D} {v : V} (rx : Rep G S x v) (hx : x.flat = true) : ∀ {ds : List D} {vs : List V}, Reps G S ds vs → ds.all D.flat = true → inV v vs = inF x ds
  | _, _, .nil, _ => rfl
  | _, _, .cons r t, h => by
    simp only [List.all_cons, Bool.and_eq_true] at h
    have ih := inF_v rx hx t h.2
    unfold inV inF at ih ⊢
    rw [List.any_cons, List.any_cons, ih, eqF_v r rx h.1 hx]
theorem s_inG {neg : Bool} : OpS G (oInG neg) (rInG G.K neg) := by
  intro z a b τ x y W Q c ra rb q
  have gen : Run G (RepU G) (match b.seq with
    | some ds => if a.flat = true ∧ ds.all D.flat = true then .ok (.d (.bl (if neg then !inF a ds else inF a ds))) τ else .bad
    | none => .bad) W z Q → rInG G.K neg x y z.H Q := by
    intro q
    cases e : b.seq with
    | none => rw [e] at q; exact q.elim
    | some ds =>
      rw [e] at q
      have q : Run G (RepU G) (if a.flat = true ∧ ds.all D.flat = true then .ok (.d (.bl (if neg then !inF a ds else inF a ds))) τ else .bad) W z Q := q
      by_cases h : a.flat = true ∧ ds.all D.flat = true
      · rw [if_pos h] at q
        obtain ⟨p, vs, rfl, h1, h2⟩ := rb.seq_ c e
        refine .inr ⟨p, vs, rfl, h1, flat_v (flat_h ra h.1) h.1, flats_v h2 h.2, ?_⟩
        rw [inF_v (flat_h ra h.1) h.1 h2 h.2]
        exact Run.ok (rep := RepU G) q c (.d (.bl _))
      · rw [if_neg h] at q; exact q.elim
  unfold oInG at q
  split at q
  · rw [ra.str_, rb.str_]
    exact .inl ⟨_, _, rfl, rfl, Run.ok (rep := RepU G) q c (.d (.bl _))⟩
  · exact gen q
end
/-- is None, is not None -/
def isN : D → Bool
  | .non => true
  | _ => false
def eIs (neg : Bool) (fa : EV) : EV := fun ρ τ => (fa ρ τ).bind fun u τ1 => match u with
  | .d x => .ok (.d (.bl (if neg then !isN x else isN x))) τ1
  | .loc _ => .ok (.d (.bl neg)) τ1
theorem isN_v {G : Gd} {S : Hp} {d : D} {v : V} (r : Rep G S d v) : decide (v = .non) = isN d := by
  cases r <;> rfl
section
variable {X : Cx} {G : Gd} {W : WX} {a : Expr} {fa : EV} {pos p2 : Pos}
theorem v_isN {j} (ha : PE X a (VE G W fa)) : PE X (.Compare a [.Is] [.Constant .none j p2] pos) (VE G W (eIs false fa)) :=
  ve_step1 (pe_cmp (pc_isN ha) rfl) (r := fun x H Q => Q (.bl (decide (x = .non))) H) (fun _ _ _ h => h) fun z u τ v W Q c r q => by
    cases r with
    | d r => rw [isN_v r]; exact Run.ok (rep := RepU G) q c (.d (.bl _))
    | loc h => exact Run.ok (rep := RepU G) q c (.d (.bl _))
theorem v_notN {j} (ha : PE X a (VE G W fa)) : PE X (.Compare a [.IsNot] [.Constant .none j p2] pos) (VE G W (eIs true fa)) :=
  ve_step1 (pe_cmp (pc_notN ha) rfl) (r := fun x H Q => Q (.bl (!decide (x = .non))) H) (fun _ _ _ h => h) fun z u τ v W Q c r q => by
    cases r with
    | d r => rw [isN_v r]; exact Run.ok (rep := RepU G) q c (.d (.bl _))
    | loc h => exact Run.ok (rep := RepU G) q c (.d (.bl _))
theorem vb_isN {j} (ha : PE X a (VE G W fa)) : PT X (.Compare a [.Is] [.Constant .none j p2] pos) (VB G W (bOf (eIs false fa))) :=
  vb_tB (pt_cmp (pc_isN ha) rfl) fun σ H Q ⟨z, ρ, τ, hz, c, en, q⟩ => ⟨z, ρ, τ, hz, c, en, (Run.bind q).imp fun v H1 ⟨z1, u, τ1, e1, f, c1, r1, q1⟩ => by
    subst e1
    cases r1 with
    | d r => rw [isN_v r]; exact Run.ok (rep := RepU G) q1 c1 (.d (.bl _))
    | loc h => exact Run.ok (rep := RepU G) q1 c1 (.d (.bl _))⟩
theorem vb_notN {j} (ha : PE X a (VE G W fa)) : PT X (.Compare a [.IsNot] [.Constant .none j p2] pos) (VB G W (bOf (eIs true fa))) :=
  vb_tB (pt_cmp (pc_notN ha) rfl) fun σ H Q ⟨z, ρ, τ, hz, c, en, q⟩ => ⟨z, ρ, τ, hz, c, en, (Run.bind q).imp fun v H1 ⟨z1, u, τ1, e1, f, c1, r1, q1⟩ => by
    subst e1
    cases r1 with
    | d r => rw [isN_v r]; exact Run.ok (rep := RepU G) q1 c1 (.d (.bl _))
    | loc h => exact Run.ok (rep := RepU G) q1 c1 (.d (.bl _))⟩
end
end VL

/-! The value layer, 4: truth, displays, subscripts, arguments, built-in calls and methods. -/
namespace VL
open PySem PySem.Spec PyProof.Rows L2 LamX

/-! ### and, or, not, if-else -/
def bAnd (f g : EB) : EB := fun ρ τ => (f ρ τ).bind fun b τ1 => if b then g ρ τ1 else .ok false τ1
def bOr (f g : EB) : EB := fun ρ τ => (f ρ τ).bind fun b τ1 => if b then .ok true τ1 else g ρ τ1
def bNeg (f : EB) : EB := fun ρ τ => (f ρ τ).bind fun b τ1 => .ok (!b) τ1
def eAnd (f g : EV) : EV := fun ρ τ => (f ρ τ).bind fun u τ1 => match u with
  | .d (.bl true) => g ρ τ1
  | .d (.bl false) => .ok (.d (.bl false)) τ1
  | _ => .bad
def eOr (f g : EV) : EV := fun ρ τ => (f ρ τ).bind fun u τ1 => match u with
  | .d (.bl false) => g ρ τ1
  | .d (.bl true) => .ok (.d (.bl true)) τ1
  | _ => .bad
def eNot (f : EV) : EV := fun ρ τ => (f ρ τ).bind fun u τ1 => match u with
  | .d (.bl b) => .ok (.d (.bl (!b))) τ1
  | _ => .bad
def eIf (t : EB) (f g : EV) : EV := fun ρ τ => (t ρ τ).bind fun b τ1 => if b then f ρ τ1 else g ρ τ1
section
variable {X : Cx} {G : Gd} {W : WX} {a b c : Expr} {rest : List Expr} {fa fb : EV} {ta tb : EB} {pos : Pos}
theorem wb_and1 (ha : PT X a (VB G W ta)) : PW X (.BoolOp .And [a] pos) (VB G W ta) := pw_and1 ha
theorem wb_or1 (ha : PT X a (VB G W ta)) : PW X (.BoolOp .Or [a] pos) (VB G W ta) := pw_or1 ha
theorem wb_and (ha : PT X a (VB G W ta)) (hb : PW X (.BoolOp .And (b :: rest) pos) (VB G W tb)) : PW X (.BoolOp .And (a :: b :: rest) pos) (VB G W (bAnd ta tb)) := by
  refine pw_weak (pw_and ha hb) fun σ H Q ⟨z, ρ, τ, hz, c, en, q⟩ => ⟨z, ρ, τ, hz, c, en, (Run.bind q).imp fun k H1 ⟨z1, k', τ1, e1, f, c1, r1, q1⟩ => ?_⟩
  subst e1
  have r1 : k' = k := r1
  subst r1
  cases k' with
  | true => exact ⟨z1, ρ, τ1, rfl, c1, en.fut f, q1⟩
  | false => exact Run.ok (rep := EqRep) q1 c1 rfl
theorem wb_or (ha : PT X a (VB G W ta)) (hb : PW X (.BoolOp .Or (b :: rest) pos) (VB G W tb)) : PW X (.BoolOp .Or (a :: b :: rest) pos) (VB G W (bOr ta tb)) := by
  refine pw_weak (pw_or ha hb) fun σ H Q ⟨z, ρ, τ, hz, c, en, q⟩ => ⟨z, ρ, τ, hz, c, en, (Run.bind q).imp fun k H1 ⟨z1, k', τ1, e1, f, c1, r1, q1⟩ => ?_⟩
  subst e1
  have r1 : k' = k := r1
  subst r1
  cases k' with
  | false => exact ⟨z1, ρ, τ1, rfl, c1, en.fut f, q1⟩
  | true => exact Run.ok (rep := EqRep) q1 c1 rfl
theorem vb_not (ha : PT X a (VB G W ta)) : PT X (.UnaryOp .Not a pos) (VB G W (bNeg ta)) := by
  refine pt_weak (pt_not ha) fun σ H Q ⟨z, ρ, τ, hz, c, en, q⟩ => ⟨z, ρ, τ, hz, c, en, (Run.bind q).imp fun k H1 ⟨z1, k', τ1, e1, f, c1, r1, q1⟩ => ?_⟩
  subst e1
  have r1 : k' = k := r1
  subst r1
  exact Run.ok (rep := EqRep) q1 c1 rfl
theorem v_one {op} (h : PE X a (VE G W fa)) : PE X (.BoolOp op [a] pos) (VE G W fa) := pe_one h
theorem v_and (ha : PE X a (VE G W fa)) (hb : PE X (.BoolOp .And (b :: rest) pos) (VE G W fb)) : PE X (.BoolOp .And (a :: b :: rest) pos) (VE G W (eAnd fa fb)) := by
  refine pe_weak (pe_and ha hb) fun σ H Q ⟨z, ρ, τ, hz, c, en, q⟩ => ⟨z, ρ, τ, hz, c, en, (Run.bind q).imp fun v H1 ⟨z1, u, τ1, e1, f, c1, r1, q1⟩ => ?_⟩
  subst e1
  cases u with
  | loc n => exact q1.elim
  | d x =>
    cases x with
    | bl k =>
      cases r1 with
      | d r1 =>
        cases r1
        cases k with
        | true => exact ⟨true, rfl, ⟨z1, ρ, τ1, rfl, c1, en.fut f, q1⟩⟩
        | false => exact ⟨false, rfl, Run.ok (rep := RepU G) q1 c1 (.d (.bl _))⟩
    | _ => exact q1.elim
theorem v_or (ha : PE X a (VE G W fa)) (hb : PE X (.BoolOp .Or (b :: rest) pos) (VE G W fb)) : PE X (.BoolOp .Or (a :: b :: rest) pos) (VE G W (eOr fa fb)) := by
  refine pe_weak (pe_or ha hb) fun σ H Q ⟨z, ρ, τ, hz, c, en, q⟩ => ⟨z, ρ, τ, hz, c, en, (Run.bind q).imp fun v H1 ⟨z1, u, τ1, e1, f, c1, r1, q1⟩ => ?_⟩
  subst e1
  cases u with
  | loc n => exact q1.elim
  | d x =>
    cases x with
    | bl k =>
      cases r1 with
      | d r1 =>
        cases r1
        cases k with
        | true => exact ⟨true, rfl, Run.ok (rep := RepU G) q1 c1 (.d (.bl _))⟩
        | false => exact ⟨false, rfl, ⟨z1, ρ, τ1, rfl, c1, en.fut f, q1⟩⟩
    | _ => exact q1.elim
theorem v_not (ha : PE X a (VE G W fa)) : PE X (.UnaryOp .Not a pos) (VE G W (eNot fa)) := by
  refine pe_weak (pe_not ha) fun σ H Q ⟨z, ρ, τ, hz, c, en, q⟩ => ⟨z, ρ, τ, hz, c, en, (Run.bind q).imp fun v H1 ⟨z1, u, τ1, e1, f, c1, r1, q1⟩ => ?_⟩
  subst e1
  cases u with
  | loc n => exact q1.elim
  | d x =>
    cases x with
    | bl k =>
      cases r1 with
      | d r1 =>
        cases r1
        exact ⟨k, rfl, Run.ok (rep := RepU G) q1 c1 (.d (.bl _))⟩
    | _ => exact q1.elim
theorem v_if (hc : PT X c (VB G W ta)) (ha : PE X a (VE G W fa)) (hb : PE X b (VE G W fb)) : PE X (.IfExp c a b pos) (VE G W (eIf ta fa fb)) := by
  refine pe_weak (pe_ifExp hc ha hb) fun σ H Q ⟨z, ρ, τ, hz, c, en, q⟩ => ⟨z, ρ, τ, hz, c, en, (Run.bind q).imp fun k H1 ⟨z1, k', τ1, e1, f, c1, r1, q1⟩ => ?_⟩
  subst e1
  have r1 : k' = k := r1
  subst r1
  cases k' with
  | true => exact ⟨z1, ρ, τ1, rfl, c1, en.fut f, q1⟩
  | false => exact ⟨z1, ρ, τ1, rfl, c1, en.fut f, q1⟩
end
def eNeg (fa : EV) : EV := fun ρ τ => (fa ρ τ).bind fun u τ1 => match u with
  | .d (.int i) => .ok (.d (.int (-i))) τ1
  | _ => .bad
theorem v_neg {X : Cx} {G : Gd} {W : WX} {a : Expr} {fa : EV} {pos : Pos} (ha : PE X a (VE G W fa)) : PE X (.UnaryOp .USub a pos) (VE G W (eNeg fa)) :=
  ve_step1 (pe_un un_neg ha) (r := rU fun i => .int (-i)) (fun _ _ _ h => h) fun z u τ v W Q c r q => by
    cases u with
    | loc n => exact q.elim
    | d x =>
      cases x with
      | int i =>
        cases r with
        | d r => cases r; exact ⟨i, rfl, Run.ok (rep := RepU G) q c (.d (.int _))⟩
      | _ => exact q.elim
/-- a < b < c, from the two operators -/
def eChain (g g' : D → D → Store → R U) (fa fb fc : EV) : EV := fun ρ τ => (fa ρ τ).bind fun u τ1 => (fb ρ τ1).bind fun w τ2 => (opD g u w τ2).bind fun k τ3 => match k with
  | .d (.bl true) => (fc ρ τ3).bind fun x τ4 => opD g' w x τ4
  | .d (.bl false) => .ok (.d (.bl false)) τ3
  | _ => .bad
section
variable {X : Cx} {G : Gd} {W : WX} {a b c : Expr} {fa fb fc : EV} {pos : Pos} {op op' : CmpOp} {g g' : D → D → Store → R U} {r r' : R2}
/-- an operator whose answer is looked at -/
def OpB (G : Gd) (g : D → D → Store → R U) (r : R2) : Prop :=
  ∀ (z : Z) (u w : U) (τ : Store) (x y : V) (W : XK) (k : V → Hp → Prop), Cells G z τ → RepU G z u x → RepU G z w y → Run G (RepU G) (opD g u w τ) W z k → r x y z.H k
theorem chain_read (hs : OpS G g r) (hs' : OpS G g' r') {σ : L2.St} {H : Hp} {Q : VK} (h : VE G W (eChain g g' fa fb fc) σ H Q) : tChain r r' (VE G W fa) (VE G W fb) (VE G W fc) σ H Q := by
  obtain ⟨z, ρ, τ, hz, c, en, q⟩ := h
  refine ⟨z, ρ, τ, hz, c, en, (Run.bind q).imp fun x H1 ⟨z1, u, τ1, e1, f, c1, r1, q1⟩ => ?_⟩
  subst e1
  refine ⟨z1, ρ, τ1, rfl, c1, en.fut f, (Run.bind q1).imp fun y H2 ⟨z2, w, τ2, e2, f2, c2, r2, q2⟩ => ?_⟩
  subst e2
  refine opD_run hs z2 u w τ2 x y _ _ c2 (r1.fut f2) r2 ((Run.bind q2).imp fun k H3 ⟨z3, kk, τ3, e3, f3, c3, r3, q3⟩ => ?_)
  subst e3
  cases kk with
  | loc n => exact q3.elim
  | d kx =>
    cases kx with
    | bl kb =>
      cases r3 with
      | d r3 =>
        cases r3
        cases kb with
        | false => exact ⟨false, rfl, Run.ok (rep := RepU G) q3 c3 (.d (.bl _))⟩
        | true =>
          refine ⟨true, rfl, ⟨z3, ρ, τ3, rfl, c3, (en.fut f).fut (f2.trans f3), (Run.bind q3).imp fun w' H4 ⟨z4, u4, τ4, e4, f4, c4, r4, q4⟩ => ?_⟩⟩
          subst e4
          exact opD_run hs' z4 w u4 τ4 y w' _ _ c4 (r2.fut (f3.trans f4)) r4 q4
    | _ => exact q3.elim
theorem v_chain (ho : OpR X (compareOp op) r) (ho' : OpR X (compareOp op') r') (hs : OpS G g r) (hs' : OpS G g' r') (ha : PE X a (VE G W fa)) (hb : PE X b (VE G W fb)) (hc : PE X c (VE G W fc))
    (hm : lastMarks [op, op'] [b, c] = false := by with_unfolding_all rfl) : PE X (.Compare a [op, op'] [b, c] pos) (VE G W (eChain g g' fa fb fc)) :=
  pe_weak (pe_chain ho ho' ha hb hc hm) fun _ _ _ h => chain_read hs hs' h
theorem vb_chain (ho : OpR X (compareOp op) r) (ho' : OpR X (compareOp op') r') (hs : OpS G g r) (hs' : OpS G g' r') (ha : PE X a (VE G W fa)) (hb : PE X b (VE G W fb)) (hc : PE X c (VE G W fc))
    (hm : lastMarks [op, op'] [b, c] = false := by with_unfolding_all rfl) : PT X (.Compare a [op, op'] [b, c] pos) (VB G W (bOf (eChain g g' fa fb fc))) :=
  vb_tB (pt_chain ho ho' ha hb hc hm) fun _ _ _ h => chain_read hs hs' h
end

/-! ### arguments -/
def elNil : EL := fun _ τ => .ok [] τ
def elCons (fa : EV) (fr : EL) : EL := fun ρ τ => (fa ρ τ).bind fun u τ1 => (fr ρ τ1).bind fun us τ2 => .ok (u :: us) τ2
section
variable {X : Cx} {G : Gd} {W : WX} {e : Expr} {es : List Expr} {fa : EV} {fr : EL} {pos : Pos}
theorem va_nil : PA X [] (VA G W elNil) := pa_weak pa_nil fun σ H Q ⟨z, ρ, τ, hz, c, en, q⟩ => by
  subst hz
  exact Run.ok (rep := RepUs G) q c .nil
theorem va_cons (ha : PE X e (VE G W fa)) (hr : PA X es (VA G W fr)) (hs : starEach (e :: es) X.env = (false, eval e X.env) :: starEach es X.env := by rfl) : PA X (e :: es) (VA G W (elCons fa fr)) := by
  refine pa_weak (pa_cons ha hr hs) fun σ H Q ⟨z, ρ, τ, hz, c, en, q⟩ => ⟨z, ρ, τ, hz, c, en, (Run.bind q).imp fun x H1 ⟨z1, u, τ1, e1, f, c1, r1, q1⟩ => ?_⟩
  subst e1
  refine ⟨z1, ρ, τ1, rfl, c1, en.fut f, (Run.bind q1).imp fun xs H2 ⟨z2, us, τ2, e2, f2, c2, r2, q2⟩ => ?_⟩
  subst e2
  exact Run.ok (rep := RepUs G) q2 c2 (.cons (r1.fut f2) r2)
/-- an argument list, then a step on its values -/
theorem ve_stepA {x : Expr} {t : TE} {g : List U → Store → R U} {r : List V → Hp → VK → Prop} (h : PE X x t) (he : ∀ σ H Q, (VA G W fr) σ H (fun xs H1 => r xs H1 Q) → t σ H Q)
    (hr : ∀ (z : Z) (us : List U) (τ : Store) (vs : List V) (W : XK) (Q : VK), Cells G z τ → RepUs G z us vs → Run G (RepU G) (g us τ) W z Q → r vs z.H Q) : PE X x (VE G W fun ρ τ => (fr ρ τ).bind g) := by
  refine pe_weak h fun σ H Q ⟨z, ρ, τ, hz, c, en, q⟩ => he _ _ _ ⟨z, ρ, τ, hz, c, en, ?_⟩
  exact (Run.bind q).imp fun v H1 ⟨z1, u, τ1, e1, f, c1, r1, q1⟩ => by
    subst e1
    exact hr z1 u τ1 v _ Q c1 r1 q1
end
/-- all let go -/
def frzs (τ : Store) : List U → Option (List D × Store)
  | [] => some ([], τ)
  | u :: us => match frz τ u with
    | some (x, τ1) => match frzs τ1 us with
      | some (xs, τ2) => some (x :: xs, τ2)
      | none => none
    | none => none
theorem frzs_d (τ : Store) : ∀ xs : List D, frzs τ (xs.map U.d) = some (xs, τ)
  | [] => rfl
  | x :: xs => by simp [frzs, frzs_d τ xs]
@[simp] theorem frzs_nil (τ : Store) : frzs τ [] = some ([], τ) := rfl
@[simp] theorem frzs_cons_d (τ : Store) (x : D) (us : List U) : frzs τ (.d x :: us) = match frzs τ us with
      | some (xs, τ2) => some (x :: xs, τ2)
      | none => none := rfl
theorem frzs_ok {G : Gd} : ∀ {us : List U} {z : Z} {τ : Store} {vs : List V} {xs : List D} {τ' : Store}, Cells G z τ → RepUs G z us vs → frzs τ us = some (xs, τ') → ∃ z', z'.H = z.H ∧ Fut z z' ∧ Cells G z' τ' ∧ Reps G z'.S xs vs ∧ z'.ms = z.ms
  | [], z, τ, vs, xs, τ', c, r, e => by
    cases r
    cases e
    exact ⟨z, rfl, Fut.refl z, c, .nil, rfl⟩
  | u :: us, z, τ, vs, xs, τ', c, r, e => by
    cases r with
    | cons r1 r2 =>
      unfold frzs at e
      cases q1 : frz τ u with
      | none => rw [q1] at e; cases e
      | some p =>
        obtain ⟨x, τ1⟩ := p
        rw [q1] at e
        simp only at e
        cases q2 : frzs τ1 us with
        | none => rw [q2] at e; cases e
        | some p2 =>
          obtain ⟨ys, τ2⟩ := p2
          rw [q2] at e
          cases e
          obtain ⟨z1, h1, f1, c1, rx, m1⟩ := frz_ok c r1 q1
          obtain ⟨z2, h2, f2, c2, rs, m2⟩ := frzs_ok c1 (RepUs.fut f1 r2) q2
          exact ⟨z2, h2.trans h1, f1.trans f2, c2, .cons (Rep.mono f2.ss _ _ rx) rs, m2.trans m1⟩

/-! ### displays -/
def gTupD (us : List U) (τ : Store) : R U := match frzs τ us with
  | some (xs, τ1) => if xs.length ≤ sizeLine then .ok (.d (.tup xs)) τ1 else .bad
  | none => .bad
def gLstD (own : Bool) (us : List U) (τ : Store) : R U := match frzs τ us with
  | some (xs, τ1) => if xs.length ≤ sizeLine then allocL own xs τ1 else .bad
  | none => .bad
def eTup (fs : EL) : EV := fun ρ τ => (fs ρ τ).bind gTupD
def eLst (own : Bool) (fs : EL) : EV := fun ρ τ => (fs ρ τ).bind (gLstD own)
section
variable {X : Cx} {G : Gd} {W : WX} {es : List Expr} {fs : EL} {pos : Pos}
theorem v_tup {k} (h : PA X es (VA G W fs)) : PE X (.Tuple es k pos) (VE G W (eTup fs)) :=
  ve_stepA (pe_tup h) (r := fun xs H1 Q => xs.length ≤ sizeLine ∧ ∀ p, H1 p = none → Q (.ref p) (upd H1 p (.tup xs))) (fun _ _ _ h => h) fun z us τ vs W Q c r q => by
    unfold gTupD at q
    cases e : frzs τ us with
    | none => rw [e] at q; exact q.elim
    | some p =>
      obtain ⟨xs, τ1⟩ := p
      rw [e] at q
      obtain ⟨z1, h1, f1, c1, rs, m1⟩ := frzs_ok c r e
      have q : Run G (RepU G) (if xs.length ≤ sizeLine then .ok (.d (.tup xs)) τ1 else .bad) W z Q := q
      by_cases hl : xs.length ≤ sizeLine
      · rw [if_pos hl] at q
        refine ⟨by rw [← rs.length]; exact hl, fun p hp => ?_⟩
        rw [← h1] at hp ⊢
        exact alloc_tup c1 hp rs (q.pre f1)
      · rw [if_neg hl] at q; exact q.elim
theorem v_lst {own : Bool} (h : PA X es (VA G W fs)) : PE X (.List es pos) (VE G W (eLst own fs)) :=
  ve_stepA (pe_lst h) (r := fun xs H1 Q => xs.length ≤ sizeLine ∧ ∀ p, H1 p = none → Q (.ref p) (upd H1 p (.lst xs))) (fun _ _ _ h => h) fun z us τ vs W Q c r q => by
    unfold gLstD at q
    cases e : frzs τ us with
    | none => rw [e] at q; exact q.elim
    | some p =>
      obtain ⟨xs, τ1⟩ := p
      rw [e] at q
      obtain ⟨z1, h1, f1, c1, rs, m1⟩ := frzs_ok c r e
      have q : Run G (RepU G) (if xs.length ≤ sizeLine then allocL own xs τ1 else .bad) W z Q := q
      by_cases hl : xs.length ≤ sizeLine
      · rw [if_pos hl] at q
        refine ⟨by rw [← rs.length]; exact hl, fun p hp => ?_⟩
        rw [← h1] at hp ⊢
        exact alloc_lst c1 hp rs (q.pre f1)
      · rw [if_neg hl] at q; exact q.elim
end

/-! ### subscripts -/
theorem reps_atI {G : Gd} {S : Hp} {ds : List D} {vs : List V} {i : Int} {d : D} (r : Reps G S ds vs) (e : atI ds i = some d) : ∃ v, atI vs i = some v ∧ Rep G S d v := by
  unfold atI at e ⊢
  rw [r.length] at e
  cases q : ixN vs.length i with
  | none => rw [q] at e; cases e
  | some j =>
    rw [q] at e
    exact r.get e
def oIx : D → D → Store → R U
  | .str t, .int i, τ => match atI t i with
    | some c => if t.length ≤ sizeLine then .ok (.d (.str [c])) τ else .bad
    | none => .bad
  | d, .int i, τ => match d.seq with
    | some ds => match atI ds i with
      | some x => .ok (.d x) τ
      | none => .bad
    | none => .bad
  | _, _, _ => .bad
theorem s_ix {G : Gd} : OpS G oIx (rIx G.K) := by
  intro z a b τ x y W Q c ra rb q
  cases b with
  | int i =>
    rw [rb.int_]
    have gen : Run G (RepU G) (match a.seq with
      | some ds => match atI ds i with
        | some x => .ok (.d x) τ
        | none => .bad
      | none => .bad) W z Q → rIx G.K x (.int i) z.H Q := by
      intro q
      cases e : a.seq with
      | none => rw [e] at q; exact q.elim
      | some ds =>
        rw [e] at q
        simp only at q
        cases e2 : atI ds i with
        | none => rw [e2] at q; exact q.elim
        | some d =>
          rw [e2] at q
          obtain ⟨p, vs, rfl, h1, h2⟩ := ra.seq_ c e
          obtain ⟨v, h3, h4⟩ := reps_atI h2 e2
          rcases h1 with h1 | h1
          · exact .inl ⟨p, vs, i, v, rfl, rfl, h1, h3, Run.ok (rep := RepU G) q c (.d h4)⟩
          · exact .inr (.inl ⟨p, vs, i, v, rfl, rfl, h1, h3, Run.ok (rep := RepU G) q c (.d h4)⟩)
    cases a with
    | str t =>
      rw [ra.str_]
      simp only [oIx] at q
      cases e : atI t i with
      | none => rw [e] at q; exact q.elim
      | some cc =>
        rw [e] at q
        simp only at q
        by_cases hl : t.length ≤ sizeLine
        · rw [if_pos hl] at q
          exact .inr (.inr ⟨_, i, cc, rfl, rfl, by rw [T.len]; exact hl, e, Run.ok (rep := RepU G) (b := V.str ⟨#[cc]⟩) q c (.d (.str [cc]))⟩)
        · rw [if_neg hl] at q; exact q.elim
    | _ => exact gen q
  | _ => cases a <;> exact q.elim
def eIx (fa fb : EV) : EV := eOp oIx fa fb
theorem v_ix {X : Cx} {G : Gd} {W : WX} {a b : Expr} {fa fb : EV} {pos : Pos} (hK : X.K = G.K) (ha : PE X a (VE G W fa)) (hb : PE X b (VE G W fb)) (hp : PlainIx b) : PE X (.Subscript a b pos) (VE G W (eIx fa fb)) :=
  ve_step2 (pe_ix (r := rIx G.K) (hK ▸ ix_seq) ha hb hp) (fun _ _ _ h => h) (opD_run s_ix)
/-- the part of a list from lo to hi -/
def cut {α : Type} (l : List α) (lo hi : Option Int) : List α := (l.drop (HT.sIx l.length 0 lo)).take (HT.sIx l.length l.length hi - HT.sIx l.length 0 lo)
theorem reps_cut {G : Gd} {S : Hp} {ds : List D} {vs : List V} (r : Reps G S ds vs) (lo hi : Option Int) : Reps G S (cut ds lo hi) (cutV vs lo hi) := by
  unfold cut cutV
  rw [r.length]
  exact (r.drop _).take _
theorem cut_s (t : T) (lo hi : Option Int) : cutS t.s lo hi = T.s (cut t lo hi) := by
  unfold cutS cut
  rw [T.len]
  rfl
abbrev EO := Env → Store → R (Option Int)
def eoNone : EO := fun _ τ => .ok none τ
def eoSome (f : EV) : EO := fun ρ τ => (f ρ τ).bind fun u τ1 => match u with
  | .d (.int i) => .ok (some i) τ1
  | _ => .bad
def VO (G : Gd) (W : WX) (f : EO) : TO := fun σ H Q => ∃ z ρ τ, z.H = H ∧ Cells G z τ ∧ EnvR G z ρ σ ∧ Run G EqRep (f ρ τ) (fun c d H' => W c d σ H') z Q
section
variable {X : Cx} {G : Gd} {W : WX} {e : Expr} {lo hi : Option Expr} {fa : EV} {fl fh : EO} {pos p2 : Pos}
theorem vo_none : PO X none (VO G W eoNone) := ⟨fun pins s σ H Q I ⟨z, ρ, τ, hz, c, en, q⟩ => po_none.run pins s σ H Q I (by subst hz; exact Run.ok (rep := EqRep) q c rfl)⟩
theorem vo_some (h : PE X e (VE G W fa)) : PO X (some e) (VO G W (eoSome fa)) := ⟨fun pins s σ H Q I ⟨z, ρ, τ, hz, c, en, q⟩ => (po_some h).run pins s σ H Q I ⟨z, ρ, τ, hz, c, en, (Run.bind q).imp fun v H1 ⟨z1, u, τ1, e1, f, c1, r1, q1⟩ => by
  subst e1
  cases u with
  | loc n => exact q1.elim
  | d x =>
    cases x with
    | int i =>
      cases r1 with
      | d r1 => cases r1; exact ⟨i, rfl, Run.ok (rep := EqRep) q1 c1 rfl⟩
    | _ => exact q1.elim⟩⟩
def oSl (own : Bool) : D → Option Int → Option Int → Store → R U
  | .str t, lo, hi, τ => if t.length ≤ sizeLine then .ok (.d (.str (cut t lo hi))) τ else .bad
  | .lst ds, lo, hi, τ => allocL own (cut ds lo hi) τ
  | .fl ds, lo, hi, τ => allocL own (cut ds lo hi) τ
  | .tup ds, lo, hi, τ => .ok (.d (.tup (cut ds lo hi))) τ
  | _, _, _, _ => .bad
def gSl (own : Bool) (u : U) (lo hi : Option Int) (τ : Store) : R U := match vw τ u with
  | some d => oSl own d lo hi τ
  | none => .bad
def eSl (own : Bool) (fa : EV) (fl fh : EO) : EV := fun ρ τ => (fa ρ τ).bind fun u τ1 => (fl ρ τ1).bind fun l τ2 => (fh ρ τ2).bind fun h τ3 => gSl own u l h τ3
def rSlG (K : PySem.W.Frag) : V → Option Int → Option Int → Hp → VK → Prop := fun x lo hi H Q => rSlS x lo hi H Q ∨ (rSlL K x lo hi H Q ∨ rSlA K x lo hi H Q)
theorem sl_gen : SlR X (rSlG X.K) := SlR.or sl_str (SlR.or sl_list sl_tupA)
theorem cut_whole {α : Type} (xs : List α) {lo hi : Option Int} (h : HT.sIx xs.length 0 lo = 0 ∧ HT.sIx xs.length xs.length hi = xs.length) : cut xs lo hi = xs := by
  unfold cut
  rw [h.1, h.2]
  simp
theorem sl_read {own : Bool} (z : Z) (u : U) (lo hi : Option Int) (τ : Store) (v : V) (W : XK) (Q : VK) (c : Cells G z τ) (r : RepU G z u v) (q : Run G (RepU G) (gSl own u lo hi τ) W z Q) : rSlG G.K v lo hi z.H Q := by
  unfold gSl at q
  cases e : vw τ u with
  | none => rw [e] at q; exact q.elim
  | some d =>
    rw [e] at q
    have rh := vw_rep c r e
    cases d with
    | str t =>
      have q : Run G (RepU G) (if t.length ≤ sizeLine then .ok (.d (.str (cut t lo hi))) τ else .bad) W z Q := q
      by_cases hl : t.length ≤ sizeLine
      · rw [if_pos hl] at q
        rw [rh.str_]
        refine .inl ⟨_, rfl, by rw [T.len]; exact hl, ?_⟩
        rw [cut_s]
        exact Run.ok (rep := RepU G) q c (.d (.str _))
      · rw [if_neg hl] at q; exact q.elim
    | lst ds =>
      obtain ⟨a, vs, rfl, h1, h2⟩ := rh.lst_ c
      exact .inr (.inl ⟨a, vs, rfl, SqL.of h1, fun p hp => alloc_lst c hp (reps_cut h2 lo hi) q⟩)
    | fl ds =>
      obtain ⟨a, vs, rfl, h1, h2⟩ := rh.fl_ c
      exact .inr (.inl ⟨a, vs, rfl, h1, fun p hp => alloc_lst c hp (reps_cut h2 lo hi) q⟩)
    | tup ds =>
      obtain ⟨a, vs, rfl, h1, h2⟩ := rh.tup_ c
      refine .inr (.inr ⟨a, vs, rfl, h1, fun hw => ?_, fun _ p hp => alloc_tup c hp (reps_cut h2 lo hi) q⟩)
      rw [← h2.length] at hw
      have q : Run G (RepU G) (.ok (.d (.tup (cut ds lo hi))) τ) W z Q := q
      rw [cut_whole ds hw] at q
      refine Run.ok (rep := RepU G) q c (.d ?_)
      cases rh with
      | sh h => exact h
    | _ => exact q.elim
theorem v_sl {own : Bool} (hK : X.K = G.K) (ha : PE X e (VE G W fa)) (hl : PO X lo (VO G W fl)) (hh : PO X hi (VO G W fh)) : PE X (.Subscript e (.Slice lo hi none p2) pos) (VE G W (eSl own fa fl fh)) := by
  refine pe_weak (pe_slice (r := rSlG G.K) (hK ▸ sl_gen) ha hl hh) fun σ H Q ⟨z, ρ, τ, hz, c, en, q⟩ => ⟨z, ρ, τ, hz, c, en, (Run.bind q).imp fun x H1 ⟨z1, u, τ1, e1, f, c1, r1, q1⟩ => ?_⟩
  subst e1
  refine ⟨z1, ρ, τ1, rfl, c1, en.fut f, (Run.bind q1).imp fun l H2 ⟨z2, l', τ2, e2, f2, c2, r2, q2⟩ => ?_⟩
  subst e2
  have r2 : l' = l := r2
  subst r2
  refine ⟨z2, ρ, τ2, rfl, c2, en.fut (f.trans f2), (Run.bind q2).imp fun h H3 ⟨z3, h', τ3, e3, f3, c3, r3, q3⟩ => ?_⟩
  subst e3
  have r3 : h' = h := r3
  subst r3
  exact sl_read z3 u l' h' τ3 x _ Q c3 (r1.fut (f2.trans f3)) q3
end
def eRev (own : Bool) (fa : EV) : EV := fun ρ τ => (fa ρ τ).bind fun u τ1 => match vw τ1 u with
  | some (.lst ds) => allocL own ds.reverse τ1
  | some (.fl ds) => allocL own ds.reverse τ1
  | _ => .bad

/-! ### built-in calls -/
inductive RepHs (G : Gd) (z : Z) : List D → List V → Prop
  | nil : RepHs G z [] []
  | cons {d : D} {v : V} {ds : List D} {vs : List V} : RepH G z d v → RepHs G z ds vs → RepHs G z (d :: ds) (v :: vs)
def vws (τ : Store) : List U → Option (List D)
  | [] => some []
  | u :: us => match vw τ u, vws τ us with
    | some d, some ds => some (d :: ds)
    | _, _ => none
@[simp] theorem vws_nil (τ : Store) : vws τ [] = some [] := rfl
@[simp] theorem vws_d (τ : Store) (x : D) : vws τ [.d x] = some [x] := rfl
@[simp] theorem vws_d2 (τ : Store) (x y : D) : vws τ [.d x, .d y] = some [x, y] := rfl
theorem vws_rep {G : Gd} {z : Z} {τ : Store} (c : Cells G z τ) : ∀ {us : List U} {vs : List V} {ds : List D}, RepUs G z us vs → vws τ us = some ds → RepHs G z ds vs
  | [], _, _, r, e => by cases r; cases e; exact .nil
  | u :: us, _, ds, r, e => by
    cases r with
    | cons r1 r2 =>
      unfold vws at e
      cases q1 : vw τ u with
      | none => rw [q1] at e; cases e
      | some d =>
        cases q2 : vws τ us with
        | none => rw [q1, q2] at e; cases e
        | some xs =>
          rw [q1, q2] at e
          cases e
          exact .cons (vw_rep c r1 q1) (vws_rep c r2 q2)
def CallS (G : Gd) (g : List D → Store → R U) (r : List V → Hp → VK → Prop) : Prop :=
  ∀ (z : Z) (ds : List D) (τ : Store) (vs : List V) (W : XK) (Q : VK), Cells G z τ → RepHs G z ds vs → Run G (RepU G) (g ds τ) W z Q → r vs z.H Q
def gCB (g : List D → Store → R U) (us : List U) (τ : Store) : R U := match vws τ us with
  | some ds => g ds τ
  | none => .bad
def eCB (g : List D → Store → R U) (fs : EL) : EV := fun ρ τ => (fs ρ τ).bind (gCB g)
theorem cb_read {G : Gd} {g : List D → Store → R U} {r : List V → Hp → VK → Prop} (hs : CallS G g r) (z : Z) (us : List U) (τ : Store) (vs : List V) (W : XK) (Q : VK) (c : Cells G z τ) (ru : RepUs G z us vs) (q : Run G (RepU G) (gCB g us τ) W z Q) : r vs z.H Q := by
  unfold gCB at q
  cases e : vws τ us with
  | none => rw [e] at q; exact q.elim
  | some ds =>
    rw [e] at q
    exact hs z ds τ vs W Q c (vws_rep c ru e) q
section
variable {X : Cx} {G : Gd} {W : WX} {x : Str} {e : Expr} {es : List Expr} {fs : EL} {p pos : Pos} {g : List D → Store → R U} {r : List V → Hp → VK → Prop} {id T : String}
theorem v_cb (hc : CallR X (.builtin id) r) (hs : CallS G g r) (hg : Gl X x) (hm : X.mg x = none) (hv : bootBuiltins x = some (.builtin id)) (ha : PA X (e :: es) (VA G W fs)) (hn : x ≠ "__name__" := by decide) (hdb : (x == ("__debug__" : Str)) = false := by decide)
    (he : starEach (e :: es) X.env = (false, eval e X.env) :: starEach es X.env := by rfl) (hpl : (backTo pos (starEach es X.env)).any (·.1) = false := by rfl) : PE X (.Call (.Name x p) (e :: es) [] pos) (VE G W (eCB g fs)) :=
  ve_stepA (pe_callB hc hg hm hv ha hn hdb he hpl) (fun _ _ _ h => h) (cb_read hs)
theorem v_ct (hc : CallR X (.type T) r) (hs : CallS G g r) (hg : Gl X x) (hm : X.mg x = none) (hv : bootBuiltins x = some (.type T)) (ha : PA X (e :: es) (VA G W fs)) (hn : x ≠ "__name__" := by decide) (hdb : (x == ("__debug__" : Str)) = false := by decide)
    (he : starEach (e :: es) X.env = (false, eval e X.env) :: starEach es X.env := by rfl) (hpl : (backTo pos (starEach es X.env)).any (·.1) = false := by rfl) : PE X (.Call (.Name x p) (e :: es) [] pos) (VE G W (eCB g fs)) :=
  ve_stepA (pe_callTy hc hg hm hv ha hn hdb he hpl) (fun _ _ _ h => h) (cb_read hs)
end
theorem hs1 {G : Gd} {z : Z} {ds : List D} {vs : List V} (r : RepHs G z ds vs) {d : D} (e : ds = [d]) : ∃ v, vs = [v] ∧ RepH G z d v := by
  subst e
  cases r with
  | cons h t => cases t; exact ⟨_, rfl, h⟩
theorem hs2 {G : Gd} {z : Z} {ds : List D} {vs : List V} (r : RepHs G z ds vs) {d e : D} (q : ds = [d, e]) : ∃ v w, vs = [v, w] ∧ RepH G z d v ∧ RepH G z e w := by
  subst q
  cases r with
  | cons h t =>
    cases t with
    | cons h2 t2 => cases t2; exact ⟨_, _, rfl, h, h2⟩
def cLen : List D → Store → R U
  | [.str t], τ => if t.length ≤ sizeLine then .ok (.d (.int t.length)) τ else .bad
  | [.dct kvs], τ => .ok (.d (.int kvs.length)) τ
  | [d], τ => match d.seq with
    | some ds => .ok (.d (.int ds.length)) τ
    | none => .bad
  | _, _ => .bad
theorem RepK.length {G : Gd} {S : Hp} : ∀ {ds : List (Ky × D)} {vs : List (Key × V)}, RepK G S ds vs → ds.length = vs.length
  | [], _, h => by cases h; rfl
  | (k, d) :: ds, _, h => by
    cases h with
    | cons _ h2 => simp [RepK.length h2]
def rLen (K : PySem.W.Frag) : List V → Hp → VK → Prop := fun xs H Q => (∃ x n, xs = [x] ∧ LenV K x H n ∧ Q (.int n) H) ∨ ∃ p kvs, xs = [.ref p] ∧ H p = some (.dK kvs) ∧ Q (.int kvs.length) H
end VL

/-! The value layer, 6: statements, loops, comprehensions. -/
namespace VL
open PySem PySem.Spec PyProof.Rows L2 LamX

inductive RS where
  | nx (ρ : Env) (τ : Store) | rt (u : U) (τ : Store) | bk (ρ : Env) (τ : Store) | ct (ρ : Env) (τ : Store)
  | exc (c : Nat) (fs : List (T × D)) (ρ : Env) (τ : Store) | bad
abbrev GS := Env → Store → RS
def liftE {α : Type} (r : R α) (ρ : Env) (k : α → Store → RS) : RS := match r with
  | .ok a τ => k a τ
  | .exc c fs τ => .exc c fs ρ τ
  | .bad => .bad
@[simp] theorem liftE_ok {α : Type} (a : α) (τ : Store) (ρ : Env) (k : α → Store → RS) : liftE (.ok a τ) ρ k = k a τ := rfl
@[simp] theorem liftE_exc {α : Type} (c : Nat) (fs : List (T × D)) (τ : Store) (ρ : Env) (k : α → Store → RS) : liftE (.exc c fs τ) ρ k = .exc c fs ρ τ := rfl
@[simp] theorem liftE_bad {α : Type} (ρ : Env) (k : α → Store → RS) : liftE (.bad : R α) ρ k = .bad := rfl
def RS.seq : RS → GS → RS
  | .nx ρ τ, g => g ρ τ
  | r, _ => r
@[simp] theorem RS.seq_nx (ρ : Env) (τ : Store) (g : GS) : (RS.nx ρ τ).seq g = g ρ τ := rfl
@[simp] theorem RS.seq_rt (u : U) (τ : Store) (g : GS) : (RS.rt u τ).seq g = .rt u τ := rfl
@[simp] theorem RS.seq_exc (c : Nat) (fs : List (T × D)) (ρ : Env) (τ : Store) (g : GS) : (RS.exc c fs ρ τ).seq g = .exc c fs ρ τ := rfl
@[simp] theorem RS.seq_bad (g : GS) : (RS.bad).seq g = .bad := rfl
def RunS (G : Gd) (r : RS) (W : WX) (D : Ends) (z : Z) : Prop :=
  match r with
  | .nx ρ τ => ∀ z' σ', Fut z z' → Cells G z' τ → EnvR G z' ρ σ' → D.nx σ' z'.H
  | .rt u τ => ∀ z' v, Fut z z' → Cells G z' τ → RepU G z' u v → D.rt v z'.H
  | .bk ρ τ => ∀ z' σ', Fut z z' → Cells G z' τ → EnvR G z' ρ σ' → D.bk σ' z'.H
  | .ct ρ τ => ∀ z' σ', Fut z z' → Cells G z' τ → EnvR G z' ρ σ' → D.ct σ' z'.H
  | .exc c fs ρ τ => ∀ z' dd vs σ', Fut z z' → Cells G z' τ → EnvR G z' ρ σ' → z'.S dd = some (.xd vs) → RepF G z'.S fs vs → W (.ref (G.ca c)) (some dd) σ' z'.H
  | .bad => False
section
variable {G : Gd} {W : WX} {D D' : Ends} {z z1 : Z} {ρ : Env} {σ : L2.St}
theorem RunS.pre {r : RS} (h : RunS G r W D z) (f : Fut z z1) : RunS G r W D z1 := by
  cases r with
  | nx ρ τ => exact fun z' σ' f' => h z' σ' (f.trans f')
  | rt u τ => exact fun z' v f' => h z' v (f.trans f')
  | bk ρ τ => exact fun z' σ' f' => h z' σ' (f.trans f')
  | ct ρ τ => exact fun z' σ' f' => h z' σ' (f.trans f')
  | exc c fs ρ τ => exact fun z' dd vs σ' f' => h z' dd vs σ' (f.trans f')
  | bad => exact h
theorem RunS.lift {α β : Type} {rep : Z → α → β → Prop} {r : R α} {k : α → Store → RS} (en : EnvR G z ρ σ) (h : RunS G (liftE r ρ k) W D z) :
    Run G rep r (fun c d H' => W c d σ H') z fun b H => ∃ z1 a τ1, z1.H = H ∧ Fut z z1 ∧ Cells G z1 τ1 ∧ rep z1 a b ∧ RunS G (k a τ1) W D z1 := by
  cases r with
  | bad => exact h
  | exc c fs τ => exact fun z' dd vs f c' s r => h z' dd vs σ f c' (en.fut f) s r
  | ok a τ => exact fun z' b f c q => ⟨z', a, τ, rfl, f, c, q, RunS.pre (r := k a τ) h f⟩
theorem RunS.seq_ {r : RS} {g : GS} (h : RunS G (r.seq g) W D z) : RunS G r W { D with nx := fun σ' H' => ∃ z1 ρ1 τ1, z1.H = H' ∧ Cells G z1 τ1 ∧ EnvR G z1 ρ1 σ' ∧ RunS G (g ρ1 τ1) W D z1 } z := by
  cases r with
  | nx ρ τ => exact fun z' σ' f c en => ⟨z', ρ, τ, rfl, c, en, RunS.pre (r := g ρ τ) h f⟩
  | rt u τ => exact h
  | bk ρ τ => exact h
  | ct ρ τ => exact h
  | exc c fs ρ τ => exact h
  | bad => exact h
theorem RunS.nx_ {ρ : Env} {τ : Store} (h : RunS G (.nx ρ τ) W D z) (c : Cells G z τ) (en : EnvR G z ρ σ) : D.nx σ z.H := h z σ (Fut.refl z) c en
end
def VS (G : Gd) (W : WX) (g : GS) : TS := fun D σ H => ∃ z ρ τ, z.H = H ∧ Cells G z τ ∧ EnvR G z ρ σ ∧ RunS G (g ρ τ) W D z

def gNil : GS := fun ρ τ => .nx ρ τ
def gSeq (g h : GS) : GS := fun ρ τ => (g ρ τ).seq h
def gSet (i : Nat) (f : EV) : GS := fun ρ τ => liftE (f ρ τ) ρ fun u τ1 => .nx (ρ.set i (some u)) τ1
def gExpr (f : EV) : GS := fun ρ τ => liftE (f ρ τ) ρ fun _ τ1 => .nx ρ τ1
def gRet (f : EV) : GS := fun ρ τ => liftE (f ρ τ) ρ fun u τ1 => .rt u τ1
def gRetN : GS := fun _ τ => .rt (.d .non) τ
def gIf (t : EB) (g h : GS) : GS := fun ρ τ => liftE (t ρ τ) ρ fun b τ1 => if b then g ρ τ1 else h ρ τ1
def gBreak : GS := fun ρ τ => .bk ρ τ
def gCont : GS := fun ρ τ => .ct ρ τ
section
variable {X : Cx} {G : Gd} {W : WX} {st : Stmt} {rest as bs : List Stmt} {g h : GS} {e : Expr} {f : EV} {t : EB} {pos : Pos}
theorem ss_nil : PSs X [] (VS G W gNil) := pss_weak pss_nil fun D σ H ⟨z, ρ, τ, hz, c, en, q⟩ => by subst hz; exact RunS.nx_ q c en
theorem ss_cons (h1 : PS X st (VS G W g)) (h2 : PSs X rest (VS G W h)) : PSs X (st :: rest) (VS G W (gSeq g h)) :=
  pss_weak (pss_cons h1 h2) fun D σ H ⟨z, ρ, τ, hz, c, en, q⟩ => ⟨z, ρ, τ, hz, c, en, RunS.seq_ q⟩
theorem ss_one (h1 : PS X st (VS G W g)) : PSs X [st] (VS G W g) := pss_one h1
theorem s_set (i : Nat) {x : Str} {pos' : Pos} (hN : X.N.Nodup) (hi : X.N[i]? = some x) (hx : Loc X.env.scope x) (he : PE X e (VE G W f)) (hs : swapsWith e (some (.Name x pos')) pos.line X.env = pure false := by rfl)
    (hf : X.fn x = true ∨ X.env.scope.names.lookup x = some .local := by first | exact .inl rfl | exact .inr rfl | assumption) : PS X (.Assign [.Name x pos'] e pos) (VS G W (gSet i f)) :=
  ps_weak (ps_set hN hi hx he hs hf) fun D σ H ⟨z, ρ, τ, hz, c, en, q⟩ => ⟨z, ρ, τ, hz, c, en, (RunS.lift (rep := RepU G) en q).imp fun v H1 ⟨z1, u, τ1, e1, f, c1, r1, q1⟩ => by
    subst e1
    exact RunS.nx_ q1 c1 ((en.fut f).set r1)⟩
theorem s_expr (he : PE X e (VE G W f)) (hs : swapsWith e none pos.line X.env = pure false := by rfl) : PS X (.Expr e pos) (VS G W (gExpr f)) :=
  ps_weak (ps_expr he hs) fun D σ H ⟨z, ρ, τ, hz, c, en, q⟩ => ⟨z, ρ, τ, hz, c, en, (RunS.lift (rep := RepU G) en q).imp fun v H1 ⟨z1, u, τ1, e1, f, c1, r1, q1⟩ => by
    subst e1
    exact RunS.nx_ q1 c1 (en.fut f)⟩
theorem s_ret (he : PE X e (VE G W f)) : PS X (.Return (some e) pos) (VS G W (gRet f)) :=
  ps_weak (ps_ret he) fun D σ H ⟨z, ρ, τ, hz, c, en, q⟩ => ⟨z, ρ, τ, hz, c, en, (RunS.lift (rep := RepU G) en q).imp fun v H1 ⟨z1, u, τ1, e1, f, c1, r1, q1⟩ => by
    subst e1
    exact q1 z1 v (Fut.refl _) c1 r1⟩
theorem s_retN : PS X (.Return none pos) (VS G W gRetN) := ps_weak ps_retN fun D σ H ⟨z, ρ, τ, hz, c, en, q⟩ => by
  subst hz
  exact q z .non (Fut.refl _) c (.d .non)
theorem s_if {cc : Expr} (hc : PT X cc (VB G W t)) (ha : PSs X as (VS G W g)) (hb : PSs X bs (VS G W h)) : PS X (.If cc as bs pos) (VS G W (gIf t g h)) :=
  ps_weak (ps_if hc ha hb) fun D σ H ⟨z, ρ, τ, hz, c, en, q⟩ => ⟨z, ρ, τ, hz, c, en, (RunS.lift (rep := EqRep) en q).imp fun k H1 ⟨z1, k', τ1, e1, f, c1, r1, q1⟩ => by
    subst e1
    have r1 : k' = k := r1
    subst r1
    cases k' with
    | true => exact ⟨z1, ρ, τ1, rfl, c1, en.fut f, q1⟩
    | false => exact ⟨z1, ρ, τ1, rfl, c1, en.fut f, q1⟩⟩
theorem s_pass : PS X (.Pass pos) (VS G W gNil) := ps_weak ps_pass fun D σ H ⟨z, ρ, τ, hz, c, en, q⟩ => by subst hz; exact RunS.nx_ q c en
theorem s_break : PS X (.Break pos) (VS G W gBreak) := ps_weak ps_break fun D σ H ⟨z, ρ, τ, hz, c, en, q⟩ => by subst hz; exact q z σ (Fut.refl _) c en
theorem s_continue : PS X (.Continue pos) (VS G W gCont) := ps_weak ps_continue fun D σ H ⟨z, ρ, τ, hz, c, en, q⟩ => by subst hz; exact q z σ (Fut.refl _) c en
/-- what is never come to -/
def gNever : GS := fun _ _ => .bad
theorem s_never : PS X st (VS G W gNever) := ⟨fun _ _ _ _ _ _ ⟨_, _, _, _, _, _, q⟩ => q.elim⟩
theorem ss_never : PSs X rest (VS G W gNever) := ⟨fun _ _ _ _ _ _ ⟨_, _, _, _, _, _, q⟩ => q.elim⟩
/-- a ghost: the cell in a name becomes data -/
def gFrz (i : Nat) : GS := fun ρ τ => match ρ[i]? with
  | some (some u) => match frz τ u with
    | some (x, τ1) => .nx (ρ.set i (some (.d x))) τ1
    | none => .bad
  | _ => .bad
theorem ss_frz (i : Nat) (h1 : PSs X rest (VS G W g)) : PSs X rest (VS G W (gSeq (gFrz i) g)) :=
  pss_weak h1 fun D σ H ⟨z, ρ, τ, hz, c, en, q⟩ => by
    subst hz
    unfold gSeq gFrz at q
    cases e : ρ[i]? with
    | none => rw [e] at q; exact q.elim
    | some o =>
      cases o with
      | none => rw [e] at q; exact q.elim
      | some u =>
        rw [e] at q
        simp only at q
        cases e2 : frz τ u with
        | none => rw [e2] at q; exact q.elim
        | some p =>
          obtain ⟨x, τ1⟩ := p
          rw [e2] at q
          obtain ⟨v, hv, rv⟩ := en.at_ i u e
          obtain ⟨z1, h1, f1, c1, rx, m1⟩ := frz_ok c rv e2
          have en1 := (en.fut f1).set (i := i) (RepU.d rx)
          have es : σ.set i (some v) = σ := by
            obtain ⟨hi, ei⟩ := List.getElem?_eq_some_iff.mp hv
            rw [← ei]
            exact List.set_getElem_self hi
          rw [es] at en1
          exact ⟨z1, _, τ1, h1, c1, en1, RunS.pre q f1⟩
end

/-! ### targets -/
abbrev TGv := D → Env → Option Env
def tName (i : Nat) : TGv := fun x ρ => some (ρ.set i (some (.d x)))
def tNames : List Nat → List D → Env → Option Env
  | [], [], ρ => some ρ
  | i :: is, x :: xs, ρ => tNames is xs (ρ.set i (some (.d x)))
  | _, _, _ => none
def tTupN (is : List Nat) : TGv := fun x ρ => match x with
  | .tup ds => tNames is ds ρ
  | _ => none
/-- a target's rule: data is stored in the slots is, the heap stays -/
def TgS (G : Gd) (g : TG) (t : TGv) (is : List Nat) : Prop :=
  ∀ (z : Z) (τ : Store) (x : D) (v : V) (ρ ρ' : Env) (σ : L2.St) (Q : L2.St → Hp → Prop), Cells G z τ → Rep G z.S x v → EnvR G z ρ σ → t x ρ = some ρ' →
    (∀ σ', EnvR G z ρ' σ' → σ'.length = σ.length → (∀ j, j ∉ is → σ'[j]? = σ[j]?) → Q σ' z.H) → g v σ z.H Q
def TgsS (G : Gd) (g : TGs) (is : List Nat) : Prop :=
  ∀ (z : Z) (τ : Store) (xs : List D) (vs : List V) (ρ ρ' : Env) (σ : L2.St) (Q : L2.St → Hp → Prop), Cells G z τ → Reps G z.S xs vs → EnvR G z ρ σ → tNames is xs ρ = some ρ' →
    (∀ σ', EnvR G z ρ' σ' → σ'.length = σ.length → (∀ j, j ∉ is → σ'[j]? = σ[j]?) → Q σ' z.H) → g vs σ z.H Q
section
variable {G : Gd}
theorem tg_name (i : Nat) : TgS G (gName i) (tName i) [i] := fun z τ x v ρ ρ' σ Q c r en e k => by
  cases e
  exact k _ (en.set (.d r)) (List.length_set ..) fun j hj => List.getElem?_set_ne (fun e => hj (by rw [e]; exact List.mem_cons_self))
theorem tgs_nil : TgsS G L2.gNil [] := fun z τ xs vs ρ ρ' σ Q c r en e k => by
  cases r with
  | nil => cases e; exact ⟨rfl, k σ en rfl fun _ _ => rfl⟩
  | cons _ _ => cases e
theorem tgs_cons (i : Nat) {g : TGs} {is : List Nat} (h : TgsS G g is) : TgsS G (gCons (gName i) g) (i :: is) := fun z τ xs vs ρ ρ' σ Q c r en e k => by
  cases r with
  | nil => cases e
  | cons r1 r2 => exact ⟨_, _, rfl, h z τ _ _ _ ρ' _ Q c r2 (en.set (.d r1)) e fun σ' en' hl hj => k σ' en' (hl.trans (List.length_set ..)) fun j hn => (hj j fun m => hn (List.mem_cons_of_mem _ m)).trans (List.getElem?_set_ne fun e => hn (by rw [e]; exact List.mem_cons_self))⟩
theorem tNames_len : ∀ {is : List Nat} {xs : List D} {ρ ρ' : Env}, tNames is xs ρ = some ρ' → xs.length = is.length
  | [], [], _, _, _ => rfl
  | i :: is, x :: xs, ρ, ρ', e => by simp [tNames_len (is := is) (xs := xs) e]
  | [], _ :: _, _, _, e => by cases e
  | _ :: _, [], _, _, e => by cases e
theorem tg_tup {g : TGs} {is : List Nat} (h : TgsS G g is) {n : Nat} (hn : n = is.length) : TgS G (gTup G.K n g) (tTupN is) is := fun z τ x v ρ ρ' σ Q c r en e k => by
  cases x with
  | tup ds =>
    cases r with
    | tup h1 h2 =>
      have e : tNames is ds ρ = some ρ' := e
      exact ⟨_, _, rfl, sqT_mono c.sub h1, by rw [← h2.length, tNames_len e, hn], h z τ ds _ ρ ρ' σ Q c h2 en e k⟩
  | _ => cases e
end
def gUnp (t : TGv) (f : EV) : GS := fun ρ τ => liftE (f ρ τ) ρ fun u τ1 => match frz τ1 u with
  | some (x, τ2) => match t x ρ with
    | some ρ' => .nx ρ' τ2
    | none => .bad
  | none => .bad
theorem s_asg {X : Cx} {G : Gd} {W : WX} {tg e : Expr} {f : EV} {g : TG} {t : TGv} {pos : Pos} (he : PE X e (VE G W f)) {is : List Nat} (hg : PG X tg g) (ht : TgS G g t is) (hs : swapsWithSole [tg] e pos.line X.env = pure false := by rfl) (hw : swappedStores [tg] e X.env = pure none := by rfl)
    (h1 : (assignEach [tg] X.env).map (·.2) = [assign tg X.env] := by rfl) : PS X (.Assign [tg] e pos) (VS G W (gUnp t f)) :=
  ps_weak (ps_asg he hg hs hw h1) fun D σ H ⟨z, ρ, τ, hz, c, en, q⟩ => ⟨z, ρ, τ, hz, c, en, (RunS.lift (rep := RepU G) en q).imp fun v H1 ⟨z1, u, τ1, e1, f, c1, r1, q1⟩ => by
    subst e1
    cases e2 : frz τ1 u with
    | none => rw [e2] at q1; exact q1.elim
    | some p =>
      obtain ⟨x, τ2⟩ := p
      rw [e2] at q1
      simp only at q1
      obtain ⟨z2, h2, f2, c2, rx, m2⟩ := frz_ok c1 r1 e2
      cases e3 : t x ρ with
      | none => rw [e3] at q1; exact q1.elim
      | some ρ' =>
        rw [e3] at q1
        rw [← h2]
        exact ht z2 τ2 x v ρ ρ' σ _ c2 rx (en.fut (f.trans f2)) e3 fun σ' en' _ _ => RunS.nx_ (RunS.pre q1 f2) c2 en'⟩
/-- a, b = e1, e2 -/
def gPar (i j : Nat) (fs : EL) : GS := fun ρ τ => liftE (fs ρ τ) ρ fun us τ1 => match us with
  | [u, w] => .nx ((ρ.set i (some u)).set j (some w)) τ1
  | _ => .bad
theorem s_par {X : Cx} {G : Gd} {W : WX} {i j : Nat} {x y : Str} {a b : Expr} {fs : EL} {px py pt pos : Pos} {kt k2 pt2} (hc : X.calm = true) (hN : X.N.Nodup) (hi : X.N[i]? = some x) (hj : X.N[j]? = some y) (hij : i ≠ j)
    (hx : X.env.scope.names.lookup x = some .local) (hy : X.env.scope.names.lookup y = some .local) (ha : PA X [a, b] (VA G W fs))
    (hw : swappedStores [.Tuple [.Name x px, .Name y py] kt pt] (.Tuple [a, b] k2 pt2) X.env = pure (some [x, y]))
    (hs : swapsWithSole [.Tuple [.Name x px, .Name y py] kt pt] (.Tuple [a, b] k2 pt2) pos.line X.env = pure false := by rfl) :
    PS X (.Assign [.Tuple [.Name x px, .Name y py] kt pt] (.Tuple [a, b] k2 pt2) pos) (VS G W (gPar i j fs)) :=
  ps_weak (ps_par hc hN hi hj hij hx hy ha hw hs) fun D σ H ⟨z, ρ, τ, hz, c, en, q⟩ => ⟨z, ρ, τ, hz, c, en, (RunS.lift (rep := RepUs G) en q).imp fun vs H1 ⟨z1, us, τ1, e1, f, c1, r1, q1⟩ => by
    subst e1
    cases r1 with
    | nil => exact q1.elim
    | cons r1 r2 =>
      cases r2 with
      | nil => exact q1.elim
      | cons r2 r3 =>
        cases r3 with
        | nil => exact ⟨_, _, rfl, RunS.nx_ q1 c1 (((en.fut f).set r1).set r2)⟩
        | cons _ _ => exact q1.elim⟩

/-! ### what is walked -/
/-- an iterator over data: while what is shared stands it gives these, one by one -/
structure ItOk (G : Gd) (z : Z) (ds : List D) (J : It) : Prop where
  goes : ∀ (i : Nat) (z1 : Z) (τ : Store), Fut z z1 → Cells G z1 τ → i < ds.length → J.go i z1.H
  stops : ∀ (z1 : Z) (τ : Store), Fut z z1 → Cells G z1 τ → J.stop ds.length z1.H
  yields : ∀ (i : Nat) (z1 : Z) (τ : Store) (x : V) (H' : Hp), Fut z z1 → Cells G z1 τ → i < ds.length → J.yld i z1.H x H' → ∃ z2 d, z2.H = H' ∧ Fut z1 z2 ∧ Cells G z2 τ ∧ z2.ms = z1.ms ∧ ds[i]? = some d ∧ Rep G z2.S d x
abbrev ED := Env → Store → R (List D)
def VI (G : Gd) (W : WX) (f : ED) : TI := fun σ H Rr => ∃ z ρ τ, z.H = H ∧ Cells G z τ ∧ EnvR G z ρ σ ∧ Run G (fun z' ds J => ItOk G z' ds J) (f ρ τ) (fun c d H' => W c d σ H') z Rr
theorem ItOk.pre {G : Gd} {z z' : Z} {ds : List D} {J : It} (h : ItOk G z ds J) (f : Fut z z') : ItOk G z' ds J :=
  ⟨fun i z1 τ g => h.goes i z1 τ (f.trans g), fun z1 τ g => h.stops z1 τ (f.trans g), fun i z1 τ x H' g => h.yields i z1 τ x H' (f.trans g)⟩
theorem pi_weak {X : Cx} {tg e : Expr} {t t' : TI} (h : PI X tg e t) (w : ∀ σ H R, t' σ H R → t σ H R) : PI X tg e t' := ⟨fun pins s σ H R I q => h.run pins s σ H R I (w _ _ _ q)⟩
section
variable {G : Gd}
theorem it_same {z : Z} {ds : List D} {vs : List V} {J : It} {Gq : Hp → Prop} (w : Walk J vs.length Gq (YAt vs)) (r : Reps G z.S ds vs) (hg : ∀ z1 τ, Fut z z1 → Cells G z1 τ → Gq z1.H) : ItOk G z ds J := by
  refine ⟨fun i z1 τ f c hi => w.goes i z1.H (by rw [← r.length]; exact hi) (hg z1 τ f c), fun z1 τ f c => by rw [r.length]; exact w.stops z1.H (hg z1 τ f c), fun i z1 τ x H' f c hi y => ?_⟩
  obtain ⟨e1, e2⟩ := w.yields i z1.H x H' (by rw [← r.length]; exact hi) (hg z1 τ f c) y
  subst e1
  obtain ⟨d, h1, h2⟩ := r.get' e2
  exact ⟨z1, d, rfl, Fut.refl _, c, rfl, h1, Rep.mono f.ss _ _ h2⟩
end
/-- the items of what holds them -/
def gItems (u : U) (τ : Store) : R (List D) := match u with
  | .d x => match x.seq with
    | some ds => .ok ds τ
    | none => .bad
  | .loc _ => .bad
def dItems (f : EV) : ED := fun ρ τ => (f ρ τ).bind gItems
section
variable {X : Cx} {G : Gd} {W : WX} {tg e : Expr} {f : EV}
/-- a list's walk, a tuple's walk: which one is known -/
def gItL (u : U) (τ : Store) : R (List D) := match u with
  | .d (.lst ds) => .ok ds τ
  | .d (.fl ds) => .ok ds τ
  | _ => .bad
def gItT (u : U) (τ : Store) : R (List D) := match u with
  | .d (.tup ds) => .ok ds τ
  | _ => .bad
def dList (f : EV) : ED := fun ρ τ => (f ρ τ).bind gItL
def dTup (f : EV) : ED := fun ρ τ => (f ρ τ).bind gItT
theorem itl_ok {z : Z} {a : Addr} {ds : List D} {vs : List V} (h : SqL G.K z.S a vs) (r : Reps G z.S ds vs) : ItOk G z ds (Itl G.K a) :=
  it_same walk_list r fun z1 τ f c => sqL_mono c.sub (sqL_mono f.ss h)
theorem itt_ok {z : Z} {a : Addr} {ds : List D} {vs : List V} (h : SqT G.K z.S a vs) (r : Reps G z.S ds vs) : ItOk G z ds (Itt G.K a) :=
  it_same walk_tup r fun z1 τ f c => sqT_mono c.sub (sqT_mono f.ss h)
theorem vi_list (hK : X.K = G.K) (he : PE X e (VE G W f)) : PI X tg e (VI G W (dList f)) :=
  pi_weak (pi_list he) fun σ H Rr ⟨z, ρ, τ, hz, c, en, q⟩ => ⟨z, ρ, τ, hz, c, en, (Run.bind q).imp fun v H1 ⟨z1, u, τ1, e1, f, c1, r1, q1⟩ => by
    subst e1
    rw [hK]
    cases u with
    | loc n => exact q1.elim
    | d x =>
      cases r1 with
      | d r1 =>
        cases x with
        | lst ds =>
          cases r1 with
          | lst h1 h2 => exact ⟨_, rfl, ⟨_, SqL.of (c1.sub _ _ h1)⟩, Run.ok (rep := fun z' ds J => ItOk G z' ds J) q1 c1 (itl_ok (SqL.of h1) h2)⟩
        | fl ds =>
          cases r1 with
          | fl h1 h2 => exact ⟨_, rfl, ⟨_, sqL_mono c1.sub h1⟩, Run.ok (rep := fun z' ds J => ItOk G z' ds J) q1 c1 (itl_ok h1 h2)⟩
        | _ => exact q1.elim⟩
theorem vi_tup (hK : X.K = G.K) (he : PE X e (VE G W f)) : PI X tg e (VI G W (dTup f)) :=
  pi_weak (pi_tup he) fun σ H Rr ⟨z, ρ, τ, hz, c, en, q⟩ => ⟨z, ρ, τ, hz, c, en, (Run.bind q).imp fun v H1 ⟨z1, u, τ1, e1, f, c1, r1, q1⟩ => by
    subst e1
    rw [hK]
    cases u with
    | loc n => exact q1.elim
    | d x =>
      cases r1 with
      | d r1 =>
        cases x with
        | tup ds =>
          cases r1 with
          | tup h1 h2 => exact ⟨_, rfl, ⟨_, sqT_mono c1.sub h1⟩, Run.ok (rep := fun z' ds J => ItOk G z' ds J) q1 c1 (itt_ok h1 h2)⟩
        | _ => exact q1.elim⟩
end
theorem v_rev {X : Cx} {G : Gd} {W : WX} {e : Expr} {f : EV} {own : Bool} {k : Nat} {p1 p2 p3 pos : Pos} (hK : X.K = G.K) (he : PE X e (VE G W f)) : PE X (.Subscript e (.Slice none none (some (.UnaryOp .USub (.Constant (.int 1) k p1) p2)) p3) pos) (VE G W (eRev own f)) :=
  ve_step1 (pe_revL he) (r := fun x H Q => ∃ a xs, x = .ref a ∧ SqL X.K H a xs ∧ ∀ p, H p = none → Q (.ref p) (upd H p (.lst xs.reverse))) (fun _ _ _ h => h) fun z u τ v W Q c r q => by
    cases e : vw τ u with
    | none => rw [e] at q; exact q.elim
    | some d =>
      have rh := vw_rep c r e
      rw [e] at q
      rw [hK]
      cases d with
      | lst ds =>
        obtain ⟨a, vs, rfl, h1, h2⟩ := rh.lst_ c
        exact ⟨a, vs, rfl, SqL.of h1, fun p hp => alloc_lst c hp h2.reverse q⟩
      | fl ds =>
        obtain ⟨a, vs, rfl, h1, h2⟩ := rh.fl_ c
        exact ⟨a, vs, rfl, h1, fun p hp => alloc_lst c hp h2.reverse q⟩
      | _ => exact q.elim

/-! ### more walks: range, enumerate, zip, a text -/
theorem it_pair {G : Gd} {z : Z} {J : It} {n : Nat} {Gq : Hp → Prop} {fx fy : Nat → Option V} {ds : List D} (w : Walk J n Gq (YPair fx fy)) (hn : n = ds.length) (hg : ∀ z1 τ, Fut z z1 → Cells G z1 τ → Gq z1.H)
    (hd : ∀ i x y, fx i = some x → fy i = some y → i < n → ∃ dx dy, ds[i]? = some (.tup [dx, dy]) ∧ Rep G z.S dx x ∧ Rep G z.S dy y) : ItOk G z ds J := by
  subst hn
  refine ⟨fun i z1 τ f c hi => w.goes i z1.H hi (hg z1 τ f c), fun z1 τ f c => w.stops z1.H (hg z1 τ f c), fun i z1 τ v H' f c hi y => ?_⟩
  obtain ⟨t, x, y', e1, e2, e3, e4, e5⟩ := w.yields i z1.H v H' hi (hg z1 τ f c) y
  subst e1 e3
  obtain ⟨dx, dy, h1, h2, h3⟩ := hd i x y' e4 e5 hi
  have hs := c.none_ e2
  have ss := same_upd (o := HO.tup [x, y']) hs
  exact ⟨⟨upd z1.S t (.tup [x, y']), upd z1.H t (.tup [x, y']), z1.ms⟩, _, rfl, fut_sh hs e2, cells_sh c e2, rfl, h1, .tup (SqT.of upd_same) (.cons (Rep.mono (f.ss.trans ss) _ _ h2) (.cons (Rep.mono (f.ss.trans ss) _ _ h3) .nil))⟩
def enumD : Nat → List D → List D
  | _, [] => []
  | k, d :: ds => .tup [.int (k : Nat), d] :: enumD (k + 1) ds
theorem enumD_len : ∀ (k : Nat) (ds : List D), (enumD k ds).length = ds.length
  | _, [] => rfl
  | k, d :: ds => by simp [enumD, enumD_len (k + 1) ds]
theorem enumD_at : ∀ (k : Nat) (ds : List D) (i : Nat) (d : D), ds[i]? = some d → (enumD k ds)[i]? = some (.tup [.int ((k + i : Nat) : Int), d])
  | _, [], _, _, e => by simp at e
  | k, x :: ds, 0, d, e => by
    have e' : x = d := by simpa using e
    subst e'
    rfl
  | k, x :: ds, i + 1, d, e => by
    have q := enumD_at (k + 1) ds i d (by simpa using e)
    show (enumD (k + 1) ds)[i]? = _
    rw [q, show k + 1 + i = k + (i + 1) by omega]
def zipD : List D → List D → List D
  | x :: xs, y :: ys => .tup [x, y] :: zipD xs ys
  | _, _ => []
theorem zipD_len : ∀ (xs ys : List D), (zipD xs ys).length = min xs.length ys.length
  | [], _ => by simp [zipD]
  | _ :: _, [] => by simp [zipD]
  | x :: xs, y :: ys => by simp [zipD, zipD_len xs ys]
theorem zipD_at : ∀ (xs ys : List D) (i : Nat) (x y : D), xs[i]? = some x → ys[i]? = some y → (zipD xs ys)[i]? = some (.tup [x, y])
  | [], _, _, _, _, e, _ => by simp at e
  | _ :: _, [], _, _, _, _, e => by simp at e
  | a :: xs, b :: ys, 0, x, y, e1, e2 => by
    have h1 : a = x := by simpa using e1
    have h2 : b = y := by simpa using e2
    subst h1 h2
    rfl
  | a :: xs, b :: ys, i + 1, x, y, e1, e2 => zipD_at xs ys i x y (by simpa using e1) (by simpa using e2)
def rngD (lo : Int) : Nat → List D
  | 0 => []
  | n + 1 => .int lo :: rngD (lo + 1) n
theorem rngD_len : ∀ (lo : Int) (n : Nat), (rngD lo n).length = n
  | _, 0 => rfl
  | lo, n + 1 => by simp [rngD, rngD_len (lo + 1) n]
theorem rngD_at : ∀ (lo : Int) (n i : Nat), i < n → (rngD lo n)[i]? = some (.int (lo + (i : Nat)))
  | _, 0, _, h => absurd h (Nat.not_lt_zero _)
  | lo, n + 1, 0, _ => by simp [rngD]
  | lo, n + 1, i + 1, h => by
    have q := rngD_at (lo + 1) n i (by omega)
    show (rngD (lo + 1) n)[i]? = _
    rw [q, show lo + 1 + (i : Int) = lo + ((i + 1 : Nat) : Int) by omega]
theorem itr_ok {G : Gd} {z : Z} {lo : Int} {n : Nat} : ItOk G z (rngD lo n) (Itr lo n) := by
  refine ⟨fun i z1 τ f c hi => by rw [rngD_len] at hi; exact hi, fun z1 τ f c => by rw [rngD_len]; exact Nat.le_refl _, fun i z1 τ x H' f c hi y => ?_⟩
  rw [rngD_len] at hi
  obtain ⟨e1, e2⟩ : H' = z1.H ∧ x = .int (lo + i) := y
  subst e1 e2
  exact ⟨z1, _, rfl, Fut.refl _, c, rfl, rngD_at lo n i hi, .int _⟩
def gRange1 (us : List U) (τ : Store) : R (List D) := match us with
  | [.d (.int n)] => if -(2 ^ 62) ≤ n ∧ n < 2 ^ 62 then .ok (rngD 0 n.toNat) τ else .bad
  | _ => .bad
def gRange2 (us : List U) (τ : Store) : R (List D) := match us with
  | [.d (.int a), .d (.int b)] => if (-(2 ^ 62) ≤ a ∧ a < 2 ^ 62) ∧ (-(2 ^ 62) ≤ b ∧ b < 2 ^ 62) then .ok (rngD a (b - a).toNat) τ else .bad
  | _ => .bad
def dRange1 (fs : EL) : ED := fun ρ τ => (fs ρ τ).bind gRange1
def dRange2 (fs : EL) : ED := fun ρ τ => (fs ρ τ).bind gRange2
def lsD (d : D) : Option (List D) := match d with
  | .lst ds => some ds
  | .fl ds => some ds
  | _ => none
def gEnum (us : List U) (τ : Store) : R (List D) := match us with
  | [.d x] => match lsD x with
    | some ds => .ok (enumD 0 ds) τ
    | none => .bad
  | _ => .bad
def gZip (us : List U) (τ : Store) : R (List D) := match us with
  | [.d x, .d y] => match lsD x, lsD y with
    | some ds, some es => .ok (zipD ds es) τ
    | _, _ => .bad
  | _ => .bad
def dEnum (fs : EL) : ED := fun ρ τ => (fs ρ τ).bind gEnum
def dZip (fs : EL) : ED := fun ρ τ => (fs ρ τ).bind gZip
theorem lsD_rep {G : Gd} {S : Hp} {d : D} {v : V} {ds : List D} (r : Rep G S d v) (e : lsD d = some ds) : ∃ a vs, v = .ref a ∧ SqL G.K S a vs ∧ Reps G S ds vs := by
  cases d with
  | lst xs =>
    cases e
    cases r with
    | lst h1 h2 => exact ⟨_, _, rfl, SqL.of h1, h2⟩
  | fl xs =>
    cases e
    cases r with
    | fl h1 h2 => exact ⟨_, _, rfl, h1, h2⟩
  | _ => cases e
section
variable {X : Cx} {G : Gd} {W : WX} {a b : Expr} {fs : EL} {p pos tpos : Pos} {tg : Expr}
theorem us1 {z : Z} {us : List U} {vs : List V} (r : RepUs G z us vs) {u : U} (e : us = [u]) : ∃ v, vs = [v] ∧ RepU G z u v := by
  subst e
  cases r with
  | cons h t => cases t; exact ⟨_, rfl, h⟩
theorem us2 {z : Z} {us : List U} {vs : List V} (r : RepUs G z us vs) {u w : U} (e : us = [u, w]) : ∃ v y, vs = [v, y] ∧ RepU G z u v ∧ RepU G z w y := by
  subst e
  cases r with
  | cons h t =>
    cases t with
    | cons h2 t2 => cases t2; exact ⟨_, _, rfl, h, h2⟩
theorem vi_stepA {x : Expr} {t : TI} {g : List U → Store → R (List D)} {r : List V → Hp → (It → Hp → Prop) → Prop} (h : PI X tg x t) (he : ∀ σ H Q, (VA G W fs) σ H (fun xs H1 => r xs H1 Q) → t σ H Q)
    (hr : ∀ (z : Z) (us : List U) (τ : Store) (vs : List V) (W : XK) (Q : It → Hp → Prop), Cells G z τ → RepUs G z us vs → Run G (fun z' ds J => ItOk G z' ds J) (g us τ) W z Q → r vs z.H Q) : PI X tg x (VI G W fun ρ τ => (fs ρ τ).bind g) := by
  refine pi_weak h fun σ H Q ⟨z, ρ, τ, hz, c, en, q⟩ => he _ _ _ ⟨z, ρ, τ, hz, c, en, ?_⟩
  exact (Run.bind q).imp fun v H1 ⟨z1, u, τ1, e1, f, c1, r1, q1⟩ => by
    subst e1
    exact hr z1 u τ1 v _ Q c1 r1 q1
theorem vi_range1 (hg : Gl X "range") (hm : X.mg "range" = none) (ha : PA X [a] (VA G W fs)) (hs : starEach [a] X.env = [(false, eval a X.env)] := by rfl) : PI X tg (.Call (.Name "range" p) [a] [] pos) (VI G W (dRange1 fs)) :=
  vi_stepA (pi_range1 hg hm ha hs) (fun _ _ _ h => h) fun z us τ vs W Q c r q => by
    unfold gRange1 at q
    split at q
    · rename_i n
      obtain ⟨v, rfl, rv⟩ := us1 r rfl
      cases rv with
      | d rv =>
        cases rv
        split at q
        · rename_i hn
          have key := Run.ok (rep := fun z' ds J => ItOk G z' ds J) q c (itr_ok (lo := 0) (n := n.toNat))
          exact ⟨n, rfl, hn.1, hn.2, by simpa using key⟩
        · exact q.elim
    · exact q.elim
theorem vi_range2 (hg : Gl X "range") (hm : X.mg "range" = none) (ha : PA X [a, b] (VA G W fs)) (hs : starEach [a, b] X.env = [(false, eval a X.env), (false, eval b X.env)] := by rfl) (hs2 : starEach [b] X.env = [(false, eval b X.env)] := by rfl) : PI X tg (.Call (.Name "range" p) [a, b] [] pos) (VI G W (dRange2 fs)) :=
  vi_stepA (pi_range2 hg hm ha hs hs2) (fun _ _ _ h => h) fun z us τ vs W Q c r q => by
    unfold gRange2 at q
    split at q
    · rename_i m n
      obtain ⟨v, y, rfl, rv, ry⟩ := us2 r rfl
      cases rv with
      | d rv =>
        cases rv
        cases ry with
        | d ry =>
          cases ry
          split at q
          · rename_i hn
            exact ⟨m, n, rfl, ⟨hn.1.1, hn.1.2, hn.2.1, hn.2.2⟩, Run.ok (rep := fun z' ds J => ItOk G z' ds J) q c (itr_ok (lo := m) (n := (n - m).toNat))⟩
          · exact q.elim
    · exact q.elim
theorem vi_enum {elts : List Expr} {kk : Nat} (hK : X.K = G.K) (hg : Gl X "enumerate") (hm : X.mg "enumerate" = none) (ha : PA X [a] (VA G W fs)) (hs : starEach [a] X.env = [(false, eval a X.env)] := by rfl) : PI X (.Tuple elts kk tpos) (.Call (.Name "enumerate" p) [a] [] pos) (VI G W (dEnum fs)) :=
  vi_stepA (pi_enum hg hm ha hs) (fun _ _ _ h => h) fun z us τ vs W Q c r q => by
    rw [hK]
    unfold gEnum at q
    split at q
    · rename_i x
      obtain ⟨v, rfl, rv⟩ := us1 r rfl
      cases rv with
      | d rv =>
        cases e : lsD x with
        | none => rw [e] at q; exact q.elim
        | some ds =>
          rw [e] at q
          obtain ⟨l, ws, rfl, h1, h2⟩ := lsD_rep rv e
          refine ⟨l, ws, rfl, sqL_mono c.sub h1, Run.ok (rep := fun z' ds J => ItOk G z' ds J) q c (it_pair (walk_enum (xs := ws)) (by rw [enumD_len, h2.length]) (fun z1 τ f c => sqL_mono c.sub (sqL_mono f.ss h1)) fun i x y e1 e2 hi => ?_)⟩
          obtain ⟨d, q1, q2⟩ := h2.get' e2
          have e1 : V.int (i : Nat) = x := Option.some.inj e1
          subst e1
          exact ⟨_, d, by rw [enumD_at 0 ds i d q1, Nat.zero_add], .int _, q2⟩
    · exact q.elim
theorem vi_zip {elts : List Expr} {kk : Nat} (hK : X.K = G.K) (hg : Gl X "zip") (hm : X.mg "zip" = none) (ha : PA X [a, b] (VA G W fs)) (hs : starEach [a, b] X.env = (false, eval a X.env) :: starEach [b] X.env := by rfl) (hpl : (backTo pos (starEach [b] X.env)).any (·.1) = false := by rfl) :
    PI X (.Tuple elts kk tpos) (.Call (.Name "zip" p) [a, b] [] pos) (VI G W (dZip fs)) :=
  vi_stepA (pi_zip hg hm ha hs hpl) (fun _ _ _ h => h) fun z us τ vs W Q c r q => by
    rw [hK]
    unfold gZip at q
    split at q
    · rename_i x y
      obtain ⟨v, y', rfl, rv, ry⟩ := us2 r rfl
      cases rv with
      | d rv =>
        cases ry with
        | d ry =>
          cases e : lsD x with
          | none => rw [e] at q; exact q.elim
          | some ds =>
            cases e' : lsD y with
            | none => rw [e, e'] at q; exact q.elim
            | some es =>
              rw [e, e'] at q
              obtain ⟨l, ws, rfl, h1, h2⟩ := lsD_rep rv e
              obtain ⟨l', ws', rfl, h1', h2'⟩ := lsD_rep ry e'
              refine ⟨l, l', ws, ws', rfl, sqL_mono c.sub h1, sqL_mono c.sub h1', Run.ok (rep := fun z' ds J => ItOk G z' ds J) q c (it_pair (walk_zip (xs := ws) (ys := ws') rfl) (by rw [zipD_len, h2.length, h2'.length])
                (fun z1 τ f c => ⟨sqL_mono c.sub (sqL_mono f.ss h1), sqL_mono c.sub (sqL_mono f.ss h1')⟩) fun i x y e1 e2 hi => ?_)⟩
              obtain ⟨d, q1, q2⟩ := h2.get' e1
              obtain ⟨d', q1', q2'⟩ := h2'.get' e2
              exact ⟨d, d', zipD_at ds es i d d' q1 q1', q2, q2'⟩
    · exact q.elim
/-- the signs of a text -/
def gSigns (u : U) (τ : Store) : R (List D) := match u with
  | .d (.str t) => .ok (t.map fun c => D.str [c]) τ
  | _ => .bad
def dSigns (f : EV) : ED := fun ρ τ => (f ρ τ).bind gSigns
theorem vi_str {f : EV} (he : PE X a (VE G W f)) : PI X tg a (VI G W (dSigns f)) :=
  pi_weak (pi_str he) fun σ H Rr ⟨z, ρ, τ, hz, c, en, q⟩ => ⟨z, ρ, τ, hz, c, en, (Run.bind q).imp fun v H1 ⟨z1, u, τ1, e1, f, c1, r1, q1⟩ => by
    subst e1
    unfold gSigns at q1
    split at q1
    · rename_i t
      cases r1 with
      | d r1 =>
        cases r1
        refine ⟨_, rfl, Run.ok (rep := fun z' ds J => ItOk G z' ds J) q1 c1 ?_⟩
        have w := walk_str (z := t.s)
        have hz : t.s.cps.size = (t.map fun c => D.str [c]).length := by simp [T.s]
        refine ⟨fun i z1 τ f c hi => w.goes i z1.H (by rw [hz]; exact hi) trivial, fun z1 τ f c => by rw [← hz]; exact w.stops z1.H trivial, fun i z1 τ x H' f c hi y => ?_⟩
        obtain ⟨e1, cc, e2, e3⟩ := w.yields i z1.H x H' (by rw [hz]; exact hi) trivial y
        subst e1 e3
        refine ⟨z1, .str [cc], rfl, Fut.refl _, c, rfl, ?_, .str [cc]⟩
        have e2 : t[i]? = some cc := by simpa [T.s] using e2
        rw [List.getElem?_map, e2]
        rfl
    · exact q1.elim⟩
end

/-! ### for, while -/
def forGo (t : TGv) (g : GS) : List D → GS
  | [], ρ, τ => .nx ρ τ
  | d :: ds, ρ, τ => match t d ρ with
    | some ρ1 => match g ρ1 τ with
      | .nx ρ2 τ2 => forGo t g ds ρ2 τ2
      | .ct ρ2 τ2 => forGo t g ds ρ2 τ2
      | .bk ρ2 τ2 => .nx ρ2 τ2
      | r => r
    | none => .bad
def gFor (f : ED) (t : TGv) (g : GS) : GS := fun ρ τ => liftE (f ρ τ) ρ fun ds τ1 => forGo t g ds ρ τ1
theorem drop_at {ds : List D} {i : Nat} {d : D} (e : ds[i]? = some d) : ds.drop i = d :: ds.drop (i + 1) := by
  obtain ⟨h, e'⟩ := List.getElem?_eq_some_iff.mp e
  rw [List.drop_eq_getElem_cons h, e']
theorem s_for {X : Cx} {G : Gd} {W : WX} {tg iter : Expr} {body : List Stmt} {f : ED} {gt : TG} {t : TGv} {g : GS} {pos : Pos} (hp : PassesOwn (model X.prog X.w) X.A X.env X.xe) (hc : X.calm = true) (hi : PI X tg iter (VI G W f)) {is : List Nat} (hg : PG X tg gt) (ht : TgS G gt t is) (hb : PSs X body (VS G W g))
    (hs : ∀ x, foldedSetIterable iter X.env x = pure x := by intro _; rfl) : PS X (.For tg iter body [] pos) (VS G W (gFor f t g)) :=
  ps_weak (ps_for hp hc hi hg hb hs) fun D σ H ⟨z, ρ, τ, hz, c, en, q⟩ => ⟨z, ρ, τ, hz, c, en, (RunS.lift (rep := fun z' ds J => ItOk G z' ds J) en q).imp fun J H1 ⟨z1, ds, τ1, e1, f, c1, J1, q1⟩ => by
    subst e1
    refine ⟨fun i m σ' H' => m = ds.length - i ∧ i ≤ ds.length ∧ ∃ z2 ρ2 τ2, z2.H = H' ∧ Fut z1 z2 ∧ Cells G z2 τ2 ∧ EnvR G z2 ρ2 σ' ∧ RunS G (forGo t g (ds.drop i) ρ2 τ2) W D z2,
      ⟨ds.length, by simp, Nat.zero_le _, z1, ρ, τ1, rfl, Fut.refl _, c1, en.fut f, q1⟩, ?_⟩
    rintro i m σ' H' ⟨rfl, hi, z2, ρ2, τ2, rfl, f2, c2, en2, q2⟩
    by_cases hlt : i < ds.length
    · refine .inr ⟨J1.goes i z2 τ2 f2 c2 hlt, fun σ3 H3 => ∃ z3 ρ3 τ3, z3.H = H3 ∧ Fut z1 z3 ∧ Cells G z3 τ3 ∧ EnvR G z3 ρ3 σ3 ∧ RunS G (forGo t g (ds.drop (i + 1)) ρ3 τ3) W D z3, fun σ3 H3 h => ⟨ds.length - (i + 1), by omega, rfl, hlt, h⟩, fun x H3 y => ?_⟩
      obtain ⟨z3, d, rfl, f3, c3, m3, e3, r3⟩ := J1.yields i z2 τ2 x H3 f2 c2 hlt y
      rw [drop_at e3] at q2
      unfold forGo at q2
      cases e4 : t d ρ2 with
      | none => rw [e4] at q2; exact q2.elim
      | some ρ4 =>
        rw [e4] at q2
        refine ht z3 τ2 d x ρ2 ρ4 σ' _ c3 r3 (en2.fut f3) e4 fun σ4 en4 _ _ => ?_
        refine ⟨z3, ρ4, τ2, rfl, c3, en4, ?_⟩
        have q3 := RunS.pre q2 f3
        simp only at q3
        cases e5 : g ρ4 τ2 with
        | nx ρ5 τ5 =>
          rw [e5] at q3
          exact fun z' σ5 f' c' en' => ⟨z', ρ5, τ5, rfl, (f2.trans f3).trans f', c', en', RunS.pre (r := forGo t g (ds.drop (i + 1)) ρ5 τ5) q3 f'⟩
        | ct ρ5 τ5 =>
          rw [e5] at q3
          exact fun z' σ5 f' c' en' => ⟨z', ρ5, τ5, rfl, (f2.trans f3).trans f', c', en', RunS.pre (r := forGo t g (ds.drop (i + 1)) ρ5 τ5) q3 f'⟩
        | bk ρ5 τ5 => rw [e5] at q3; exact q3
        | rt u τ5 => rw [e5] at q3; exact q3
        | exc cc fs ρ5 τ5 => rw [e5] at q3; exact q3
        | bad => rw [e5] at q3; exact q3
    · have e : i = ds.length := by omega
      subst e
      rw [List.drop_length] at q2
      exact .inl ⟨J1.stops z2 τ2 f2 c2, RunS.nx_ q2 c2 en2⟩⟩
/-- at most n turns -/
def whileGo (t : EB) (g : GS) : Nat → GS
  | 0, _, _ => .bad
  | n + 1, ρ, τ => liftE (t ρ τ) ρ fun b τ1 => if b then (match g ρ τ1 with
      | .nx ρ2 τ2 => whileGo t g n ρ2 τ2
      | .ct ρ2 τ2 => whileGo t g n ρ2 τ2
      | .bk ρ2 τ2 => .nx ρ2 τ2
      | r => r) else .nx ρ τ1
def gWhile (n : Env → Store → Nat) (t : EB) (g : GS) : GS := fun ρ τ => whileGo t g (n ρ τ) ρ τ
theorem s_while (n : Env → Store → Nat) {X : Cx} {G : Gd} {W : WX} {cc : Expr} {body : List Stmt} {t : EB} {g : GS} {pos : Pos} (hp : PassesOwn (model X.prog X.w) X.A X.env X.xe) (hc : PT X cc (VB G W t)) (hb : PSs X body (VS G W g)) : PS X (.While cc body [] pos) (VS G W (gWhile n t g)) :=
  ps_weak (ps_while hp hc hb) fun D σ H ⟨z, ρ, τ, hz, c, en, q⟩ => by
    refine ⟨fun m σ' H' => ∃ z2 ρ2 τ2, z2.H = H' ∧ Fut z z2 ∧ Cells G z2 τ2 ∧ EnvR G z2 ρ2 σ' ∧ RunS G (whileGo t g m ρ2 τ2) W D z2, ⟨n ρ τ, z, ρ, τ, hz, Fut.refl _, c, en, q⟩, ?_⟩
    rintro m σ' H' ⟨z2, ρ2, τ2, rfl, f2, c2, en2, q2⟩
    cases m with
    | zero => exact q2.elim
    | succ m =>
      refine ⟨z2, ρ2, τ2, rfl, c2, en2, (RunS.lift (rep := EqRep) en2 q2).imp fun k H3 ⟨z3, k', τ3, e3, f3, c3, r3, q3⟩ => ?_⟩
      subst e3
      have r3 : k' = k := r3
      subst r3
      cases k' with
      | false => exact RunS.nx_ q3 c3 (en2.fut f3)
      | true =>
        rw [if_pos rfl]
        refine ⟨fun σ4 H4 => ∃ z4 ρ4 τ4, z4.H = H4 ∧ Fut z z4 ∧ Cells G z4 τ4 ∧ EnvR G z4 ρ4 σ4 ∧ RunS G (whileGo t g m ρ4 τ4) W D z4, fun σ4 H4 h => ⟨m, Nat.lt_succ_self m, h⟩, z3, ρ2, τ3, rfl, c3, en2.fut f3, ?_⟩
        simp only [if_true] at q3
        cases e5 : g ρ2 τ3 with
        | nx ρ5 τ5 =>
          rw [e5] at q3
          exact fun z' σ5 f' c' en' => ⟨z', ρ5, τ5, rfl, (f2.trans f3).trans f', c', en', RunS.pre (r := whileGo t g m ρ5 τ5) q3 f'⟩
        | ct ρ5 τ5 =>
          rw [e5] at q3
          exact fun z' σ5 f' c' en' => ⟨z', ρ5, τ5, rfl, (f2.trans f3).trans f', c', en', RunS.pre (r := whileGo t g m ρ5 τ5) q3 f'⟩
        | bk ρ5 τ5 => rw [e5] at q3; exact q3
        | rt u τ5 => rw [e5] at q3; exact q3
        | exc cc fs ρ5 τ5 => rw [e5] at q3; exact q3
        | bad => rw [e5] at q3; exact q3

/-! ### comprehensions -/
def R.nx {α : Type} : R α → R α
  | .exc _ _ _ => .bad
  | r => r
@[simp] theorem R.nx_ok {α : Type} (a : α) (τ : Store) : (R.ok a τ).nx = .ok a τ := rfl
def W0 : WX := fun _ _ _ _ => False
def wipeE (ρ : Env) : List Nat → Env
  | [] => ρ
  | v :: vs => (wipeE ρ vs).set v none
def compGo (t : TGv) (tb : EB) (fe : EV) (ρ : Env) : List D → Store → List D → R (List D)
  | [], τ, acc => .ok acc τ
  | d :: ds, τ, acc => match t d ρ with
    | some ρ1 => (tb ρ1 τ).nx.bind fun b τ1 => if b then (fe ρ1 τ1).nx.bind fun u τ2 => (match frz τ2 u with
        | some (x, τ3) => if acc.length < sizeLine then compGo t tb fe ρ ds τ3 (acc ++ [x]) else .bad
        | none => .bad) else compGo t tb fe ρ ds τ1 acc
    | none => .bad
def eLc (own : Bool) (fi : ED) (t : TGv) (tb : EB) (fe : EV) (vs : List Nat) : EV := fun ρ τ => (fi ρ τ).bind fun ds τ1 => (compGo t tb fe (wipeE ρ vs) ds τ1 []).bind fun acc τ2 => allocL own acc τ2
def bYes : EB := fun _ τ => .ok true τ
theorem wipeE_ok {G : Gd} {z : Z} {ρ : Env} {σ : L2.St} (en : EnvR G z ρ σ) : ∀ vs : List Nat, EnvR G z (wipeE ρ vs) (wipe σ vs)
  | [] => en
  | v :: vs => (wipeE_ok en vs).unset
theorem wipe_mem {σ : L2.St} {i : Nat} : ∀ {vs : List Nat}, i ∈ vs → i < σ.length → (wipe σ vs)[i]? = some none
  | v :: vs, h, hi => by
    unfold wipe
    by_cases e : v = i
    · subst e
      rw [List.getElem?_set_self (by rw [wipe_length]; exact hi)]
    · rw [List.getElem?_set_ne e]
      rcases List.mem_cons.mp h with q | q
      · exact absurd q.symm e
      · exact wipe_mem q hi
theorem wipe_eq {σ σ2 : L2.St} {vs is : List Nat} (hl : σ2.length = (wipe σ vs).length) (h : ∀ j, j ∉ is → σ2[j]? = (wipe σ vs)[j]?) (hi : ∀ j ∈ is, j ∈ vs) : wipe σ2 vs = wipe σ vs := by
  apply List.ext_getElem?
  intro j
  have hl2 : σ2.length = σ.length := by rw [hl, wipe_length]
  by_cases hj : j ∈ vs
  · by_cases hlt : j < σ.length
    · rw [wipe_mem hj (by rw [hl2]; exact hlt), wipe_mem hj hlt]
    · rw [List.getElem?_eq_none (by rw [wipe_length]; omega), List.getElem?_eq_none (by rw [wipe_length]; omega)]
  · rw [wipe_out hj, h j fun m => hj (hi j m)]
section
variable {G : Gd} {z z1 : Z} {τ : Store}
theorem Run.base {α β α' β' : Type} {rep : Z → α → β → Prop} {rep' : Z → α' → β' → Prop} {r : R α} {g : α → Store → R α'} {W W' : XK} {k : β' → Hp → Prop} (h : Run G rep' (r.nx.bind g) W z1 k) :
    Run G rep r W' z fun b H => ∃ z2 a τ1, z2.H = H ∧ Fut z z2 ∧ Cells G z2 τ1 ∧ rep z2 a b ∧ Run G rep' (g a τ1) W z1 k := by
  cases r with
  | ok a τ => exact fun z' b f c q => ⟨z', a, τ, rfl, f, c, q, h⟩
  | exc c fs τ => exact h.elim
  | bad => exact h.elim
/-- an object of our own beside -/
theorem cells_priv (c : Cells G z τ) {p : Addr} {o : HO} (hs : z.S p = none) (hm : p ∉ z.ms) (ht : ∀ o', z.H p = some o' → pln o') : Cells G ⟨z.S, upd z.H p o, z.ms⟩ τ := by
  refine ⟨fun b u e => ?_, c.len, c.nd, fun a m => ?_, fun i a cl e1 e2 => ?_, ?_, c.nt⟩
  · have nb : b ≠ p := fun q => by
      have e : z.S b = some u := e
      rw [q, hs] at e; cases e
    exact (upd_ne nb).trans (c.sub b u e)
  · obtain ⟨u, e, q⟩ := c.al a m
    exact ⟨u, (upd_ne (show a ≠ p from fun q => hm (by rw [← q]; exact m))).trans e, q⟩
  · have ne : a ≠ p := fun q => hm (q ▸ List.mem_of_getElem? e1)
    exact (c.at_ i a cl e1 e2).more (Same.refl _) (fun n => n) fun u e => (upd_ne ne).trans e
  · cases e : z.H p with
    | none => exact c.tab.ext (same_upd e)
    | some o' => exact tabs_upd c.tab e (ht o' e)
theorem fut_priv (f : Fut z1 z) {p : Addr} {o : HO} (h1 : z1.H p = none) : Fut z1 ⟨z.S, upd z.H p o, z.ms⟩ :=
  ⟨f.ss, f.pre, fun a u e n t => (upd_ne (ne_of_none e h1)).trans (f.frame a u e n t), fun a u e t => by
    obtain ⟨u', e', t'⟩ := f.dom a u e t
    exact ⟨u', (upd_ne (ne_of_none e h1)).trans e', t'⟩, fun a u e t n => f.claim a u e t n, f.new⟩
/-- the private list at L, seen behind a step -/
structure Priv (z : Z) (L : Addr) (vs : List V) : Prop where
  at_ : z.H L = some (.lst vs)
  s : z.S L = none
  m : L ∉ z.ms
theorem nt_lst {vs : List V} : notTbl (.lst vs) := fun _ e => by cases e
theorem Priv.fut {L : Addr} {vs : List V} (p : Priv z L vs) {z2 : Z} (f : Fut z z2) : Priv z2 L vs :=
  ⟨f.frame _ _ p.at_ p.m nt_lst, (f.claim _ _ p.at_ nt_lst p.m).trans p.s, fun m => by
    rcases f.new _ m with q | q
    · exact p.m q
    · exact q _ p.at_ nt_lst⟩
/-- at the end the list is let go -/
theorem priv_end {L : Addr} {vs : List V} {acc : List D} {own : Bool} {W : XK} {Q : VK} (p : Priv z L vs) (h1 : z1.H L = none) (f : Fut z1 z) (c : Cells G z τ) (r : Reps G z.S acc vs) (q : Run G (RepU G) (allocL own acc τ) W z1 Q) : Q (.ref L) z.H := by
  cases own with
  | false =>
    refine q ⟨upd z.S L (.lst vs), z.H, z.ms⟩ (.ref L) ⟨f.ss.trans (same_upd p.s), f.pre, f.frame, f.dom, fun a u e t n => (upd_ne (ne_of_none e h1)).trans (f.claim a u e t n), f.new⟩ ?_ (.d (.lst upd_same (Reps.mono (same_upd p.s) _ _ r)))
    refine ⟨fun b u e => ?_, c.len, c.nd, c.al, fun i a cl e1 e2 => ?_, c.tab, fun b u e => ?_⟩
    · by_cases hb : b = L
      · have e : upd z.S L (.lst vs) b = some u := e
        rw [hb, upd_same] at e
        rw [hb, ← e]
        exact p.at_
      · have e : upd z.S L (.lst vs) b = some u := e
        rw [upd_ne hb] at e
        exact c.sub b u e
    · have ne : a ≠ L := fun q => p.m (q ▸ List.mem_of_getElem? e1)
      exact (c.at_ i a cl e1 e2).more (same_upd p.s) (fun n => (upd_ne ne).trans n) fun u e => e
    · by_cases hb : b = L
      · have e : upd z.S L (.lst vs) b = some u := e
        rw [hb, upd_same] at e
        cases e
        exact nt_lst
      · have e : upd z.S L (.lst vs) b = some u := e
        rw [upd_ne hb] at e
        exact c.nt b u e
  | true =>
    refine q ⟨z.S, z.H, z.ms ++ [L]⟩ (.ref L) ⟨f.ss, f.pre.trans (List.prefix_append _ _), f.frame, f.dom, f.claim, fun a m => ?_⟩ ?_ (.loc ?_)
    · rcases List.mem_append.mp m with m | m
      · exact f.new a m
      · refine .inr fun u e => ?_
        rw [List.mem_singleton.mp m, h1] at e
        cases e
    · refine ⟨c.sub, by simp [c.len], ?_, fun a m => ?_, fun i a cl e1 e2 => ?_, c.tab, c.nt⟩
      · refine List.nodup_append.mpr ⟨c.nd, by simp, fun a ha b hb => ?_⟩
        rw [List.mem_singleton.mp hb]
        exact fun q => p.m (q ▸ ha)
      · rcases List.mem_append.mp m with m | m
        · exact c.al a m
        · rw [List.mem_singleton.mp m]
          exact ⟨_, p.at_, trivial⟩
      · have e1 : (z.ms ++ [L])[i]? = some a := e1
        by_cases hi : i < z.ms.length
        · rw [List.getElem?_append_left hi] at e1
          rw [List.getElem?_append_left (by rw [← c.len]; exact hi)] at e2
          exact c.at_ i a cl e1 e2
        · have hl := (List.getElem?_eq_some_iff.mp e1).1
          have hi2 : i = z.ms.length := by
            rw [List.length_append, List.length_singleton] at hl
            omega
          subst hi2
          rw [List.getElem?_append_right (Nat.le_refl _)] at e1
          rw [c.len, List.getElem?_append_right (Nat.le_refl _)] at e2
          simp only [Nat.sub_self, List.getElem?_cons_zero, Option.some.injEq] at e1 e2
          subst e1 e2
          exact ⟨p.s, vs, p.at_, r⟩
    · show (z.ms ++ [L])[τ.length]? = some L
      rw [← c.len, List.getElem?_append_right (Nat.le_refl _)]
      simp
end
section
variable {X : Cx} {G : Gd} {W : WX} {elt tg iter : Expr} {ifs : List Expr} {scope : Scope} {vsl : List (Str × Nat)} {pos : Pos} {gt : TG} {t : TGv} {is : List Nat} {fi : ED} {tb : EB} {fe : EV} {own : Bool}
/-- what a comprehension's reading asks -/
theorem lc_read (ht : TgS G gt t is) (his : ∀ i ∈ is, i ∈ vsl.map (·.2)) {σ : L2.St} {H : Hp} {Q : VK} (h : VE G W (eLc own fi t tb fe (vsl.map (·.2))) σ H Q) : tLc (VI G W fi) gt (VB G W0 tb) (VE G W0 fe) (vsl.map (·.2)) σ H Q := by
  obtain ⟨z, ρ, τ, hz, c, en, q⟩ := h
  refine ⟨z, ρ, τ, hz, c, en, (Run.bind q).imp fun J H1 ⟨z1, ds, τ1, e1, f1, c1, J1, q1⟩ => ?_⟩
  subst e1
  intro L hL
  have en1 := wipeE_ok (en.fut f1) (vsl.map (·.2))
  refine ⟨fun i m H' => m = ds.length - i ∧ i ≤ ds.length ∧ ∃ z2 τ2 acc vs, z2.H = H' ∧ Fut z1 z2 ∧ Cells G z2 τ2 ∧ Priv z2 L vs ∧ Reps G z2.S acc vs ∧
      Run G (RepU G) ((compGo t tb fe (wipeE ρ (vsl.map (·.2))) (ds.drop i) τ2 acc).bind fun acc τ2 => allocL own acc τ2) (fun c d H' => W c d σ H') z1 Q, ⟨ds.length, by simp, Nat.zero_le _, ?_⟩, ?_⟩
  · exact ⟨⟨z1.S, upd z1.H L (.lst []), z1.ms⟩, τ1, [], [], rfl, fut_priv (Fut.refl z1) hL, cells_priv c1 (c1.none_ hL) (c1.nin hL) (fun o' e => by rw [hL] at e; cases e), ⟨upd_same, c1.none_ hL, c1.nin hL⟩, .nil, q1⟩
  rintro i m H' ⟨rfl, hi, z2, τ2, acc, vs, rfl, f2, c2, p2, r2, q2⟩
  by_cases hlt : i < ds.length
  · refine .inr ⟨J1.goes i z2 τ2 f2 c2 hlt, fun H3 => ∃ z3 τ3 acc vs, z3.H = H3 ∧ Fut z1 z3 ∧ Cells G z3 τ3 ∧ Priv z3 L vs ∧ Reps G z3.S acc vs ∧
      Run G (RepU G) ((compGo t tb fe (wipeE ρ (vsl.map (·.2))) (ds.drop (i + 1)) τ3 acc).bind fun acc τ2 => allocL own acc τ2) (fun c d H' => W c d σ H') z1 Q, fun H3 h3 => ⟨ds.length - (i + 1), by omega, rfl, hlt, h3⟩, fun x H3 y => ?_⟩
    obtain ⟨z3, d, rfl, f3, c3, m3, e3, r3⟩ := J1.yields i z2 τ2 x H3 f2 c2 hlt y
    rw [drop_at e3] at q2
    unfold compGo at q2
    cases e4 : t d (wipeE ρ (vsl.map (·.2))) with
    | none => rw [e4] at q2; exact q2.elim
    | some ρ4 =>
      rw [e4] at q2
      simp only at q2
      have en3 := ((en1.fut f2).fut f3)
      refine ht z3 τ2 d x _ ρ4 _ _ c3 r3 en3 e4 fun σ4 en4 hl4 hj4 => ⟨wipe_eq hl4 hj4 his, ?_⟩
      have q3 : Run G (RepU G) ((tb ρ4 τ2).nx.bind fun b τ1 => ((if b = true then (fe ρ4 τ1).nx.bind fun u τ2 => (match frz τ2 u with
        | some (x, τ3) => if acc.length < sizeLine then compGo t tb fe (wipeE ρ (vsl.map (·.2))) (ds.drop (i + 1)) τ3 (acc ++ [x]) else .bad
        | none => .bad) else compGo t tb fe (wipeE ρ (vsl.map (·.2))) (ds.drop (i + 1)) τ1 acc).bind fun acc τ2 => allocL own acc τ2)) (fun c d H' => W c d σ H') z1 Q := by
        cases e5 : tb ρ4 τ2 with
        | ok a τ' => rw [e5] at q2; exact q2
        | exc cc fs τ' => rw [e5] at q2; exact q2
        | bad => rw [e5] at q2; exact q2
      refine ⟨z3, ρ4, τ2, rfl, c3, en4, (Run.base (rep := EqRep) q3).imp fun b H4 ⟨z4, b', τ4, e4', f4, c4, rb, q4⟩ => ?_⟩
      subst e4'
      have rb : b' = b := rb
      subst rb
      have p4 := (p2.fut f3).fut f4
      have rr4 := Reps.mono (f3.trans f4).ss _ _ r2
      cases b' with
      | false => exact ⟨z4, τ4, acc, vs, rfl, (f2.trans f3).trans f4, c4, p4, rr4, q4⟩
      | true =>
        rw [if_pos rfl]
        rw [if_pos rfl] at q4
        have q5 : Run G (RepU G) ((fe ρ4 τ4).nx.bind fun u τ2 => ((match frz τ2 u with
          | some (x, τ3) => if acc.length < sizeLine then compGo t tb fe (wipeE ρ (vsl.map Prod.snd)) (ds.drop (i + 1)) τ3 (acc ++ [x]) else .bad
          | none => .bad).bind fun acc τ2 => allocL own acc τ2)) (fun c d H' => W c d σ H') z1 Q := by
          cases e5 : fe ρ4 τ4 with
          | ok a τ' => rw [e5] at q4; exact q4
          | exc cc fs τ' => rw [e5] at q4; exact q4
          | bad => rw [e5] at q4; exact q4
        refine ⟨z4, ρ4, τ4, rfl, c4, en4.fut f4, (Run.base (rep := RepU G) q5).imp fun v H5 ⟨z5, u, τ5, e5, f5, c5, ru, q6⟩ => ?_⟩
        subst e5
        have p5 := p4.fut f5
        have rr5 := Reps.mono f5.ss _ _ rr4
        cases e6 : frz τ5 u with
        | none => rw [e6] at q6; exact q6.elim
        | some pr =>
          obtain ⟨xd, τ6⟩ := pr
          rw [e6] at q6
          simp only at q6
          obtain ⟨z6, h6, f6, c6, rx, m6⟩ := frz_ok c5 ru e6
          have p6 := p5.fut f6
          have rr6 := Reps.mono f6.ss _ _ rr5
          by_cases hs : acc.length < sizeLine
          · rw [if_pos hs] at q6
            refine ⟨vs, p5.at_, by rw [← rr5.length]; exact hs, ?_⟩
            rw [← h6]
            refine ⟨⟨z6.S, upd z6.H L (.lst (vs ++ [v])), z6.ms⟩, τ6, acc ++ [xd], vs ++ [v], rfl, fut_priv ((((f2.trans f3).trans f4).trans f5).trans f6) hL, cells_priv c6 p6.s p6.m (fun o' e => ?_), ⟨upd_same, p6.s, p6.m⟩, rr6.append (.cons rx .nil), q6⟩
            rw [p6.at_] at e
            cases e
            trivial
          · rw [if_neg hs] at q6; exact q6.elim
  · have e : i = ds.length := by omega
    subst e
    rw [List.drop_length] at q2
    exact .inl ⟨J1.stops z2 τ2 f2 c2, priv_end p2 hL f2 c2 r2 q2⟩
theorem vts_nil : PTs X [] (VB G W0 bYes) := ⟨fun pins s σ H Q I ⟨z, ρ, τ, hz, c, en, q⟩ => pts_nil.run pins s σ H Q I (by subst hz; exact Run.ok (rep := EqRep) q c rfl)⟩
theorem vts_one {c : Expr} (h : PT X c (VB G W0 tb)) : PTs X [c] (VB G W0 tb) := pts_one h
theorem v_lc (hc : X.calm = true) (hN : X.N.Nodup) (hi : PI X tg iter (VI G W fi)) (ok : BlkOk X.N X.env.scope scope vsl)
    (hg : ∀ (s : Shared) (H : Hp) (C : Addr) (cl : List (Str × Addr)) (fp : List Addr), PG (X.blk s H scope (compEnvC scope cl C X.env) fp) tg gt) (ht : TgS G gt t is) (his : ∀ i ∈ is, i ∈ vsl.map (·.2))
    (htt : ∀ (s : Shared) (H : Hp) (C : Addr) (cl : List (Str × Addr)) (fp : List Addr), PTs (X.blk s H scope (compEnvC scope cl C X.env) fp) ifs (VB G W0 tb))
    (he : ∀ (s : Shared) (H : Hp) (C : Addr) (cl : List (Str × Addr)) (fp : List Addr), PE (X.blk s H scope (compEnvC scope cl C X.env) fp) elt (VE G W0 fe)) (hs : ∀ x, foldedSetIterable iter X.env x = pure x := by intro _; rfl) :
    PE X (.ListComp elt [⟨tg, iter, ifs, 0⟩] scope pos) (VE G W (eLc own fi t tb fe (vsl.map (·.2)))) :=
  pe_weak (pe_lc hc hN hi ok hg htt he hs) fun _ _ _ h => lc_read ht his h
/-- name = [..] -/
theorem s_setLc {i : Nat} {y : Str} {py spos : Pos} (hc : X.calm = true) (hN : X.N.Nodup) (hy : X.N[i]? = some y) (hyl : X.env.scope.names.lookup y = some .local)
    (hsw : swapsWith (.ListComp elt [⟨tg, iter, ifs, 0⟩] scope pos) (some (.Name y py)) spos.line X.env = pure true) (hi : PI X tg iter (VI G W fi)) (ok : BlkOk X.N X.env.scope scope vsl)
    (hg : ∀ (s : Shared) (H : Hp) (C : Addr) (cl : List (Str × Addr)) (fp : List Addr), PG (X.blk s H scope (compEnvC scope cl C X.env) fp) tg gt) (ht : TgS G gt t is) (his : ∀ i ∈ is, i ∈ vsl.map (·.2))
    (htt : ∀ (s : Shared) (H : Hp) (C : Addr) (cl : List (Str × Addr)) (fp : List Addr), PTs (X.blk s H scope (compEnvC scope cl C X.env) fp) ifs (VB G W0 tb))
    (he : ∀ (s : Shared) (H : Hp) (C : Addr) (cl : List (Str × Addr)) (fp : List Addr), PE (X.blk s H scope (compEnvC scope cl C X.env) fp) elt (VE G W0 fe)) (hs : ∀ x, foldedSetIterable iter X.env x = pure x := by intro _; rfl) :
    PS X (.Assign [.Name y py] (.ListComp elt [⟨tg, iter, ifs, 0⟩] scope pos) spos) (VS G W (gSet i (eLc own fi t tb fe (vsl.map (·.2))))) :=
  ps_weak (ps_setLc hc hN hy hyl hsw hi ok hg htt he hs) fun D σ H ⟨z, ρ, τ, hz, c, en, q⟩ => lc_read ht his ⟨z, ρ, τ, hz, c, en, (RunS.lift (rep := RepU G) en q).imp fun v H1 ⟨z1, u, τ1, e1, f, c1, r1, q1⟩ => by
    subst e1
    exact RunS.nx_ q1 c1 ((en.fut f).set r1)⟩
end
end VL

/-! The value layer, 7: defs and their calls. -/
namespace VL
open PySem PySem.Spec PyProof.Rows L2 LamX

/-- a def keeps a promise, where nothing is being shown -/
structure FnV (P : Program) (w : World) (K : PySem.W.Frag) (mg : Str → Option Value) (base : Heap) (k : Nat) (f : Addr) (fd : FuncData) (ps : List Str) (sp : Sp) : Prop where
  len : ∀ vs H Q E, sp vs H Q E → vs.length = ps.length
  run : ∀ (A : Around) (outer : List PySem.Env) (s : Shared) (H : Hp) (args : Args) (us : List Value) (vs : List V) (Q : VK) (E : XK), Room k A → A.guards = some [] → Env0 P w K mg base A outer s H → BindsTo s fd args (ps.zip us) → Vals vs us →
    sp vs H Q E → codeAny (model P w) A (.call (.ref f) args) (CR (L2.CX P w) outer P w H s Q E) s
theorem FnV.mono {P : Program} {w : World} {K : PySem.W.Frag} {mg : Str → Option Value} {base : Heap} {j k : Nat} {f : Addr} {fd : FuncData} {ps : List Str} {sp : Sp} (F : FnV P w K mg base j f fd ps sp) (h : j ≤ k) : FnV P w K mg base k f fd ps sp :=
  ⟨F.len, fun A outer s H args us vs Q E hr => F.run A outer s H args us vs Q E (hr.mono h)⟩
/-- the promise: by data -/
def spV (G : Gd) (n : Nat) (F : List U → Store → R U) : Sp := fun vs H Q E => ∃ z us τ, z.H = H ∧ Cells G z τ ∧ RepUs G z us vs ∧ us.length = n ∧ Run G (RepU G) (F us τ) E z Q
theorem spV_len {G : Gd} {n : Nat} {F : List U → Store → R U} {ps : List Str} (h : ps.length = n) (vs : List V) (H : Hp) (Q : VK) (E : XK) (q : spV G n F vs H Q E) : vs.length = ps.length := by
  obtain ⟨z, us, τ, _, _, r, hl, _⟩ := q
  rw [← r.length, hl, h]
section
variable {P : Program} {w : World} {K : PySem.W.Frag} {mg : Str → Option Value} {base : Heap}
theorem fnv_mk {x qual : Str} {st : Stmt} {f : Addr} {fd : FuncData} {N ps : List Str} {k : Nat} {sp : Sp} (F : Fun K x qual st f fd) (S : FnScope N ps (defScope st)) (len : ∀ vs H Q E, sp vs H Q E → vs.length = ps.length)
    (hbody : ∀ (cdv : Value) (A : Around) (outer : List PySem.Env) (s : Shared) (H : Hp) (vs : List V) (Q : VK) (E : XK), Room k (A.deeper (envOfC qual (defScope st) s.heap.objs.size f cdv)) → A.guards = some [] → sp vs H Q E →
      ∃ t, PSs (cxOf (L2.CX P w) P w K mg base N qual (defScope st) f cdv A outer s H E) (defBody st) t ∧ t { nx := fun _ H' => Q .non H', rt := Q } (L2.start N vs) H) : FnV P w K mg base (k + 1) f fd ps sp := by
  obtain ⟨oc, od, kV, doc, pm, an, cdv, ct, osl, rfl, lk, hcd⟩ := F.ex
  exact ⟨len, fun A outer s H args us vs Q E hr hg e0 hb r hsp => run_ofS lk hcd S hr e0 hb r (len _ _ _ _ hsp) fun hr' => hbody cdv A outer s H vs Q E hr' hg hsp⟩
end
/-- what a body gives its caller -/
def retU (n0 : Nat) (u : U) (τ : Store) : R U := match u with
  | .d x => .ok (.d x) (τ.take n0)
  | .loc m => if m < n0 then .ok (.loc m) (τ.take n0) else match τ[m]? with
    | some (.lst ds) => .ok (.d (.lst ds)) (τ.take n0)
    | some (.ins c fs) => .ok (.d (.ins c fs)) (τ.take n0)
    | _ => .bad
def outR (n0 : Nat) : RS → R U
  | .nx _ τ => .ok (.d .non) (τ.take n0)
  | .rt u τ => retU n0 u τ
  | .exc c fs _ τ => .exc c fs (τ.take n0)
  | _ => .bad
def callD (n : Nat) (g : GS) (us : List U) (τ : Store) : R U := outR τ.length (g (us.map some ++ List.replicate (n - us.length) none) τ)
section
variable {G : Gd} {z z' : Z} {τ : Store}
/-- back to the caller's cells -/
def Z.back (z' : Z) (n : Nat) : Z := ⟨z'.S, z'.H, z'.ms.take n⟩
theorem take_pre {α : Type} {l m : List α} (h : l <+: m) : m.take l.length = l := by
  obtain ⟨t, rfl⟩ := h
  simp
theorem cells_back {τ' : Store} (c : Cells G z' τ') (n : Nat) : Cells G (z'.back n) (τ'.take n) := by
  refine ⟨c.sub, by simp [Z.back, c.len], c.nd.sublist (List.take_sublist _ _), fun a m => c.al a (List.mem_of_mem_take m), fun i a cl e1 e2 => ?_, c.tab, c.nt⟩
  have e1 : (z'.ms.take n)[i]? = some a := e1
  rw [List.getElem?_take] at e1 e2
  split at e1
  · rename_i hi
    rw [if_pos hi] at e2
    exact c.at_ i a cl e1 e2
  · cases e1
theorem fut_back (c : Cells G z τ) (f : Fut z z') : Fut z (z'.back τ.length) := by
  have e : z'.ms.take τ.length = z.ms := by rw [← c.len]; exact take_pre f.pre
  refine ⟨f.ss, ?_, f.frame, f.dom, f.claim, fun a m => ?_⟩
  · show z.ms <+: z'.ms.take τ.length
    rw [e]
    exact List.prefix_refl _
  · have m : a ∈ z'.ms.take τ.length := m
    rw [e] at m
    exact .inl m
/-- the end of a body -/
theorem ret_ok {τ' : Store} {u : U} {v : V} {E : XK} {Q : VK} (c : Cells G z τ) (f : Fut z z') (c' : Cells G z' τ') (r : RepU G z' u v) (q : Run G (RepU G) (retU τ.length u τ') E z Q) : Q v z'.H := by
  cases r with
  | d h => exact q (z'.back τ.length) v (fut_back c f) (cells_back c' _) (.d h)
  | loc h =>
    rename_i m a
    unfold retU at q
    simp only at q
    by_cases hm : m < τ.length
    · rw [if_pos hm] at q
      refine q (z'.back τ.length) _ (fut_back c f) (cells_back c' _) (.loc ?_)
      show (z'.ms.take τ.length)[m]? = some a
      rw [List.getElem?_take, if_pos hm]
      exact h
    · rw [if_neg hm] at q
      have hne : ∀ o, z.H a = some o → ¬ notTbl o := by
        rcases f.new a (List.mem_of_getElem? h) with mem | n
        · exfalso
          obtain ⟨j, hj⟩ := List.getElem?_of_mem mem
          have hj2 := pre_get f.pre hj
          have e := nd_ix c'.nd h hj2
          have hl := (List.getElem?_eq_some_iff.mp hj).1
          rw [c.len] at hl
          omega
        · exact n
      have gen : ∀ (o : HO) (x : D) (hs : z'.S a = none) (ho : z'.H a = some o) (rx : Rep G (upd z'.S a o) x (.ref a)), Run G (RepU G) (.ok (.d x) (τ'.take τ.length)) E z Q → Q (.ref a) z'.H := by
        intro o x hs ho rx q
        have mem := List.mem_of_getElem? h
        have f1 : Fut z' ⟨upd z'.S a o, z'.H, z'.ms⟩ := fut_frz hs mem
        have c1 : Cells G ⟨upd z'.S a o, z'.H, z'.ms⟩ (τ'.set m .dead) := cells_frz c' h ho hs
        have ct : (τ'.set m .dead).take τ.length = τ'.take τ.length := by
          rw [List.take_set, List.set_eq_of_length_le (by rw [List.length_take]; omega)]
        refine q ((⟨upd z'.S a o, z'.H, z'.ms⟩ : Z).back τ.length) (.ref a) ?_ (by rw [← ct]; exact cells_back c1 _) (.d rx)
        exact fut_back c (f.trans f1)
      cases e : τ'[m]? with
      | none => rw [e] at q; exact q.elim
      | some cl =>
        have w := c'.at_ m a cl h e
        rw [e] at q
        cases cl with
        | dead => exact q.elim
        | lst ds =>
          obtain ⟨hs, vs, h1, h2⟩ := w
          exact gen _ (.lst ds) hs h1 (.lst upd_same (Reps.mono (same_upd hs) _ _ h2)) q
        | dct ds => exact q.elim
        | ins cc ds =>
          obtain ⟨hs, dx, vs, h1, h2⟩ := w
          exact gen _ (.ins cc ds) hs h1 (.ins upd_same (RepF.mono (same_upd hs) _ _ h2)) q
theorem env_start {us : List U} {vs : List V} {N : List Str} (r : RepUs G z us vs) : EnvR G z (us.map some ++ List.replicate (N.length - us.length) none) (L2.start N vs) := by
  have hl := r.length
  refine ⟨by simp [L2.start, hl], fun i u e => ?_⟩
  by_cases hi : i < us.length
  · rw [List.getElem?_append_left (by simpa using hi), List.getElem?_map] at e
    have : ∀ {us : List U} {vs : List V} (r : RepUs G z us vs) (i : Nat) (u : U), us[i]? = some u → ∃ v, vs[i]? = some v ∧ RepU G z u v := by
      intro us vs r
      induction r with
      | nil => intro i u e; simp at e
      | cons h t ih =>
        intro i u e
        cases i with
        | zero =>
          rw [List.getElem?_cons_zero] at e
          cases e
          exact ⟨_, rfl, h⟩
        | succ i => simpa using ih i u (by simpa using e)
    cases q : us[i]? with
    | none => rw [q] at e; cases e
    | some u' =>
      rw [q] at e
      cases e
      obtain ⟨v, h1, h2⟩ := this r i _ q
      exact ⟨v, by unfold L2.start; rw [List.getElem?_append_left (by rw [List.length_map, ← hl]; exact hi), List.getElem?_map, h1]; rfl, h2⟩
  · rw [List.getElem?_append_right (by simpa using Nat.le_of_not_lt hi)] at e
    rw [List.getElem?_replicate] at e
    split at e <;> cases e
/-- a def by its body's reading -/
theorem fn_body {P : Program} {w : World} {K : PySem.W.Frag} {mg : Str → Option Value} {base : Heap} {x qual : Str} {st : Stmt} {f : Addr} {fd : FuncData} {N ps : List Str} {k n : Nat} {g : GS} (F : Fun K x qual st f fd) (S : FnScope N ps (defScope st)) (hn : ps.length = n)
    (hbody : ∀ (cdv : Value) (A : Around) (outer : List PySem.Env) (s : Shared) (H : Hp) (E : XK), Room k (A.deeper (envOfC qual (defScope st) s.heap.objs.size f cdv)) → A.guards = some [] →
      PSs (cxOf (L2.CX P w) P w K mg base N qual (defScope st) f cdv A outer s H E) (defBody st) (VS G (fun c d _ H => E c d H) g)) : FnV P w K mg base (k + 1) f fd ps (spV G n (callD N.length g)) := by
  refine fnv_mk F S (spV_len hn) fun cdv A outer s H vs Q E hr hg hsp => ⟨_, hbody cdv A outer s H E hr hg, ?_⟩
  obtain ⟨z, us, τ, hz, c, r, hl, q⟩ := hsp
  subst hz
  refine ⟨z, us.map some ++ List.replicate (N.length - us.length) none, τ, rfl, c, env_start r, ?_⟩
  unfold callD at q
  cases e : g (us.map some ++ List.replicate (N.length - us.length) none) τ with
  | nx ρ τ' =>
    rw [e] at q
    exact fun z' σ' f' c' en' => ret_ok (u := .d .non) (v := .non) c f' c' (.d .non) q
  | rt u τ' =>
    rw [e] at q
    exact fun z' v f' c' r' => ret_ok c f' c' r' q
  | exc cc fs ρ τ' =>
    rw [e] at q
    exact fun z' dd vs σ' f' c' en' s' r' => q (z'.back τ.length) dd vs (fut_back c f') (cells_back c' _) s' r'
  | bk ρ τ' => rw [e] at q; exact q.elim
  | ct ρ τ' => rw [e] at q; exact q.elim
  | bad => rw [e] at q; exact q.elim
end

/-! ### calls -/
/-- arguments by place: of us, ws, ds together -/
def pickL {α : Type} (os : List Nat) (l : List α) : List α := os.filterMap fun i => l[i]?
theorem pick_vals : ∀ {os : List Nat} {vs : List V} {us : List Value}, Vals vs us → Vals (pickL os vs) (pickL os us)
  | [], _, _, _ => .nil
  | i :: os, vs, us, r => by
    unfold pickL
    cases e : vs[i]? with
    | none =>
      have e2 := Vals.none_of r e
      rw [List.filterMap_cons, List.filterMap_cons, e, e2]
      exact pick_vals (os := os) r
    | some v =>
      obtain ⟨u, e2, rv⟩ := Vals.get r e
      rw [List.filterMap_cons, List.filterMap_cons, e, e2]
      exact .cons rv (pick_vals (os := os) r)
theorem RepUs.append {G : Gd} {z : Z} : ∀ {us ws : List U} {vs xs : List V}, RepUs G z us vs → RepUs G z ws xs → RepUs G z (us ++ ws) (vs ++ xs)
  | _, _, _, _, .nil, k => k
  | _, _, _, _, .cons h t, k => .cons h (RepUs.append t k)
theorem pick_reps {G : Gd} {z : Z} : ∀ {os : List Nat} {us : List U} {vs : List V}, RepUs G z us vs → RepUs G z (pickL os us) (pickL os vs)
  | [], _, _, _ => .nil
  | i :: os, us, vs, r => by
    have get : ∀ {us : List U} {vs : List V} (r : RepUs G z us vs) (i : Nat), (us[i]? = none ∧ vs[i]? = none) ∨ ∃ u v, us[i]? = some u ∧ vs[i]? = some v ∧ RepU G z u v := by
      intro us vs r
      induction r with
      | nil => intro i; exact .inl ⟨by simp, by simp⟩
      | cons h t ih =>
        intro i
        cases i with
        | zero => exact .inr ⟨_, _, rfl, rfl, h⟩
        | succ i => simpa using ih i
    unfold pickL
    rcases get r i with ⟨e1, e2⟩ | ⟨u, v, e1, e2, rv⟩
    · rw [List.filterMap_cons, List.filterMap_cons, e1, e2]
      exact pick_reps (os := os) r
    · rw [List.filterMap_cons, List.filterMap_cons, e1, e2]
      exact .cons rv (pick_reps (os := os) r)
/-- how a call's values come to the parameters: n written ones, then the keywords ks, then the defaults ds -/
structure Bnd (K : PySem.W.Frag) (fd : FuncData) (ps : List Str) (n : Nat) (ks : List Str) (ds : List Value) (os : List Nat) : Prop where
  to : ∀ (s : Shared) (us ws : List Value), K.In s.heap → us.length = n → ws.length = ks.length → BindsTo s fd ⟨us, ks.zip ws⟩ (ps.zip (pickL os ((us ++ ws) ++ ds)))
def VP (G : Gd) (W : WX) (kws : List Keyword) (X : Cx) (f : EL) : Prop := PK X kws (VA G W f)
section
variable {X : Cx} {G : Gd} {W : WX} {k n : Nat} {f : Addr} {fd : FuncData} {ps ks : List Str} {F : List U → Store → R U} {ds : List Value} {dvs : List D} {os : List Nat}
theorem run_fnv {sp : Sp} {E : XK} {pins : List (Addr × Obj)} {σ : L2.St} {H : Hp} {s : Shared} {Q : VK} {us : List Value} {kw : List (Str × Value)} {ws : List Value} {vs : List V} (V : FnV X.prog X.w X.K X.mg X.base k f fd ps sp) (hr : Room k X.A) (hg : X.A.guards = some [])
    (hx : ∀ e s', L2.CX X.prog X.w X.stack H s E e s' → X.xe e s') (I : Inv X pins σ H s) (hb : BindsTo s fd ⟨us, kw⟩ (ps.zip ws)) (r : Vals vs ws) (h : sp vs H Q E) : wpAny (model X.prog X.w) X.A (call (.ref f) us kw) (EP X pins σ Q) X.xe s := by
  refine wpAny_call (codeAny_mono (V.run X.A X.stack s H ⟨us, kw⟩ ws vs Q E hr hg I.env0 hb r h) fun res s' hq => ?_)
  match res, hq with
  | .error e, hq => exact hx e s' hq
  | .ok (.ret u), hq => exact I.after hq
/-- constants behind the arguments -/
theorem reps_consts {z : Z} : ∀ {dvs : List D} {vds : List V}, (∀ S, Reps G S dvs vds) → RepUs G z (dvs.map U.d) vds := by
  intro dvs
  induction dvs with
  | nil =>
    intro vds h
    have q := h z.S
    cases q
    exact .nil
  | cons d dvs ih =>
    intro vds h
    have q := h z.S
    cases q with
    | cons h1 h2 => exact .cons (.d h1) (ih fun S => by
      have q2 := h S
      cases q2 with
      | cons _ b => exact b)
/-- a call with written arguments alone -/
def gCall (n : Nat) (F : List U → Store → R U) (us : List U) (τ : Store) : R U := if us.length = n then F us τ else .bad
def eCall (n : Nat) (F : List U → Store → R U) (fs : EL) : EV := fun ρ τ => (fs ρ τ).bind (gCall n F)
@[simp] theorem gCall_1 (F : List U → Store → R U) (a : U) (τ : Store) : gCall 1 F [a] τ = F [a] τ := rfl
@[simp] theorem gCall_2 (F : List U → Store → R U) (a b : U) (τ : Store) : gCall 2 F [a, b] τ = F [a, b] τ := rfl
@[simp] theorem gCall_3 (F : List U → Store → R U) (a b c : U) (τ : Store) : gCall 3 F [a, b, c] τ = F [a, b, c] τ := rfl
@[simp] theorem gCall_4 (F : List U → Store → R U) (a b c d : U) (τ : Store) : gCall 4 F [a, b, c, d] τ = F [a, b, c, d] τ := rfl
structure Bnd0 (fd : FuncData) (ps : List Str) (n : Nat) : Prop where
  to : ∀ (s : Shared) (us : List Value), us.length = n → BindsTo s fd ⟨us, []⟩ (ps.zip us)
theorem v_call {x : Str} {p pos : Pos} {e : Expr} {es : List Expr} {fs : EL} (V : FnV X.prog X.w X.K X.mg X.base k f fd ps (spV G n F)) (hr : Room k X.A) (hgd : X.A.guards = some []) (tk : Takes X W) (hm : X.mg x = some (.ref f)) (hk : PySem.W.keepIn X.K (.ref f) = true)
    (hb : Bnd0 fd ps n) (ha : PA X (e :: es) (VA G W fs)) (hg : Gl X x)
    (hdb : (x == ("__debug__" : Str)) = false := by decide) (he : starEach (e :: es) X.env = (false, eval e X.env) :: starEach es X.env := by rfl) (hpl : (backTo pos (starEach es X.env)).any (·.1) = false := by rfl) :
    PE X (.Call (.Name x p) (e :: es) [] pos) (VE G W (eCall n F fs)) := by
  refine ⟨fun pins s σ H Q I ⟨z, ρ, τ, hz, c, en, q⟩ => ?_⟩
  refine wpAny_Call_Name_kw (ld_glob I hg hm ?_ hdb)
  have h1 := ha.run pos pins s σ H _ I ⟨z, ρ, τ, hz, c, en, Run.bind q⟩
  refine PySem.W.callWith_K (h₀ := X.base) I.ok.mod.kin hk (thn h1 fun us s1 hq => ?_) he hpl
  obtain ⟨vs, H1, I1, r, z1, uu, τ1, e1, f1, c1, r1, q1⟩ := hq
  refine ⟨I1.kIn, ?_⟩
  subst e1
  unfold gCall at q1
  by_cases hl : uu.length = n
  · rw [if_pos hl] at q1
    refine run_fnv V hr hgd (passAt tk σ pins _ _ · · I1) I1 (hb.to s1 us ?_) r ⟨z1, uu, τ1, rfl, c1, r1, hl, q1⟩
    rw [← r.length, ← r1.length, hl]
  · rw [if_neg hl] at q1; exact q1.elim
theorem v_call0 {x : Str} {p pos : Pos} (V : FnV X.prog X.w X.K X.mg X.base k f fd ps (spV G 0 F)) (hr : Room k X.A) (hgd : X.A.guards = some []) (tk : Takes X W) (hm : X.mg x = some (.ref f)) (hk : PySem.W.keepIn X.K (.ref f) = true)
    (hb : Bnd0 fd ps 0) (hg : Gl X x) (hdb : (x == ("__debug__" : Str)) = false := by decide) : PE X (.Call (.Name x p) [] [] pos) (VE G W fun _ τ => F [] τ) := by
  refine ⟨fun pins s σ H Q I ⟨z, ρ, τ, hz, c, en, q⟩ => ?_⟩
  refine wpAny_Call_Name_kw (ld_glob I hg hm ?_ hdb)
  exact PySem.W.callWith_K0 I.kIn hk (run_fnv (us := []) (vs := []) V hr hgd (passAt tk σ pins _ _ · · I) I (hb.to s [] rfl) .nil ⟨z, [], τ, hz, c, .nil, rfl, by subst hz; exact q⟩)
/-- a call with keywords or defaults -/
def gCallK (n m : Nat) (os : List Nat) (dvs : List D) (F : List U → Store → R U) (us ws : List U) (τ : Store) : R U := if us.length = n ∧ ws.length = m then F (pickL os ((us ++ ws) ++ dvs.map U.d)) τ else .bad
def eCallK (n : Nat) (m : Nat) (os : List Nat) (dvs : List D) (F : List U → Store → R U) (fs fk : EL) : EV := fun ρ τ => (fs ρ τ).bind fun us τ1 => (fk ρ τ1).bind fun ws τ2 => gCallK n m os dvs F us ws τ2
theorem vp_nil : PK X [] (VA G W elNil) := ⟨fun pos pins s σ H Q I ⟨z, ρ, τ, hz, c, en, q⟩ => pk_nil.run pos pins s σ H Q I (by subst hz; exact Run.ok (rep := RepUs G) q c .nil)⟩
theorem vp_cons {nm : Option Str} {e : Expr} {kpos : Pos} {kws : List Keyword} {fa : EV} {fr : EL} (ha : PE X e (VE G W fa)) (hr : PK X kws (VA G W fr)) : PK X (⟨nm, e, kpos⟩ :: kws) (VA G W (elCons fa fr)) :=
  ⟨fun pos pins s σ H Q I ⟨z, ρ, τ, hz, c, en, q⟩ => (pk_cons (nm := nm) (kpos := kpos) ha hr).run pos pins s σ H Q I ⟨z, ρ, τ, hz, c, en, (Run.bind q).imp fun x H1 ⟨z1, u, τ1, e1, f, c1, r1, q1⟩ => by
    subst e1
    refine ⟨z1, ρ, τ1, rfl, c1, en.fut f, (Run.bind q1).imp fun xs H2 ⟨z2, us, τ2, e2, f2, c2, r2, q2⟩ => ?_⟩
    subst e2
    exact Run.ok (rep := RepUs G) q2 c2 (.cons (r1.fut f2) r2)⟩⟩
theorem kw_run {m : Nat} {kw : List Str} {pins : List (Addr × Obj)} {σ : L2.St} {s : Shared} {Q : VK} {us ws : List Value} {vs xs : List V} {vds : List V} {z : Z} {uu wu : List U} {τ : Store} (V : FnV X.prog X.w X.K X.mg X.base k f fd ps (spV G n F)) (hr : Room k X.A) (hgd : X.A.guards = some []) (tk : Takes X W)
    {a : Nat} (hb : Bnd X.K fd ps a kw ds os) (hd : Vals vds ds) (hds : ∀ S, Reps G S dvs vds) (I : Inv X pins σ z.H s) (r : Vals vs us) (r' : Vals xs ws) (c : Cells G z τ) (ru : RepUs G z uu vs) (rw' : RepUs G z wu xs) (hps : ps.length = n) (hmk : kw.length = m) (hos : ∀ l : List U, l.length = a + m + dvs.length → (pickL os l).length = n)
    (q : Run G (RepU G) (gCallK a m os dvs F uu wu τ) (fun c d H' => W c d σ H') z Q) : wpAny (model X.prog X.w) X.A (call (.ref f) us (kw.zip ws)) (EP X pins σ Q) X.xe s := by
  unfold gCallK at q
  by_cases hl : uu.length = a ∧ wu.length = m
  · rw [if_pos hl] at q
    have hh := hos ((uu ++ wu) ++ dvs.map U.d) (by simp only [List.length_append, List.length_map, hl.1, hl.2])
    refine run_fnv V hr hgd (passAt tk σ pins _ _ · · I) I (hb.to s us ws I.kIn (by rw [← r.length, ← ru.length, hl.1]) (by rw [← r'.length, ← rw'.length, hl.2, hmk])) (pick_vals ((r.append r').append hd)) ⟨z, pickL os ((uu ++ wu) ++ dvs.map U.d), τ, rfl, c, pick_reps ((ru.append rw').append (reps_consts hds)), hh, q⟩
  · rw [if_neg hl] at q; exact q.elim
theorem v_callK {m : Nat} {x : Str} {p pos : Pos} {e : Expr} {es : List Expr} {kws : List Keyword} {fs fk : EL} {vds : List V} (V : FnV X.prog X.w X.K X.mg X.base k f fd ps (spV G n F)) (hr : Room k X.A) (hgd : X.A.guards = some []) (tk : Takes X W) (hm : X.mg x = some (.ref f)) (hk : PySem.W.keepIn X.K (.ref f) = true)
    {a : Nat} (hb : Bnd X.K fd ps a ks ds os) (hd : Vals vds ds) (hds : ∀ S, Reps G S dvs vds) (hps : ps.length = n) (hmk : ks.length = m) (hos : ∀ l : List U, l.length = a + m + dvs.length → (pickL os l).length = n)
    (ha : PA X (e :: es) (VA G W fs)) (hkw : PK X kws (VA G W fk)) (hg : Gl X x) (hall : (backToKw pos (keywordEach kws X.env)).all (·.1.isSome) = true := by rfl) (hks : (backToKw pos (keywordEach kws X.env)).filterMap (·.1) = ks := by rfl)
    (hdb : (x == ("__debug__" : Str)) = false := by decide) (he : starEach (e :: es) X.env = (false, eval e X.env) :: starEach es X.env := by rfl)
    (hpl : ((backTo pos (starEach (e :: es) X.env)).any (·.1) || (backToKw pos (keywordEach kws X.env)).any (·.1.isNone)) = false := by rfl) : PE X (.Call (.Name x p) (e :: es) kws pos) (VE G W (eCallK a m os dvs F fs fk)) := by
  refine ⟨fun pins s σ H Q I ⟨z, ρ, τ, hz, c, en, q⟩ => ?_⟩
  refine wpAny_Call_Name_kw (ld_glob I hg hm ?_ hdb)
  have h1 := ha.run pos pins s σ H _ I ⟨z, ρ, τ, hz, c, en, Run.bind q⟩
  refine PySem.W.callWith_KW (h₀ := X.base) I.ok.mod.kin hk hall (thn h1 fun us s1 hq => ?_) hpl he
  obtain ⟨vs, H1, I1, r, z1, uu, τ1, e1, f1, c1, r1, q1⟩ := hq
  subst e1
  have h2 := hkw.run pos pins s1 σ z1.H _ I1 ⟨z1, ρ, τ1, rfl, c1, en.fut f1, Run.bind q1⟩
  refine thn h2 fun ws s2 hq2 => ?_
  obtain ⟨xs, H2, I2, r', z2, wu, τ2, e2, f2, c2, r2, q2⟩ := hq2
  subst e2
  refine ⟨I2.kIn, ?_⟩
  rw [hks]
  exact kw_run V hr hgd tk hb hd hds I2 r r' c2 (r1.fut f2) r2 hps hmk hos q2
theorem v_callK0 {m : Nat} {x : Str} {p pos : Pos} {kws : List Keyword} {fk : EL} {vds : List V} (V : FnV X.prog X.w X.K X.mg X.base k f fd ps (spV G n F)) (hr : Room k X.A) (hgd : X.A.guards = some []) (tk : Takes X W) (hm : X.mg x = some (.ref f)) (hk : PySem.W.keepIn X.K (.ref f) = true)
    (hb : Bnd X.K fd ps 0 ks ds os) (hd : Vals vds ds) (hds : ∀ S, Reps G S dvs vds) (hps : ps.length = n) (hmk : ks.length = m) (hos : ∀ l : List U, l.length = 0 + m + dvs.length → (pickL os l).length = n)
    (hkw : PK X kws (VA G W fk)) (hg : Gl X x) (hall : (backToKw pos (keywordEach kws X.env)).all (·.1.isSome) = true := by rfl) (hks : (backToKw pos (keywordEach kws X.env)).filterMap (·.1) = ks := by rfl)
    (hdb : (x == ("__debug__" : Str)) = false := by decide)
    (hpl : ((backTo pos (starEach [] X.env)).any (·.1) || (backToKw pos (keywordEach kws X.env)).any (·.1.isNone)) = false := by rfl) : PE X (.Call (.Name x p) [] kws pos) (VE G W (eCallK 0 m os dvs F elNil fk)) := by
  refine ⟨fun pins s σ H Q I ⟨z, ρ, τ, hz, c, en, q⟩ => ?_⟩
  refine wpAny_Call_Name_kw (ld_glob I hg hm ?_ hdb)
  have h2 := hkw.run pos pins s σ H _ I ⟨z, ρ, τ, hz, c, en, Run.bind q⟩
  refine PySem.W.callWith_KW0 (h₀ := X.base) I.ok.mod.kin hk hall (thn h2 fun ws s2 hq2 => ?_) hpl
  obtain ⟨xs, H2, I2, r', z2, wu, τ2, e2, f2, c2, r2, q2⟩ := hq2
  subst e2
  refine ⟨I2.kIn, ?_⟩
  rw [hks]
  exact kw_run (us := []) (vs := []) (uu := []) V hr hgd tk hb hd hds I2 .nil r' c2 .nil r2 hps hmk hos q2
end
end VL

/-! The value layer, 8: sorted(set(xs)) of texts. -/
namespace VL
open PySem PySem.Spec PyProof.Rows L2 LamX
namespace TxtSet
/-- the text of an entry -/
def kS (e : Int × Value) : Str := match e.2 with | .str x _ => x | _ => ⟨#[]⟩
def IsE (P : Program) (w : World) (e : Int × Value) : Prop := ∃ x u, e.2 = Value.str x u ∧ e.1 = (PySem.strKind P w).hash x
/-- a set that holds just the texts of M, in a table that can be walked -/
structure Has (P : Program) (w : World) (h : Heap) (a : Addr) (M : List Str) (o : Obj) (es : Array (Int × Value)) (ep : Nat) (t : SetTable) : Prop where
  ob : h.get? a = some o
  ex : o.ExactSet
  dat : o.data = .set es ep t
  ent : ∀ e ∈ es.toList, IsE P w e
  one : (es.toList.map kS).Nodup
  mem : ∀ x, x ∈ es.toList.map kS ↔ x ∈ M
  few : es.size ≤ M.length
  fit : t.fits es.size = true
  ris : Ris t.place.toList
  led : w.params.followText "set-order" = true ∨ t.led = true
abbrev HasS (P : Program) (w : World) (h : Heap) (a : Addr) (M : List Str) : Prop := ∃ o es ep t, Has P w h a M o es ep t
section
variable {P : Program} {w : World} {A : Around} {E : Value → Shared → Prop} {s : Shared} {a : Addr} {M : List Str} {o : Obj} {es : Array (Int × Value)} {ep : Nat} {t : SetTable}
theorem Has.to {h h' : Heap} (R : Has P w h a M o es ep t) (k : h'.get? a = some o) : Has P w h' a M o es ep t := { R with ob := k }
theorem ents {l : List (Int × Value)} (g : ∀ e ∈ l, IsE P w e) : ElemsOf (PySem.strKind P w) l := by
  intro e he
  obtain ⟨x, u, q1, q2⟩ := g e he
  refine ⟨⟨x, ?_, q2⟩, ?_⟩
  · rw [q1]; exact strKind_is P w x u
  · rw [q1]; rfl
theorem is_k {e : Int × Value} (g : IsE P w e) (x : Str) : (PySem.strKind P w).is x e.2 = true ↔ kS e = x := by
  obtain ⟨y, u, q1, _⟩ := g
  unfold kS
  rw [q1]
  exact beq_iff_eq
/-- what stands behind a store, laid again where it is too full -/
theorem tail {g : Bool → Sem Unit} (hg : ∀ (b : Bool) (r : Shared) (q : Unit → Shared → Prop), q () r → wpAny (model P w) A (g b) q E r) (R : Has P w s.heap a M o es ep t) {es1 : Array (Int × Value)} {t2 : SetTable} {M1 : List Str}
    (ent1 : ∀ e ∈ es1.toList, IsE P w e) (one1 : (es1.toList.map kS).Nodup) (mem1 : ∀ x, x ∈ es1.toList.map kS ↔ x ∈ M1) (few1 : es1.size ≤ M1.length) (hM : M1.length < scanBound) (fit1 : t2.fits es1.size = true) (ris1 : Ris t2.place.toList)
    (led1 : w.params.followText "set-order" = true ∨ t2.led = true) {dm : Bool} {Q : Option Bool → Shared → Prop} (hQ : ∀ h', Heap.SameBut a s.heap h' → HasS P w h' a M1 → Q (some true) { s with heap := h' }) :
    wpAny (model P w) A (do
      storeSet a es1 t2
      if (!dm && t2.tooFull) = true then do
        g (relayAll t2 es1 (SetTable.grown es1.size)).2.2
        storeSet a (relayAll t2 es1 (SetTable.grown es1.size)).1 (relayAll t2 es1 (SetTable.grown es1.size)).2.1
        pure (some true)
      else pure (some true)) Q E s := by
  have low1 : es1.size < scanBound := Nat.lt_of_le_of_lt few1 hM
  have at1 := L2.store_at (es' := es1) (t' := t2) R.ob R.dat
  have but1 := Heap.SameBut.update s.heap a (Obj.putSet es1 t2)
  refine wpAny_bind (wpAny_storeSet_of R.ob R.dat ?_ (fits_of_scanBound low1))
  by_cases hc : (!dm && t2.tooFull) = true
  · rw [if_pos hc]
    have f1 := relayAll_perm t2 es1 (SetTable.grown es1.size)
    have f2 := relayAll_fits t2 es1 (SetTable.grown es1.size)
    have f3 := L2.relayAll_ris t2 es1 (SetTable.grown es1.size)
    have f4 := L2.relayAll_led t2 es1 (SetTable.grown es1.size)
    revert f1 f2 f3 f4
    generalize relayAll t2 es1 (SetTable.grown es1.size) = Y
    obtain ⟨es2, t3, gv⟩ := Y
    intro f1 f2 f3 f4
    have sz : es2.size = es1.size := by simpa using f1.length_eq
    refine wpAny_bind (hg gv _ _ (wpAny_bind (wpAny_storeSet_of at1 rfl ?_ (fits_of_scanBound (sz ▸ low1)))))
    have at2 := L2.store_at (es' := es2) (t' := t3) at1 rfl
    refine wpAny_pure (hQ _ (but1.trans (Heap.SameBut.update _ a _)) ?_)
    exact Exists.intro _ <| Exists.intro es2 <| Exists.intro _ <| Exists.intro t3 { ob := at2, ex := R.ex, dat := rfl, ent := fun e he => ent1 e (f1.mem_iff.mp he), one := ((f1.map kS).nodup_iff).mpr one1, mem := fun x => ((f1.map kS).mem_iff).trans (mem1 x), few := sz ▸ few1, fit := f2, ris := f3, led := led1.elim .inl fun z => .inr (f4.trans z) }
  · rw [if_neg hc]
    exact wpAny_pure (hQ _ but1 ⟨_, es1, _, t2, { ob := at1, ex := R.ex, dat := rfl, ent := ent1, one := one1, mem := mem1, few := few1, fit := fit1, ris := ris1, led := led1 }⟩)
theorem add {x : Str} {u : Tok} {Q : Bool → Shared → Prop} (R : Has P w s.heap a M o es ep t) (hM : M.length + 1 < scanBound) (hQ : ∀ b h', Heap.SameBut a s.heap h' → HasS P w h' a (M ++ [x]) → Q b { s with heap := h' }) :
    wpAny (model P w) A (setAddHashed a (.str x u) ((PySem.strKind P w).hash x)) Q E s := by
  have isx : (PySem.strKind P w).is x (.str x u) = true := strKind_is P w x u
  have sc : (Value.str x u).scannable = true := rfl
  have el := ents R.ent
  have low : es.size < scanBound := by have := R.few; omega
  unfold setAddHashed setAddHashedIn
  refine wpAny_holding (wpAny_bind (wpAny_setState_of R.ob R.dat R.fit ?_))
  dsimp only
  rw [byScan_of sc low el, if_pos rfl]
  unfold setAddByScan
  refine wpAny_bind (wpAny_bind (wpAny_rule (wpAny_bind (wpAny_setScan_of isx R.ob R.dat R.fit el ?_))))
  cases q : List.findIdx? (fun e => (PySem.strKind P w).is x e.2) es.toList with
  | some j =>
    obtain ⟨jl, jp, _⟩ := List.findIdx?_eq_some_iff_getElem.mp q
    have xin : x ∈ es.toList.map kS := List.mem_map.mpr ⟨_, List.getElem_mem jl, (is_k (R.ent _ (List.getElem_mem jl)) x).mp jp⟩
    refine wpAny_pure (wpAny_pure (hQ _ s.heap (Heap.SameBut.refl a s.heap) ⟨o, es, ep, t, { R with mem := fun y => ?_, few := by have := R.few; simp; omega }⟩))
    rw [List.mem_append, List.mem_singleton, ← R.mem y]
    exact ⟨.inl, fun z => z.elim id fun e => e ▸ xin⟩
  | none =>
    have xout : x ∉ es.toList.map kS := by
      intro z
      obtain ⟨e, he, ek⟩ := List.mem_map.mp z
      have z2 := List.findIdx?_eq_none_iff.mp q e he
      rw [(is_k (R.ent e he) x).mpr ek] at z2
      cases z2
    have f1 := layNew_perm t es ((PySem.strKind P w).hash x) (.str x u)
    have f2 := layNew_fits t es ((PySem.strKind P w).hash x) (.str x u)
    have f3 := L2.layNew_ris t es ((PySem.strKind P w).hash x) (.str x u) R.ris
    have f4 := L2.layNew_led t es ((PySem.strKind P w).hash x) (.str x u)
    dsimp only
    revert f1 f2 f3 f4
    generalize layNew t es ((PySem.strKind P w).hash x) (.str x u) = Y
    obtain ⟨es1, t1, dm, gv⟩ := Y
    intro f1 f2 f3 f4
    dsimp only at f1 f2 f3 f4 ⊢
    rw [Array.toList_push] at f1
    have pc := f1.trans (List.perm_append_singleton _ _)
    have pk := pc.map kS
    have ent1 : ∀ e ∈ es1.toList, IsE P w e := by
      intro e he
      rcases List.mem_cons.mp (pc.mem_iff.mp he) with z | z
      · exact z ▸ ⟨x, u, rfl, rfl⟩
      · exact R.ent e z
    have one1 : (es1.toList.map kS).Nodup := pk.nodup_iff.mpr (List.nodup_cons.mpr ⟨xout, R.one⟩)
    have mem1 : ∀ y, y ∈ es1.toList.map kS ↔ y ∈ M ++ [x] := by
      intro y
      rw [pk.mem_iff, List.map_cons, List.mem_cons, List.mem_append, List.mem_singleton, R.mem y]
      exact or_comm
    have sz : es1.size = es.size + 1 := by simpa using pc.length_eq
    have few1 : es1.size ≤ (M ++ [x]).length := by have := R.few; rw [sz, List.length_append, List.length_singleton]; omega
    have hM1 : (M ++ [x]).length < scanBound := by rw [List.length_append, List.length_singleton]; exact hM
    have led1 : w.params.followText "set-order" = true ∨ t1.led = true := R.led.elim .inl fun z => .inr (f4.trans z)
    have any : ∀ (b : Bool) (r : Shared) (q : Unit → Shared → Prop), q () r → wpAny (model P w) A (match b with | true => rule "set.scan.the-table-gave-way" | false => pure ()) q E r := by
      intro b r q hq
      cases b
      · exact wpAny_pure hq
      · exact wpAny_rule hq
    refine wpAny_bind (any gv _ _ ?_)
    split
    · refine wpAny_bind ?_
      rw [hashByValue_scannable 8 sc]
      refine wpAny_pure (tail any R ent1 one1 mem1 few1 hM1 ?_ ?_ ?_ fun h' sb r => wpAny_pure (hQ _ h' sb r))
      · split
        · exact f2
        · exact SetTable.fits_plain_off f2
      · split <;> exact f3
      · split <;> exact led1
    · refine wpAny_bind (wpAny_pure ?_)
      rw [if_pos rfl]
      exact tail any R ent1 one1 mem1 few1 hM1 f2 f3 led1 fun h' sb r => wpAny_pure (hQ _ h' sb r)
/-- the loop that adds one text behind the other -/
theorem loop {I : Addr} {fp wr : List Addr} {Gn : Array GenState → Array GenState → Prop} {n : Nat} {Pv : Nat → Value → Prop} {St : Nat → Shared → Prop} {R : Result → Shared → Prop} (W : WalksS P w A.in1 I fp wr Gn n Pv St) (hfp : a ∉ fp) (xs : List Str)
    (hn : n = xs.length) (hb : xs.length + 1 < scanBound) (hv : ∀ i v, Pv i v → ∃ x u, xs[i]? = some x ∧ v = .str x u) : ∀ (m i : Nat) (s : Shared), m + i = n → St i s → HasS P w s.heap a (xs.take i) →
      (∀ s', Moved (a :: wr) Gn s s' → HasS P w s'.heap a xs → R (.ok (.ret .none)) s') → codeAny (model P w) A (.builtin "set.update.loop" ⟨[.ref a, .ref I], []⟩) R s := by
  have hwr : a ∉ wr := fun z => hfp (W.sub _ z)
  have more : ∀ b ∈ wr, b ∈ a :: wr := fun b z => .tail _ z
  intro m
  induction m with
  | zero =>
    intro i s hm st hs hR
    refine codeAny_builtin F.entry_set_update_loop ?_
    rw [Around.under_plainId F.plain_set_update_loop _]
    show wpAny _ A.in1 (pyNext (.ref I) >>= _) _ _ s
    refine wpAny_bind (W.done s _ _ (by rw [show n = i by omega]; exact st) fun s' mv => ?_)
    obtain ⟨o, es, ep, t, h⟩ := hs
    have hi : xs.take i = xs := List.take_of_length_le (by omega)
    rw [hi] at h
    exact wpAny_pure (hR s' (mv.mono more) ⟨o, es, ep, t, h.to (mv.heap a o hwr h.ob)⟩)
  | succ m ih =>
    intro i s hm st hs hR
    refine codeAny_builtin F.entry_set_update_loop ?_
    rw [Around.under_plainId F.plain_set_update_loop _]
    show wpAny _ A.in1 (pyNext (.ref I) >>= _) _ _ s
    refine wpAny_bind (W.item i s _ _ (by omega) st fun v s' pv st' mv => ?_)
    obtain ⟨x, u, hx, rfl⟩ := hv i v pv
    obtain ⟨o, es, ep, t, h⟩ := hs
    have h' := h.to (mv.heap a o hwr h.ob)
    show wpAny _ A.in1 (holding [Value.str x u] (setAdd a (.str x u)) >>= _) _ _ s'
    refine wpAny_bind (wpAny_holding ?_)
    unfold setAdd
    refine wpAny_holding (wpAny_bind ((PySem.strKind P w).pyHash (k := x) (strKind_is P w x u) (add (s := { s' with toks := s'.toks + 1 }) h' (by rw [List.length_take]; omega) fun b h2 sb hs2 => ?_)))
    rw [← L2.take_next hx] at hs2
    have off : ∀ b, b ≠ a → ∀ o, s'.heap.get? b = some o → h2.get? b = some o := fun b hb o e => (sb.2 b hb).trans e
    refine wpAny_pure ⟨plainId_quiet F.plain_set_update_loop _, ih (i + 1) _ (by omega) (W.frame _ s' _ _ st' (Nat.le_succ _) fun b z o e => off b (fun q => hfp (q ▸ z)) o e) hs2 fun s'' mv' hs'' => ?_⟩
    exact hR s'' (Moved.trans W.gtrans ((mv.mono more).then_heap (Nat.le_succ _) fun b o z e => off b (fun q => z (q ▸ .head _)) o e) mv') hs''
theorem led0 (w : World) : w.params.followText "set-order" = true ∨ (SetTable.fresh 0 0 (!w.params.followText "set-order")).led = true := by
  show _ ∨ (!w.params.followText "set-order") = true
  cases w.params.followText "set-order" <;> simp
theorem fresh {h : Heap} (ho : h.get? a = some { cls := .type "set", dict := none, data := .set #[] 0 (.fresh 0 0 (!w.params.followText "set-order")) }) : HasS P w h a [] :=
  ⟨_, #[], 0, _, { ob := ho, ex := ⟨rfl, rfl, rfl⟩, dat := rfl, ent := by simp, one := by simp, mem := by simp, few := by simp, fit := rfl, ris := .nil, led := (led0 w) }⟩
abbrev newSetO (w : World) : Obj := { cls := .type "set", dict := none, data := .set #[] 0 (.fresh 0 0 (!w.params.followText "set-order")) }
set_option maxHeartbeats 8000000 in
theorem made {l : Addr} {its : List Value} (xs : List Str) {Q : Value → Shared → Prop} (hh : A.handled = none) (hl : s.heap.IsList l its.toArray) (hi : StrsAre its xs) (hb : xs.length + 1 < scanBound)
    (hQ : ∀ (h' : Heap) (tk : Nat), HasS P w h' s.heap.objs.size xs → (∀ b o, s.heap.get? b = some o → h'.get? b = some o) → Q (.ref s.heap.objs.size) { s with heap := h', toks := tk }) : wpAny (model P w) A (call (.type "set") [.ref l]) Q E s := by
  obtain ⟨cm, tm, mro⟩ := F.called_set.mro
  have k1 := F.called_set.made
  have k2 := F.called_set.sub
  have k3 := F.called_set.notType
  have k4 := F.called_set.canCreate
  have k5 := F.typeCall_set_1 (.ref l)
  refine wpAny_call (codeAny_of_tree (wpAny_pure ⟨Code.quiet_builtin _ (by decide +kernel), codeAny_builtin F.entry_type_call ?_⟩))
  rw [Around.under_plain (weight_type_call_type "set" [.ref l] []) rfl]
  repeat (any_goals (first | assumption | wp_step))
  refine codeAny_mono (L2.code_set_led1 (.ref l) (E := E) (Q₁ := fun v r => v = .ref s.heap.objs.size ∧ r = { s with heap := s.heap.push (newSetO w) }) ⟨rfl, rfl⟩) fun r s₁ hr => ?_
  match r, hr with
  | .error e, hr => exact hr
  | .ok (.ret obj), hr =>
    obtain ⟨rfl, rfl⟩ := hr
    have at0 : (s.heap.push (newSetO w)).get? s.heap.objs.size = some (newSetO w) := Heap.get?_push_size _ rfl
    have ty0 : Shared.TypeIs { s with heap := s.heap.push (newSetO w) } (.ref s.heap.objs.size) "set" := ⟨_, at0, rfl⟩
    have k6 := F.called_set.init.lookup
    have k7 := F.called_set.init.bind (.ref s.heap.objs.size)
    repeat (any_goals (first | assumption | wp_step))
    refine codeAny_mono (codeAny_call_builtin (R := wants (fun v r => v = .none ∧ ∃ h' tk, r = { s with heap := h', toks := tk } ∧ HasS P w h' s.heap.objs.size xs ∧ ∀ b o, s.heap.get? b = some o → h'.get? b = some o) E)
      F.called_set.init.plain F.entry_set_init (check_set_init_1 ty0 ?_)) fun r₂ s₂ hr₂ => ?_
    · have hll : l < s.heap.objs.size := by obtain ⟨_, e, _⟩ := hl; exact Heap.lt_size e
      have hl0 := hl
      obtain ⟨ol, q1, q2, nl, q3⟩ := hl
      obtain ⟨oc, od, odt, osl⟩ := ol
      simp only at q2 q3
      subst q2 q3
      have q4 : (s.heap.push (newSetO w)).get? l = some { cls := .type "list", dict := od, data := .seq its.toArray nl, slots := osl } := Heap.get?_push_of_some _ q1
      have k8 := F.sub_list_set
      have k9 := F.sub_list_frozenset
      have k10 : (Value.type "list" == Value.type "dict") = false := by decide
      have hl1 : (s.heap.push (newSetO w)).IsList l its.toArray := ⟨_, q4, rfl, nl, rfl⟩
      unfold Builtin.«set.__init__» noKeywords Builtin.Frozenset.updateFrom
      generalize hPI : pyIter = PI
      wp_walk
      subst hPI
      refine wpAny_pyIter_list hl1 (wpAny_bind (wpAny_runValue ?_))
      have sz : (s.heap.push (newSetO w)).objs.size = s.heap.objs.size + 1 := Heap.size_push ..
      have n1 : l ≠ (s.heap.push (newSetO w)).objs.size := fun q => by
        rw [sz] at q
        exact Nat.lt_irrefl _ (Nat.lt_of_lt_of_le (Nat.lt_succ_of_lt hll) (Nat.le_of_eq q.symm))
      have n2 : s.heap.objs.size ∉ [(s.heap.push (newSetO w)).objs.size, l] := by
        rw [sz]
        simp only [List.mem_cons, List.not_mem_nil, or_false, not_or]
        exact ⟨Nat.ne_of_lt (Nat.lt_succ_self _), Nat.ne_of_gt hll⟩
      have hsz : its.toArray.size = xs.length := by rw [List.size_toArray]; exact hi.length
      refine loop ((Walks.list (by simp [hh]) _ l n1 its.toArray).toS) n2 xs hsz hb (fun i v hv => ?_) xs.length 0 _ (by rw [hsz]; rfl) ⟨⟨_, Heap.get?_push_size _ rfl, rfl, rfl⟩, hl1.push _⟩ ?_ fun s' mv hs' => ?_
      · have hv' : its[i]? = some v := by simpa using hv
        have lt : i < xs.length := by rw [← hi.length]; exact (List.getElem?_eq_some_iff.mp hv').1
        obtain ⟨u, e⟩ := StrsAre.at hi (List.getElem?_eq_getElem lt)
        rw [hv'] at e
        exact ⟨_, u, List.getElem?_eq_getElem lt, Option.some.inj e⟩
      · exact fresh (Heap.get?_push_of_some _ at0)
      · obtain ⟨h', g', d', tk', os'⟩ := s'
        have e1 : g' = s.gens := mv.gens
        have e2 : d' = s.drawn := mv.drawn
        have e3 : os' = s.os := mv.os
        subst e1 e2 e3
        refine wpAny_pure (wpAny_pure ⟨rfl, h', tk', rfl, hs', fun b o e => mv.heap b o ?_ (Heap.get?_push_of_some _ (Heap.get?_push_of_some _ e))⟩)
        have lt := Heap.lt_size e
        rw [sz]
        simp only [List.mem_cons, List.not_mem_nil, or_false, not_or]
        exact ⟨Nat.ne_of_lt lt, Nat.ne_of_lt (Nat.lt_succ_of_lt lt)⟩
    · match r₂, hr₂ with
      | .error e, z => exact z
      | .ok (.ret v), z =>
        obtain ⟨rfl, h', tk, rfl, hs', kp⟩ := z
        repeat (any_goals (first | assumption | wp_step))
        exact hQ _ _ hs' kp
      | .ok .next, z => exact z.elim
      | .ok .brk, z => exact z.elim
      | .ok .cont, z => exact z.elim
end
end TxtSet
end VL

/-! The value layer, 9: sorted. -/
namespace VL
open PySem PySem.Spec PyProof.Rows L2 LamX

/-! ### orders by data -/
def Ky.lt : Ky → Ky → Prop
  | .inl i, .inl j => i < j
  | .inl _, .inr _ => True
  | .inr _, .inl _ => False
  | .inr a, .inr b => a < b
instance kyLT : LT Ky := ⟨Ky.lt⟩
instance kyDec : DecidableLT Ky := fun a b => match a, b with
  | .inl i, .inl j => inferInstanceAs (Decidable (i < j))
  | .inl _, .inr _ => isTrue trivial
  | .inr _, .inl _ => isFalse id
  | .inr a, .inr b => inferInstanceAs (Decidable (a < b))
theorem ky_irr (a : Ky) : ¬ a < a := by
  cases a with
  | inl i => exact Int.lt_irrefl i
  | inr t => exact List.lt_irrefl t
theorem ky_tr {a b c : Ky} (h1 : a < b) (h2 : b < c) : a < c := by
  cases a <;> cases b <;> cases c <;> first | trivial | exact h1.elim | exact h2.elim | exact Int.lt_trans h1 h2 | exact List.lt_trans h1 h2
theorem ky_tri {a b : Ky} (h1 : ¬ a < b) (h2 : ¬ b < a) : a = b := by
  cases a with
  | inl i =>
    cases b with
    | inl j =>
      have h1 : ¬ i < j := h1
      have h2 : ¬ j < i := h2
      rw [show i = j by omega]
    | inr t => exact absurd trivial h1
  | inr s =>
    cases b with
    | inl j => exact absurd trivial h2
    | inr t => rw [List.le_antisymm (as := s) (bs := t) (List.not_lt.mp h2) (List.not_lt.mp h1)]
instance : Std.Irrefl (fun a b : Ky => a < b) := ⟨ky_irr⟩
instance : Std.Asymm (fun a b : Ky => a < b) := ⟨fun a b h1 h2 => ky_irr a (ky_tr h1 h2)⟩
instance : Std.Trichotomous (fun a b : Ky => a < b) := ⟨fun a b h1 h2 => ky_tri h1 h2⟩
instance : Trans (fun a b : Ky => a < b) (fun a b : Ky => a < b) (fun a b : Ky => a < b) := ⟨fun h1 h2 => ky_tr h1 h2⟩
/-- sorted, by a strict order that parts any two -/
def srt {α : Type} [LT α] [DecidableLT α] (xs : List α) : List α := xs.mergeSort fun a b => !decide (b < a)
section
variable {α : Type} [LT α] [DecidableLT α]
/-- the order parts any two -/
class Lin (α : Type) [LT α] : Prop where
  irr : ∀ a : α, ¬ a < a
  tr : ∀ a b c : α, a < b → b < c → a < c
  tri : ∀ a b : α, ¬ a < b → ¬ b < a → a = b
instance : Lin Ky := ⟨ky_irr, fun _ _ _ => ky_tr, fun _ _ => ky_tri⟩
instance : Lin Int := ⟨Int.lt_irrefl, fun _ _ _ => Int.lt_trans, fun a b h1 h2 => by omega⟩
instance : Lin T := ⟨List.lt_irrefl, fun _ _ _ => List.lt_trans, fun _ _ h1 h2 => List.le_antisymm (List.not_lt.mp h2) (List.not_lt.mp h1)⟩
instance : Lin (List Ky) := ⟨List.lt_irrefl, fun _ _ _ => List.lt_trans, fun _ _ h1 h2 => List.le_antisymm (List.not_lt.mp h2) (List.not_lt.mp h1)⟩
theorem Lin.nlt [Lin α] {a b c : α} (h1 : ¬ b < a) (h2 : ¬ c < b) : ¬ c < a := fun h => by
  by_cases q : a < b
  · exact h2 (Lin.tr c a b h q)
  · rw [Lin.tri a b q h1] at h
    exact h2 h
theorem Lin.ns [Lin α] {a b : α} (h : a < b) : ¬ b < a := fun h2 => Lin.irr a (Lin.tr a b a h h2)
theorem srt_perm (xs : List α) : (srt xs).Perm xs := List.mergeSort_perm _ _
theorem srt_pair [Lin α] (xs : List α) : (srt xs).Pairwise fun a b => ¬ b < a := by
  have h := List.pairwise_mergeSort (le := fun a b : α => !decide (b < a)) (fun a b c h1 h2 => by
    simp only [Bool.not_eq_true', decide_eq_false_iff_not] at h1 h2 ⊢
    exact Lin.nlt h1 h2) (fun a b => by
    by_cases q : b < a
    · have := Lin.ns q
      simp [this]
    · simp [q]) xs
  exact h.imp fun h => by simpa using h
theorem srt_uniq [Lin α] {ys xs : List α} (p : ys.Perm xs) (h : ys.Pairwise fun a b => ¬ b < a) : ys = srt xs :=
  List.Perm.eq_of_pairwise (fun a b _ _ h1 h2 => Lin.tri a b h2 h1) h (srt_pair xs) (p.trans (srt_perm xs).symm)
/-- the same ones, each once -/
def once [DecidableEq α] : List α → List α
  | [] => []
  | x :: xs => if x ∈ xs then once xs else x :: once xs
theorem mem_once [DecidableEq α] (x : α) : ∀ xs : List α, x ∈ once xs ↔ x ∈ xs
  | [] => Iff.rfl
  | y :: ys => by
    unfold once
    split
    · rename_i h
      rw [mem_once x ys, List.mem_cons]
      exact ⟨.inr, fun q => q.elim (fun e => e ▸ h) id⟩
    · rw [List.mem_cons, List.mem_cons, mem_once x ys]
theorem nodup_once [DecidableEq α] : ∀ xs : List α, (once xs).Nodup
  | [] => List.nodup_nil
  | y :: ys => by
    unfold once
    split
    · exact nodup_once ys
    · rename_i h
      exact List.nodup_cons.mpr ⟨fun q => h ((mem_once y ys).mp q), nodup_once ys⟩
def setL [DecidableEq α] (xs : List α) : List α := srt (once xs)
theorem mem_setL [DecidableEq α] [Lin α] (x : α) (xs : List α) : x ∈ setL xs ↔ x ∈ xs := ((srt_perm _).mem_iff).trans (mem_once x xs)
theorem setL_pair [DecidableEq α] [Lin α] (xs : List α) : (setL xs).Pairwise (· < ·) := by
  have h1 := srt_pair (once xs)
  have h2 : (setL xs).Nodup := (srt_perm (once xs)).nodup_iff.mpr (nodup_once xs)
  have h3 : (setL xs).Pairwise fun a b => ¬ b < a ∧ a ≠ b := List.pairwise_and_iff.mpr ⟨h1, h2⟩
  exact h3.imp fun ⟨q1, q2⟩ => by
    refine Classical.byContradiction fun q => q2 (Lin.tri _ _ q q1)
theorem setL_uniq [DecidableEq α] [Lin α] {ys xs : List α} (n : ys.Nodup) (m : ∀ x, x ∈ ys ↔ x ∈ xs) (h : ys.Pairwise fun a b => ¬ b < a) : ys = setL xs :=
  srt_uniq ((List.perm_ext_iff_of_nodup n (nodup_once xs)).mpr fun x => (m x).trans (mem_once x xs).symm) h
end

/-! ### sorted(set(xs)) of texts -/
namespace TxtSet
section
variable {P : Program} {w : World} {A : Around} {E : Value → Shared → Prop} {s : Shared} {a : Addr} {M : List Str}
theorem strs_of : ∀ {l : List Value}, (∀ v ∈ l, ∃ x u, v = Value.str x u) → ∃ xs : List Str, StrsAre l xs ∧ ∀ f : Value → Str, (∀ x u, f (.str x u) = x) → xs = l.map f
  | [], _ => ⟨[], .nil, fun _ _ => rfl⟩
  | v :: l, h => by
    obtain ⟨x, u, rfl⟩ := h v List.mem_cons_self
    obtain ⟨xs, h1, h2⟩ := strs_of (l := l) fun v m => h v (List.mem_cons_of_mem _ m)
    exact ⟨x :: xs, .cons x u h1, fun f e => by rw [List.map_cons, e, ← h2 f e]⟩
theorem risS : ∀ {p : Str} {l : List Str}, risingS p l = true → ∀ y ∈ l, ¬ (y.cps.toList < p.cps.toList)
  | p, [], _, y, m => by cases m
  | p, x :: r, h, y, m => by
    have h : (!ltCps x.cps.toList p.cps.toList && risingS x r) = true := h
    rw [Bool.and_eq_true, Bool.not_eq_true', ltCps_eq, decide_eq_false_iff_not] at h
    rcases List.mem_cons.mp m with e | m
    · rw [e]; exact h.1
    · exact Lin.nlt (α := T) h.1 (risS h.2 y m)
theorem srtS_pair : ∀ {l : List Str}, sortedS l = true → (l.map fun x => x.cps.toList).Pairwise fun a b : T => ¬ b < a
  | [], _ => .nil
  | x :: r, h => by
    have h : risingS x r = true := h
    refine List.pairwise_cons.mpr ⟨fun b m => ?_, ?_⟩
    · obtain ⟨y, hy, rfl⟩ := List.mem_map.mp m
      exact risS h y hy
    · refine srtS_pair (l := r) ?_
      cases r with
      | nil => rfl
      | cons y r =>
        have h : (!ltCps y.cps.toList x.cps.toList && risingS y r) = true := h
        rw [Bool.and_eq_true] at h
        exact h.2
theorem back_s (ts : List T) : (ts.map T.s).map (fun x => x.cps.toList) = ts := by
  induction ts with
  | nil => rfl
  | cons t ts ih => rw [List.map_cons, List.map_cons, ih]; rfl
theorem fore_s (xs : List Str) : (xs.map fun x => x.cps.toList).map T.s = xs := by
  induction xs with
  | nil => rfl
  | cons t ts ih => rw [List.map_cons, List.map_cons, ih, T.of]
theorem outS {ys : List Str} {ts : List T} (p : ys.Perm (ts.map T.s)) (h : sortedS ys = true) : ys = (srt ts).map T.s := by
  have q := p.map fun x => x.cps.toList
  rw [back_s] at q
  rw [← srt_uniq q (srtS_pair h), fore_s]
theorem sorted {ts : List T} {Q : Value → Shared → Prop} (hs : HasS P w s.heap a (ts.map T.s)) (hh : A.handled = none) (hf : ts.length < scanBound)
    (hQ : ∀ (s' : Shared) (p : Addr) (out : List Value) (c : Nat), (∀ b o, s.heap.get? b = some o → s'.heap.get? b = some o) → s'.gens = s.gens → s'.os = s.os → s.heap.objs.size ≤ p → s'.heap.get? p = some (seqObj "list" out.toArray c) → StrsAre out ((setL ts).map T.s) → Q (.ref p) s') :
    wpAny (model P w) A (call (.builtin "sorted") [.ref a]) Q E s := by
  obtain ⟨o, es, ep, t, R⟩ := hs
  have low : es.size < scanBound := by
    have := R.few
    rw [List.length_map] at this
    omega
  refine Calls.call_function_entry kind_sorted plain_sorted entry_sorted (args_sorted1 _) ?_
  unfold Builtin.«sorted»
  refine wpAny_bind (m := checkCount "sorted" 1 1 _) (wpAny_pure (wpAny_bind (L2.collect_set (A := A.in1) hh ⟨o, R.ob, R.ex.1, R.dat⟩ R.fit low R.ris R.led fun s1 vs k1 kz kg ko pm => ?_)))
  obtain ⟨xs, hx, hm⟩ := strs_of (l := vs) fun v m => by
    obtain ⟨e, he, rfl⟩ := List.mem_map.mp (pm.mem_iff.mp m)
    obtain ⟨x, u, q, _⟩ := R.ent e he
    exact ⟨x, u, q⟩
  have hm' : xs = (vs.map fun v => kS (0, v)) := hm _ fun _ _ => rfl
  have pk : xs.Perm (es.toList.map kS) := by
    rw [hm']
    have q := pm.map fun v => kS (0, v)
    rw [List.map_map] at q
    exact q
  have few : vs.length ≤ sizeLine := by
    rw [pm.length_eq, List.length_map]
    exact fits_of_scanBound (by simpa using low)
  refine wpAny_bind (wpAny_newList ?_ few)
  have at1 : (s1.heap.push (seqObj "list" vs.toArray 0)).get? s1.heap.objs.size = some (seqObj "list" vs.toArray 0) := Heap.get?_push_size _ rfl
  have key : ∀ xs' : List Str, xs'.Perm xs → sortedS xs' = true → xs' = (setL ts).map T.s := fun xs' p h => by
    have n0 : (xs'.map fun x => x.cps.toList).Nodup := by
      have n1 : xs'.Nodup := (p.trans pk).nodup_iff.mpr R.one
      refine List.Pairwise.map _ (fun x y ne e => ne ?_) n1
      rw [← T.of x, ← T.of y, e]
    rw [← setL_uniq (xs := ts) n0 (fun x => ?_) (srtS_pair h), fore_s]
    rw [← back_s ts, List.mem_map, List.mem_map]
    constructor
    · rintro ⟨y, hy, rfl⟩
      exact ⟨y, (R.mem y).mp ((p.trans pk).mem_iff.mp hy), rfl⟩
    · rintro ⟨y, hy, rfl⟩
      exact ⟨y, (p.trans pk).mem_iff.mpr ((R.mem y).mpr hy), rfl⟩
  refine wpAny_bind (wpAny_holding (wpAny_call_entry slot_list_sort ⟨_, at1, rfl⟩ entry_list_sort (list_sort_treeKAny PyProof.Rows.strKind_oneLt at1 hx.keysOf (fun v₁ v₂ r e => PyProof.Rows.keyKind_strs (by rw [← e]; exact hx)) few fun st z1 z2 => ⟨_, rfl, ?_⟩) (args_list_sort _)))
  obtain ⟨xs', b1, b2, b3⟩ := sorted_out_str hx z1 z2
  obtain ⟨c, hc⟩ := sortedHeap_at (vs := vs) (out := (arrOf st).map (·.2)) at1
  rw [key xs' b2 b3] at b1
  refine wpAny_pure ⟨_, rfl, hQ _ s1.heap.objs.size ((arrOf st).map (·.2)).toList c (fun b u e => ?_) kg ko kz (by rw [Array.toArray_toList]; exact hc) b1⟩
  have q := k1 b u e
  have lt := Heap.lt_size q
  refine (sortedHeap_old (Nat.ne_of_lt lt) (by rw [size_push']; exact Nat.lt_succ_of_lt lt)).trans (Heap.get?_push_of_some _ q)
end
end TxtSet

/-! ### tuples of ints and texts, by their parts -/
def tyK : Ky → Value
  | .inl _ => .type "int"
  | .inr _ => .type "str"
/-- of one form: as long, and int beside int, text beside text -/
def form (k : List Ky) : List Bool := k.map Sum.isLeft
inductive KyV : Ky → Value → Prop
  | int (i : Int) (u : Tok) : KyV (.inl i) (.int i u)
  | str (t : T) (u : Tok) : KyV (.inr t) (.str t.s u)
def IsTK (h : Heap) (v : Value) (k : List Ky) : Prop := ∃ a o us n, v = .ref a ∧ h.get? a = some o ∧ o.cls = .type "tuple" ∧ o.data = .seq (List.toArray us) n ∧ Paired KyV k us
theorem IsTK.keeps {h h' : Heap} {v : Value} {k : List Ky} (p : IsTK h v k) (m : ∀ b o, h.get? b = some o → o.cls = .type "tuple" → h'.get? b = some o) : IsTK h' v k := by
  obtain ⟨a, o, us, n, e, q1, q2, q3, q4⟩ := p
  exact ⟨a, o, us, n, e, m a o q1 q2, q2, q3, q4⟩
theorem KyV.uniq {k k' : Ky} {v : Value} (h : KyV k v) (h' : KyV k' v) : k = k' := by
  cases h with
  | int i u => cases h'; rfl
  | str t u =>
    generalize e : Value.str t.s u = v at h'
    cases h' with
    | int i u' => cases e
    | str t' u' => rw [T.inj (Value.str.inj e).1]
theorem kys_uniq : ∀ {k k' : List Ky} {us : List Value}, Paired KyV k us → Paired KyV k' us → k = k'
  | _, _, _, .nil, .nil => rfl
  | _, _, _, .cons a b, .cons c d => by rw [KyV.uniq a c, kys_uniq b d]
theorem IsTK.uniq {h : Heap} {v : Value} {k k' : List Ky} (p : IsTK h v k) (p' : IsTK h v k') : k = k' := by
  obtain ⟨a, o, us, n, e, q1, q2, q3, q4⟩ := p
  obtain ⟨a', o', us', n', e', q1', q2', q3', q4'⟩ := p'
  rw [e] at e'
  cases e'
  rw [q1] at q1'
  cases q1'
  rw [q3] at q3'
  have hu : us = us' := by
    have := (Data.seq.inj q3').1
    simpa using this
  subst hu
  exact kys_uniq q4 q4'
theorem paired_len {α β : Type} {R : α → β → Prop} : ∀ {xs : List α} {ys : List β}, Paired R xs ys → xs.length = ys.length
  | _, _, .nil => rfl
  | _, _, .cons _ t => by simp [paired_len t]
noncomputable def keyAt (h : Heap) (v : Value) : List Ky := by
  classical exact if q : ∃ k, IsTK h v k then q.choose else []
theorem keyAt_eq {h : Heap} {v : Value} {k : List Ky} (p : IsTK h v k) : keyAt h v = k := by
  unfold keyAt
  rw [dif_pos ⟨k, p⟩]
  exact IsTK.uniq (Exists.choose_spec (⟨k, p⟩ : ∃ k, IsTK h v k)) p
section
variable {P : Program} {w : World} {A : Around} {E : Value → Shared → Prop} {s : Shared}
theorem one_lt (c : Bool) {a b : Ky} {u v : Value} {Q : Bool → Shared → Prop} (ha : KyV a u) (hb : KyV b v) (hf : a.isLeft = b.isLeft) (h : Q (decide (a < b)) s) : wpAny (model P w) A (oneLt' c u v) Q E s := by
  cases ha with
  | int i t =>
    cases hb with
    | int j t' =>
      cases c with
      | true => exact PyProof.Rows.oneLt_int h
      | false => exact PySem.W.kat_one _ _ (PyProof.Rows.lt_int h)
    | str _ _ => cases hf
  | str x t =>
    cases hb with
    | int _ _ => cases hf
    | str y t' =>
      cases c with
      | true => exact PyProof.Rows.oneLt_str h
      | false => exact PySem.W.kat_one _ _ (PyProof.Rows.lt_str h)
theorem lex_lt (c : Bool) : ∀ {k k' : List Ky} {us us' : List Value} (i : Nat), Paired KyV k us → Paired KyV k' us' → form k = form k' → PySem.W.KatLex P w A c false (fun r s' => s' = s ∧ r = decide (k < k')) (us.zip us') i s
  | [], [], _, _, i, .nil, .nil, _ => PySem.W.kat_nil ⟨rfl, by simp⟩
  | [], _ :: _, _, _, _, _, _, h => by cases h
  | _ :: _, [], _, _, _, _, _, h => by cases h
  | x :: k, y :: k', _, _, i, .cons h1 t1, .cons h2 t2, h => by
    have hx : x.isLeft = y.isLeft := (List.cons.inj h).1
    have ht : form k = form k' := (List.cons.inj h).2
    refine PySem.W.kat_cons ?_
    rename_i u us v us'
    have go : ∀ e : Bool, (e = decide (x = y)) → PySem.W.KatGo P w A c false (fun r s' => s' = s ∧ r = decide (x :: k < y :: k')) u v (us.zip us') i e s := by
      intro e he
      by_cases q : x = y
      · rw [decide_eq_true q] at he
        subst he q
        refine PySem.W.kat_yes ?_
        have e2 : decide (x :: k < x :: k') = decide (k < k') := by
          rw [decide_eq_decide, List.cons_lt_cons_iff]
          exact ⟨fun z => z.elim (fun z => absurd z (ky_irr x)) fun z => z.2, fun z => .inr ⟨rfl, z⟩⟩
        rw [e2]
        exact lex_lt c (i + 1) t1 t2 ht
      · rw [decide_eq_false q] at he
        subst he
        refine PySem.W.kat_no (one_lt _ h1 h2 hx ⟨rfl, ?_⟩)
        rw [decide_eq_decide, List.cons_lt_cons_iff]
        exact ⟨.inl, fun z => z.elim id fun z => absurd z.1 q⟩
    cases h1 with
    | int i1 u1 =>
      cases h2 with
      | int j1 v1 =>
        refine SeqAt.EqAt.int_int i1 u1 j1 v1 P w _ _ (go _ ?_)
        by_cases q : i1 = j1 <;> simp [q]
      | str _ _ => cases hx
    | str x1 u1 =>
      cases h2 with
      | int _ _ => cases hx
      | str y1 v1 =>
        refine SeqAt.EqAt.str_str x1.s u1 y1.s v1 P w _ _ (go _ ?_)
        by_cases q : x1 = y1
        · subst q
          simp
        · have q2 : ¬ x1.s = y1.s := fun z => q (T.inj z)
          simp [q, q2]
theorem tk_cmp {vs : List Value} {f : List Bool} (hp : ∀ v ∈ vs, ∃ k, IsTK s.heap v k ∧ form k = f) : SrtO.Cmp P w A s (tuples' true) (fun p => p.1 ∈ vs) (SrtO.lt2 fun v u => decide (keyAt s.heap v < keyAt s.heap u)) := by
  intro p q hm hm'
  obtain ⟨k, h1, f1⟩ := hp _ hm
  obtain ⟨k', h2, f2⟩ := hp _ hm'
  show wpAny (model P w) A (keyLt' (tuples' true) p.1 q.1) (fun r s' => s' = s ∧ r = decide (keyAt s.heap p.1 < keyAt s.heap q.1)) (fun _ _ => False) s
  rw [keyAt_eq h1, keyAt_eq h2]
  obtain ⟨a, o, us, n, e, q1, q2, q3, q4⟩ := h1
  obtain ⟨a', o', us', n', e', q1', q2', q3', q4'⟩ := h2
  rw [e, e']
  refine PySem.W.kat_lt q1 q3 q1' q3' ?_
  have hl : us.length = us'.length := by
    have := congrArg List.length (f1.trans f2.symm)
    simp only [form, List.length_map] at this
    rw [← paired_len q4, ← paired_len q4', this]
  have e1 : decide (us.toArray.size < us'.toArray.size) = false := by
    rw [List.size_toArray, List.size_toArray, hl]
    exact decide_eq_false (Nat.lt_irrefl _)
  rw [e1]
  exact lex_lt true 0 q4 q4' (f1.trans f2.symm)
theorem tk_firsts {h : Heap} {b : Bool} {f : List Bool} : ∀ {vs : List Value}, (∀ v ∈ vs, ∃ k, IsTK h v k ∧ form k = b :: f) → ∃ fs : List Value, PySem.W.KatTups h vs fs ∧ fs.length = vs.length ∧ ∀ x ∈ fs, ∃ k : Ky, KyV k x ∧ k.isLeft = b
  | [], _ => ⟨[], PySem.W.KatTups.nil, rfl, fun _ m => by cases m⟩
  | v :: vs, hp => by
    obtain ⟨fs, h1, h2, h3⟩ := tk_firsts (vs := vs) fun u m => hp u (List.mem_cons_of_mem _ m)
    obtain ⟨k, ⟨a, o, us, n, e, q1, q2, q3, q4⟩, hf⟩ := hp v List.mem_cons_self
    subst e
    cases q4 with
    | nil => cases hf
    | cons r t =>
      refine ⟨_ :: fs, PySem.W.KatTups.cons q1 q2 q3 rfl h1, by simp [h2], fun x m => ?_⟩
      rcases List.mem_cons.mp m with z | z
      · exact z ▸ ⟨_, r, (List.cons.inj hf).1⟩
      · exact h3 x z
theorem tk_sortable {a : Addr} {vs : List Value} {b : Bool} {f : List Bool} (h0 : 0 < vs.length) (hp : ∀ v ∈ vs, ∃ k, IsTK s.heap v k ∧ form k = b :: f) (ha : ∀ o, s.heap.get? a = some o → o.cls ≠ .type "tuple") :
    SrtO.SortableO P w A s a vs fun v u => decide (keyAt s.heap v < keyAt s.heap u) := by
  intro h' keep
  have hk : ∀ v ∈ vs, ∃ k, IsTK h' v k ∧ form k = b :: f ∧ keyAt h' v = keyAt s.heap v := fun v m => by
    obtain ⟨k, q1, q2⟩ := hp v m
    have q3 := q1.keeps (h' := h') fun c o e z => keep c o (fun y => by subst y; exact ha o e z) e
    exact ⟨k, q3, q2, by rw [keyAt_eq q1, keyAt_eq q3]⟩
  obtain ⟨fs, h1, h2, h3⟩ := tk_firsts (h := h') fun v m => let ⟨k, q1, q2, _⟩ := hk v m; ⟨k, q1, q2⟩
  refine ⟨tuples' true, fun Q E hq => ?_, fun p q hm hm' => ?_⟩
  · cases b with
    | true =>
      refine PySem.W.kat_kind (T := .type "int") h1 (by omega) (fun x hm => ?_) (by rfl) ?_
      · obtain ⟨k, r, q⟩ := h3 x hm
        cases r with
        | int i u => exact PySem.W.Looks.now
        | str _ _ => cases q
      · rw [show (Value.type "int" != Value.type "tuple") = true by decide +kernel]
        exact hq
    | false =>
      refine PySem.W.kat_kind (T := .type "str") h1 (by omega) (fun x hm => ?_) (by rfl) ?_
      · obtain ⟨k, r, q⟩ := h3 x hm
        cases r with
        | int _ _ => cases q
        | str t u => exact PySem.W.Looks.now
      · rw [show (Value.type "str" != Value.type "tuple") = true by decide +kernel]
        exact hq
  · have q0 := tk_cmp (P := P) (w := w) (A := A) (s := { s with heap := h' }) (vs := vs) (f := b :: f) (fun v m => let ⟨k, q1, q2, _⟩ := hk v m; ⟨k, q1, q2⟩) p q hm hm'
    obtain ⟨_, _, _, e1⟩ := hk _ hm
    obtain ⟨_, _, _, e2⟩ := hk _ hm'
    have e3 : SrtO.lt2 (fun v u => decide (keyAt h' v < keyAt h' u)) p q = SrtO.lt2 (fun v u => decide (keyAt s.heap v < keyAt s.heap u)) p q := by
      show decide (keyAt h' p.1 < keyAt h' q.1) = decide (keyAt s.heap p.1 < keyAt s.heap q.1)
      rw [e1, e2]
    rw [e3] at q0
    exact q0
end
theorem swo_key (h : Heap) : SrtO.Swo fun v u => decide (keyAt h v < keyAt h u) := by
  refine ⟨fun x y q => ?_, fun x y z q1 q2 => ?_⟩
  · exact decide_eq_false (Lin.ns (of_decide_eq_true q))
  · exact decide_eq_false (Lin.nlt (of_decide_eq_false q1) (of_decide_eq_false q2))
end VL

/-! The value layer, A: built-in functions and methods. -/
namespace VL
open PySem PySem.Spec PyProof.Rows L2 LamX

/-! ### what a list holds, if it is of one kind -/
def intsOf : List D → Option (List Int)
  | [] => some []
  | .int i :: ds => (intsOf ds).map (i :: ·)
  | _ => none
def strsOf : List D → Option (List T)
  | [] => some []
  | .str t :: ds => (strsOf ds).map (t :: ·)
  | _ => none
def blsOf : List D → Option (List Bool)
  | [] => some []
  | .bl b :: ds => (blsOf ds).map (b :: ·)
  | _ => none
def kysOf : List D → Option (List Ky)
  | [] => some []
  | .int i :: ds => (kysOf ds).map (.inl i :: ·)
  | .str t :: ds => (kysOf ds).map (.inr t :: ·)
  | _ => none
def Ky.d : Ky → D
  | .inl i => .int i
  | .inr t => .str t
def tupsOf : List D → Option (List (List Ky))
  | [] => some []
  | .tup ks :: ds => match kysOf ks, tupsOf ds with
    | some k, some r => some (k :: r)
    | _, _ => none
  | _ => none
@[simp] theorem intsOf_map : ∀ ns : List Int, intsOf (ns.map .int) = some ns
  | [] => rfl
  | n :: ns => by simp [intsOf, intsOf_map ns]
@[simp] theorem strsOf_map : ∀ ns : List T, strsOf (ns.map .str) = some ns
  | [] => rfl
  | n :: ns => by simp [strsOf, strsOf_map ns]
@[simp] theorem blsOf_map : ∀ ns : List Bool, blsOf (ns.map .bl) = some ns
  | [] => rfl
  | n :: ns => by simp [blsOf, blsOf_map ns]
@[simp] theorem kysOf_map : ∀ ks : List Ky, kysOf (ks.map Ky.d) = some ks
  | [] => rfl
  | .inl i :: ks => by simp [kysOf, Ky.d, kysOf_map ks]
  | .inr t :: ks => by simp [kysOf, Ky.d, kysOf_map ks]
@[simp] theorem tupsOf_map : ∀ ks : List (List Ky), tupsOf (ks.map fun k => .tup (k.map Ky.d)) = some ks
  | [] => rfl
  | k :: ks => by simp [tupsOf, tupsOf_map ks]
theorem ints_eq : ∀ {ds : List D} {ns : List Int}, intsOf ds = some ns → ds = ns.map .int
  | [], _, h => by cases h; rfl
  | d :: ds, ns, h => by
    cases d <;> first | cases h | skip
    rename_i i
    cases q : intsOf ds with
    | none => simp [intsOf, q] at h
    | some r =>
      simp only [intsOf, q, Option.map_some, Option.some.injEq] at h
      rw [← h, List.map_cons, ← ints_eq q]
theorem strs_eq : ∀ {ds : List D} {ns : List T}, strsOf ds = some ns → ds = ns.map .str
  | [], _, h => by cases h; rfl
  | d :: ds, ns, h => by
    cases d <;> first | cases h | skip
    rename_i i
    cases q : strsOf ds with
    | none => simp [strsOf, q] at h
    | some r =>
      simp only [strsOf, q, Option.map_some, Option.some.injEq] at h
      rw [← h, List.map_cons, ← strs_eq q]
theorem bls_eq : ∀ {ds : List D} {ns : List Bool}, blsOf ds = some ns → ds = ns.map .bl
  | [], _, h => by cases h; rfl
  | d :: ds, ns, h => by
    cases d <;> first | cases h | skip
    rename_i i
    cases q : blsOf ds with
    | none => simp [blsOf, q] at h
    | some r =>
      simp only [blsOf, q, Option.map_some, Option.some.injEq] at h
      rw [← h, List.map_cons, ← bls_eq q]
theorem kys_eq : ∀ {ds : List D} {ns : List Ky}, kysOf ds = some ns → ds = ns.map Ky.d
  | [], _, h => by cases h; rfl
  | d :: ds, ns, h => by
    cases d <;> first | cases h | skip
    all_goals
      rename_i i
      cases q : kysOf ds with
      | none => simp [kysOf, q] at h
      | some r =>
        simp only [kysOf, q, Option.map_some, Option.some.injEq] at h
        rw [← h, List.map_cons, ← kys_eq q]
        rfl
theorem tups_eq : ∀ {ds : List D} {ns : List (List Ky)}, tupsOf ds = some ns → ds = ns.map fun k => .tup (k.map Ky.d)
  | [], _, h => by cases h; rfl
  | d :: ds, ns, h => by
    cases d <;> first | cases h | skip
    rename_i ks
    cases q1 : kysOf ks with
    | none => simp [tupsOf, q1] at h
    | some k =>
      cases q2 : tupsOf ds with
      | none => simp [tupsOf, q1, q2] at h
      | some r =>
        simp only [tupsOf, q1, q2, Option.some.injEq] at h
        rw [← h, List.map_cons, ← tups_eq q2, ← kys_eq q1]
section
variable {G : Gd} {S : Hp}
theorem reps_int_inv : ∀ {ns : List Int} {vs : List V}, Reps G S (ns.map .int) vs → vs = ns.map V.int
  | [], _, h => by cases h; rfl
  | n :: ns, _, h => by
    cases h with
    | cons a b => cases a; rw [reps_int_inv b]; rfl
theorem reps_str_inv : ∀ {ns : List T} {vs : List V}, Reps G S (ns.map .str) vs → vs = (ns.map T.s).map V.str
  | [], _, h => by cases h; rfl
  | n :: ns, _, h => by
    cases h with
    | cons a b => cases a; rw [reps_str_inv b]; rfl
theorem reps_bl_inv : ∀ {ns : List Bool} {vs : List V}, Reps G S (ns.map .bl) vs → vs = ns.map V.bl
  | [], _, h => by cases h; rfl
  | n :: ns, _, h => by
    cases h with
    | cons a b => cases a; rw [reps_bl_inv b]; rfl
theorem reps_ky_inv : ∀ {ks : List Ky} {vs : List V}, Reps G S (ks.map Ky.d) vs → vs = ks.map fun k => kV k.k
  | [], _, h => by cases h; rfl
  | .inl i :: ns, _, h => by
    cases h with
    | cons a b => cases a; rw [reps_ky_inv b]; rfl
  | .inr i :: ns, _, h => by
    cases h with
    | cons a b => cases a; rw [reps_ky_inv b]; rfl
theorem reps_bls : ∀ ns : List Bool, Reps G S (ns.map D.bl) (ns.map V.bl)
  | [] => .nil
  | n :: ns => .cons (.bl n) (reps_bls ns)
theorem kys_paired : ∀ {ks : List Ky} {us : List Value}, Vals (ks.map fun k => kV k.k) us → Paired KyV ks us
  | [], _, .nil => .nil
  | .inl i :: ks, _, .cons r t => by
    obtain ⟨u, rfl⟩ := r
    exact .cons (.int i u) (kys_paired t)
  | .inr i :: ks, _, .cons r t => by
    obtain ⟨u, rfl⟩ := r
    exact .cons (.str i u) (kys_paired t)
end

/-! ### len, all, any, tuple, list, int, abs, str -/
def c1 (f : D → Store → R U) : List D → Store → R U
  | [d], τ => f d τ
  | _, _ => .bad
def c2 (f : D → D → Store → R U) : List D → Store → R U
  | [d, e], τ => f d e τ
  | _, _ => .bad
@[simp] theorem c1_1 (f : D → Store → R U) (d : D) (τ : Store) : c1 f [d] τ = f d τ := rfl
@[simp] theorem c2_2 (f : D → D → Store → R U) (d e : D) (τ : Store) : c2 f [d, e] τ = f d e τ := rfl
def D.lsts : D → Option (List D)
  | .lst ds => some ds
  | .fl ds => some ds
  | _ => none
section
variable {X : Cx} {G : Gd}
theorem c1_s {f : D → Store → R U} {r : List V → Hp → VK → Prop} (h : ∀ (z : Z) (d : D) (τ : Store) (v : V) (W : XK) (Q : VK), Cells G z τ → RepH G z d v → Run G (RepU G) (f d τ) W z Q → r [v] z.H Q) : CallS G (c1 f) r := by
  intro z ds τ vs W Q c rs q
  match ds, rs, q with
  | [], _, q => exact q.elim
  | _ :: _ :: _, _, q => exact q.elim
  | [d], rs, q =>
    obtain ⟨v, rfl, rh⟩ := hs1 rs rfl
    exact h z d τ v W Q c rh q
theorem c2_s {f : D → D → Store → R U} {r : List V → Hp → VK → Prop} (h : ∀ (z : Z) (d e : D) (τ : Store) (v w : V) (W : XK) (Q : VK), Cells G z τ → RepH G z d v → RepH G z e w → Run G (RepU G) (f d e τ) W z Q → r [v, w] z.H Q) : CallS G (c2 f) r := by
  intro z ds τ vs W Q c rs q
  match ds, rs, q with
  | [], _, q => exact q.elim
  | [_], _, q => exact q.elim
  | _ :: _ :: _ :: _, _, q => exact q.elim
  | [d, e], rs, q =>
    obtain ⟨v, w, rfl, rh, rh'⟩ := hs2 rs rfl
    exact h z d e τ v w W Q c rh rh' q
theorem RepH.lsts_ {z : Z} {τ : Store} {v : V} {d : D} {ds : List D} (c : Cells G z τ) (r : RepH G z d v) (e : d.lsts = some ds) : ∃ a vs, v = .ref a ∧ SqL G.K z.H a vs ∧ Reps G z.S ds vs := by
  cases d with
  | lst xs =>
    cases e
    obtain ⟨a, vs, h1, h2, h3⟩ := r.lst_ c
    exact ⟨a, vs, h1, SqL.of h2, h3⟩
  | fl xs =>
    cases e
    exact r.fl_ c
  | _ => cases e
theorem call_len' : CallR X (.builtin "len") (rLen X.K) := CallR.or call_len call_lenD
def fLen : D → Store → R U
  | .str t, τ => if t.length ≤ sizeLine then .ok (.d (.int t.length)) τ else .bad
  | d, τ => match d.seq with
    | some ds => .ok (.d (.int ds.length)) τ
    | none => .bad
theorem c_len : CallS G (c1 fLen) (rLen G.K) := c1_s fun z d τ v W Q c rh q => by
  have gen : Run G (RepU G) (match d.seq with
    | some ds => .ok (.d (.int ds.length)) τ
    | none => .bad) W z Q → rLen G.K [v] z.H Q := by
    intro q
    cases e : d.seq with
    | none => rw [e] at q; exact q.elim
    | some es =>
      rw [e] at q
      obtain ⟨p, ws, rfl, h1, h2⟩ := rh.seq_ c e
      refine .inl ⟨_, ws.length, rfl, ?_, by rw [← h2.length]; exact Run.ok (rep := RepU G) q c (.d (.int _))⟩
      rcases h1 with h1 | h1
      · exact .inl ⟨ws, h1, rfl⟩
      · exact .inr ⟨ws, h1, rfl⟩
  cases d with
  | str t =>
    rw [rh.str_]
    have q : Run G (RepU G) (if t.length ≤ sizeLine then .ok (.d (.int t.length)) τ else .bad) W z Q := q
    by_cases h : t.length ≤ sizeLine
    · rw [if_pos h] at q
      exact .inl ⟨_, _, rfl, ⟨by rw [T.len]; exact h, (T.len t).symm⟩, Run.ok (rep := RepU G) q c (.d (.int _))⟩
    · rw [if_neg h] at q; exact q.elim
  | _ => exact gen q
def fBls (f : List Bool → Bool) (d : D) (τ : Store) : R U := match d.lsts with
  | some ds => match blsOf ds with
    | some bs => .ok (.d (.bl (f bs))) τ
    | none => .bad
  | none => .bad
theorem bls_s {f : List Bool → Bool} : CallS G (c1 (fBls f)) (fun vs H Q => ∃ (a : Addr) (bs : List Bool), vs = [V.ref a] ∧ SqL G.K H a (bs.map V.bl) ∧ Q (.bl (f bs)) H) := c1_s fun z d τ v W Q c rh q => by
  unfold fBls at q
  cases e : d.lsts with
  | none => rw [e] at q; exact q.elim
  | some ds =>
    rw [e] at q
    simp only at q
    cases e2 : blsOf ds with
    | none => rw [e2] at q; exact q.elim
    | some bs =>
      rw [e2] at q
      obtain ⟨a, vs, rfl, h1, h2⟩ := rh.lsts_ c e
      rw [bls_eq e2] at h2
      rw [reps_bl_inv h2] at h1
      exact ⟨a, bs, rfl, h1, Run.ok (rep := RepU G) q c (.d (.bl _))⟩
theorem c_all : CallS G (c1 (fBls fun bs => bs.all id)) (rAll G.K) := bls_s
theorem c_any : CallS G (c1 (fBls fun bs => bs.any id)) (rAny G.K) := bls_s
def fTuple : D → Store → R U
  | .tup ds, τ => .ok (.d (.tup ds)) τ
  | d, τ => match d.lsts with
    | some ds => .ok (.d (.tup ds)) τ
    | none => .bad
def rTup (K : PySem.W.Frag) : List V → Hp → VK → Prop := fun xs H Q => ∃ p ys, xs = [.ref p] ∧ ((SqL K H p ys ∧ ∀ l, H l = none → Q (.ref l) (upd H l (.tup ys))) ∨ (SqT K H p ys ∧ Q (.ref p) H))
theorem c_tuple : CallS G (c1 fTuple) (rTup G.K) := c1_s fun z d τ v W Q c rh q => by
  have gen : Run G (RepU G) (match d.lsts with
    | some ds => .ok (.d (.tup ds)) τ
    | none => .bad) W z Q → rTup G.K [v] z.H Q := by
    intro q
    cases e : d.lsts with
    | none => rw [e] at q; exact q.elim
    | some ds =>
      rw [e] at q
      obtain ⟨a, vs, rfl, h1, h2⟩ := rh.lsts_ c e
      exact ⟨a, vs, rfl, .inl ⟨h1, fun l hl => alloc_tup c hl h2 q⟩⟩
  cases d with
  | tup ds =>
    obtain ⟨a, vs, rfl, h1, h2⟩ := rh.tup_ c
    refine ⟨a, vs, rfl, .inr ⟨h1, Run.ok (rep := RepU G) q c (.d ?_)⟩⟩
    cases rh with
    | sh h => exact h
  | _ => exact gen q
def fList (own : Bool) (d : D) (τ : Store) : R U := match d.seq with
  | some ds => allocL own ds τ
  | none => .bad
theorem c_list {own : Bool} : CallS G (c1 (fList own)) (fun xs H Q => ∃ p ys, xs = [.ref p] ∧ (SqL G.K H p ys ∨ SqT G.K H p ys) ∧ ∀ l, H l = none → Q (.ref l) (upd H l (.lst ys))) := c1_s fun z d τ v W Q c rh q => by
  unfold fList at q
  cases e : d.seq with
  | none => rw [e] at q; exact q.elim
  | some ds =>
    rw [e] at q
    obtain ⟨p, ws, rfl, h1, h2⟩ := rh.seq_ c e
    exact ⟨p, ws, rfl, h1, fun l hl => alloc_lst c hl h2 q⟩
theorem RepH.bl_' {z : Z} {v : V} {b : Bool} (r : RepH G z (.bl b) v) : v = .bl b := by cases r with | sh h => cases h; rfl
def fInt : D → Store → R U
  | .int i, τ => .ok (.d (.int i)) τ
  | .bl b, τ => .ok (.d (.int (if b then 1 else 0))) τ
  | _, _ => .bad
theorem c_int : CallS G (c1 fInt) (fun xs H Q => (∃ i, xs = [.int i] ∧ Q (.int i) H) ∨ ∃ k, xs = [.bl k] ∧ Q (.int (if k then 1 else 0)) H) := c1_s fun z d τ v W Q c rh q => by
  cases d with
  | int i => rw [rh.int_]; exact .inl ⟨i, rfl, Run.ok (rep := RepU G) q c (.d (.int _))⟩
  | bl b => rw [rh.bl_']; exact .inr ⟨b, rfl, Run.ok (rep := RepU G) q c (.d (.int _))⟩
  | _ => exact q.elim
def fAbs : D → Store → R U
  | .int i, τ => .ok (.d (.int (if i < 0 then -i else i))) τ
  | _, _ => .bad
theorem c_abs : CallS G (c1 fAbs) (fun xs H Q => ∃ i, xs = [.int i] ∧ Q (.int (if i < 0 then -i else i)) H) := c1_s fun z d τ v W Q c rh q => by
  cases d with
  | int i => rw [rh.int_]; exact ⟨i, rfl, Run.ok (rep := RepU G) q c (.d (.int _))⟩
  | _ => exact q.elim
end

/-! ### isinstance -/
def D.ty : D → Option String
  | .non => some "NoneType" | .bl _ => some "bool" | .int _ => some "int" | .str _ => some "str"
  | .tup _ => some "tuple" | .lst _ => some "list" | .fl _ => some "list" | .dct _ => some "dict"
  | _ => none
def isTy (a b : String) : Bool := a == b || (a == "bool" && b == "int")
def eIsi (T : String) (f : EV) : EV := fun ρ τ => (f ρ τ).bind fun u τ1 => match vw τ1 u with
  | some d => match d.ty with
    | some a => .ok (.d (.bl (isTy a T))) τ1
    | none => .bad
  | none => .bad
section
variable {G : Gd} {z : Z} {τ : Store}
/-- one of the types that isinstance is asked for here -/
def KitT (T : String) : Prop := ∀ a, a ∈ ["NoneType", "bool", "int", "str", "tuple", "list", "dict"] → kitB a T = some (isTy a T)
theorem kit_str : KitT "str" := fun a h => by
  simp only [List.mem_cons, List.not_mem_nil, or_false] at h
  rcases h with rfl | rfl | rfl | rfl | rfl | rfl | rfl <;> decide +kernel
theorem kit_int : KitT "int" := fun a h => by
  simp only [List.mem_cons, List.not_mem_nil, or_false] at h
  rcases h with rfl | rfl | rfl | rfl | rfl | rfl | rfl <;> decide +kernel
theorem kit_bool : KitT "bool" := fun a h => by
  simp only [List.mem_cons, List.not_mem_nil, or_false] at h
  rcases h with rfl | rfl | rfl | rfl | rfl | rfl | rfl <;> decide +kernel
theorem kit_tuple : KitT "tuple" := fun a h => by
  simp only [List.mem_cons, List.not_mem_nil, or_false] at h
  rcases h with rfl | rfl | rfl | rfl | rfl | rfl | rfl <;> decide +kernel
theorem kit_list : KitT "list" := fun a h => by
  simp only [List.mem_cons, List.not_mem_nil, or_false] at h
  rcases h with rfl | rfl | rfl | rfl | rfl | rfl | rfl <;> decide +kernel
theorem kit_dict : KitT "dict" := fun a h => by
  simp only [List.mem_cons, List.not_mem_nil, or_false] at h
  rcases h with rfl | rfl | rfl | rfl | rfl | rfl | rfl <;> decide +kernel
theorem ty_v {d : D} {v : V} {a : String} (c : Cells G z τ) (r : RepH G z d v) (e : d.ty = some a) : TyX G.K z.H v (.type a) ∧ a ∈ ["NoneType", "bool", "int", "str", "tuple", "list", "dict"] := by
  cases r with
  | lst h1 h2 => cases e; exact ⟨.base (.lst h1), by simp⟩
  | dct h1 h2 => cases e; exact ⟨.base (.dK h1), by simp⟩
  | ins h1 h2 => cases e
  | sh h =>
    cases h with
    | non => cases e; exact ⟨.base .non, by simp⟩
    | bl b => cases e; exact ⟨.base (.bl b), by simp⟩
    | int i => cases e; exact ⟨.base (.int i), by simp⟩
    | str s => cases e; exact ⟨.base (.str _), by simp⟩
    | tup h1 h2 =>
      cases e
      refine ⟨?_, by simp⟩
      rcases sqT_mono c.sub h1 with h | ⟨o, _, _, h, hc, _⟩
      · rcases h with h | ⟨o, h⟩
        · exact .base (.tup h)
        · exact .fTuple h
      · exact .kTuple h hc
    | lst h1 h2 => cases e; exact ⟨.base (.lst (c.sub _ _ h1)), by simp⟩
    | fl h1 h2 =>
      cases e
      refine ⟨?_, by simp⟩
      rcases sqL_mono c.sub h1 with h | ⟨o, _, _, h, hc, _⟩
      · rcases h with h | ⟨o, h⟩
        · exact .base (.lst h)
        · exact .base (.frz h)
      · exact .kList h hc
    | dct h1 h2 => cases e; exact ⟨.fDict (c.sub _ _ h1), by simp⟩
    | dcu h1 h2 => cases e
    | ins h1 h2 => cases e
    | cls c => cases e
    | exn h1 h2 h3 => cases e
end
section
variable {X : Cx} {G : Gd} {W : WX} {e o : Expr} {es : List Expr} {f fo : EV} {fs : EL} {pos p p2 apos cpos : Pos}
theorem pe_bty {T : String} {y : Str} (hg : Gl X y) (hm : X.mg y = none) (hv : bootBuiltins y = some (.type T)) (hn : y ≠ "__name__" := by decide) (hdb : (y == ("__debug__" : Str)) = false := by decide) : PE X (.Name y p) (tC (.ty T)) :=
  ⟨fun _ _ _ H _ I h => ld_blt I hg hm hv ⟨.ty T, H, I, rfl, h⟩ hn hdb⟩
theorem v_isi {T : String} {y : Str} (hT : KitT T) (hK : X.K = G.K) (hg : Gl X "isinstance") (hm : X.mg "isinstance" = none) (hg2 : Gl X y) (hm2 : X.mg y = none) (hy : bootBuiltins y = some (.type T)) (he : PE X e (VE G W f)) (hn : y ≠ "__name__" := by decide) (hdb : (y == ("__debug__" : Str)) = false := by decide)
    (h1 : starEach (e :: [.Name y p2]) X.env = (false, eval e X.env) :: starEach [.Name y p2] X.env := by rfl) (hpl : (backTo pos (starEach [.Name y p2] X.env)).any (·.1) = false := by rfl) (h2 : starEach [.Name y p2] X.env = (false, eval (.Name y p2) X.env) :: starEach [] X.env := by rfl) :
    PE X (.Call (.Name "isinstance" p) [e, .Name y p2] [] pos) (VE G W (eIsi T f)) := by
  have hy2 : PE X (.Name y p2) (tC (.ty T)) := pe_bty hg2 hm2 hy hn hdb
  refine pe_weak (pe_callB (r := rIsi X.K) call_isi hg hm rfl (pa_cons he (pa_cons hy2 pa_nil h2) h1) (by decide) (by decide) h1 hpl) fun σ H Q ⟨z, ρ, τ, hz, c, en, q⟩ => ⟨z, ρ, τ, hz, c, en, (Run.bind q).imp fun v H1 ⟨z1, u, τ1, e1, f1, c1, r1, q1⟩ => ?_⟩
  subst e1
  cases e2 : vw τ1 u with
  | none => rw [e2] at q1; exact q1.elim
  | some d =>
    rw [e2] at q1
    simp only at q1
    cases e3 : d.ty with
    | none => rw [e3] at q1; exact q1.elim
    | some a =>
      rw [e3] at q1
      obtain ⟨t1, t2⟩ := ty_v c1 (vw_rep c1 r1 e2) e3
      exact ⟨v, .ty T, _, _, isTy a T, rfl, .ty T, hK ▸ t1, kit_ty (hT a t2), Run.ok (rep := RepU G) q1 c1 (.d (.bl _))⟩
end

/-! ### repr -/
def showT (x : PyData) : T := x.shown.cps.toList
def fRepr (d : D) (τ : Store) : R U := match d with
  | .lst _ => rp d τ
  | .tup _ => rp d τ
  | _ => .bad
where rp (d : D) (τ : Store) : R U := match d.py with
  | some x => if x.showable = true ∧ x.hasDict = false ∧ x.depth ≤ 30 ∧ x.shown.length ≤ sizeLine then .ok (.d (.str (showT x))) τ else .bad
  | none => .bad
def rRepr (K : PySem.W.Frag) : List V → Hp → VK → Prop := fun xs H Q => ∃ (p : Addr) (x : PyData), xs = [.ref p] ∧ Dp K H (.ref p) x ∧ x.showable = true ∧ x.hasDict = false ∧ x.depth ≤ 30 ∧ x.shown.length ≤ sizeLine ∧ Q (.str x.shown) H
theorem call_repr {X : Cx} (hg : X.A.guards = some []) (hu : X.A.units + 64 < cLine) : CallR X (.builtin "repr") (rRepr X.K) := by
  intro pins s σ H xs us Q I r h
  obtain ⟨p, x, rfl, hd, h1, h2, h3, h4, q⟩ := h
  obtain ⟨u, rfl, ru⟩ := vals1 r
  obtain rfl : u = Value.ref p := ru
  obtain ⟨as, hr⟩ := Dp.reads I x _ _ hd (show RelV (.ref p) (.ref p) from rfl)
  exact PySem.repr_of_reads' hr h1 (fun z => absurd z (by rw [h2]; decide)) hg (by omega) (fun _ _ e => e) (fun h' u tk kp => ⟨.str x.shown, H, I.kept kp, ⟨u, rfl⟩, q⟩) h4
theorem c_repr {G : Gd} : CallS G (c1 fRepr) (rRepr G.K) := c1_s fun z d τ v W Q c rh q => by
  have gen : (∃ p, v = .ref p) → Run G (RepU G) (fRepr.rp d τ) W z Q → rRepr G.K [v] z.H Q := by
    rintro ⟨p, rfl⟩ q
    unfold fRepr.rp at q
    cases e : d.py with
    | none => rw [e] at q; exact q.elim
    | some x =>
      rw [e] at q
      have q : Run G (RepU G) (if x.showable = true ∧ x.hasDict = false ∧ x.depth ≤ 30 ∧ x.shown.length ≤ sizeLine then .ok (.d (.str (showT x))) τ else .bad) W z Q := q
      by_cases h : x.showable = true ∧ x.hasDict = false ∧ x.depth ≤ 30 ∧ x.shown.length ≤ sizeLine
      · rw [if_pos h] at q
        refine ⟨p, x, rfl, rh.dp_ c e, h.1, h.2.1, h.2.2.1, h.2.2.2, ?_⟩
        have e2 : T.s (showT x) = x.shown := T.of x.shown
        rw [← e2]
        exact Run.ok (rep := RepU G) q c (.d (.str _))
      · rw [if_neg h] at q; exact q.elim
  cases d with
  | lst ds =>
    obtain ⟨p, vs, e, _⟩ := rh.lst_ c
    exact gen ⟨p, e⟩ q
  | tup ds =>
    obtain ⟨p, vs, e, _⟩ := rh.tup_ c
    exact gen ⟨p, e⟩ q
  | _ => exact q.elim

/-! ### methods -/
/-- a method that changes nothing: by data -/
def MtS (G : Gd) (T : String) (g : D → List D → Store → R U) (r : V → List V → Hp → VK → Prop) : Prop :=
  ∀ (z : Z) (d : D) (ds : List D) (τ : Store) (v : V) (vs : List V) (W : XK) (Q : VK), Cells G z τ → RepH G z d v → RepHs G z ds vs → Run G (RepU G) (g d ds τ) W z Q → r v vs z.H Q
def tyD (T : String) : D → Bool
  | .str _ => T == "str"
  | .int _ => T == "int"
  | .lst _ => T == "list"
  | .fl _ => T == "list"
  | .dct _ => false
  | _ => false
def gMt (T : String) (g : D → List D → Store → R U) (u : U) (us : List U) (τ : Store) : R U := match vw τ u, vws τ us with
  | some d, some ds => g d ds τ
  | _, _ => .bad
def eMt (T : String) (g : D → List D → Store → R U) (fo : EV) (fs : EL) : EV := fun ρ τ => (fo ρ τ).bind fun u τ1 => match vw τ1 u with
  | some d => if tyD T d = true then (fs ρ τ1).bind fun us τ2 => gMt T g u us τ2 else .bad
  | none => .bad
theorem tyV_d {G : Gd} {z : Z} {τ : Store} {T : String} {d : D} {v : V} (c : Cells G z τ) (r : RepH G z d v) (h : tyD T d = true) : tyV G.K T v z.H := by
  cases d with
  | str t => rw [r.str_]; exact beq_iff_eq.mp h
  | int t => rw [r.int_]; exact beq_iff_eq.mp h
  | lst ds => obtain ⟨p, vs, rfl, h1, _⟩ := r.lst_ c; exact .inl ⟨beq_iff_eq.mp h, vs, SqL.of h1⟩
  | fl ds => obtain ⟨p, vs, rfl, h1, _⟩ := r.fl_ c; exact .inl ⟨beq_iff_eq.mp h, vs, h1⟩
  | _ => exact absurd h Bool.false_ne_true
section
variable {X : Cx} {G : Gd} {W : WX} {e o : Expr} {es : List Expr} {f fo : EV} {fs : EL} {pos p p2 apos cpos : Pos} {T id : String} {name : Str} {g : D → List D → Store → R U} {r : V → List V → Hp → VK → Prop}
theorem v_mt (pa : PlainAttrs T) (slot : Slot T name id) (hty : typeOf (.builtin id) = pure (.type "method_descriptor")) (hK : X.K = G.K) (hm : MtR X id r) (hs : MtS G T g r) (ho : PE X o (VE G W fo)) (ha : PA X (e :: es) (VA G W fs))
    (hbase : attributeBase o name X.env (eval o X.env) = eval o X.env := by rfl)
    (hfew : ((backTo cpos (starEach (e :: es) X.env)).all (fun x => !x.1) && (backToKw cpos (keywordEach [] X.env)).all (fun x => x.1.isSome)
      && decide ((e :: es).length + ([] : List Keyword).length + (if ([] : List Keyword).isEmpty then 0 else 1) < 30)) = true := by rfl)
    (hline : (apos.endLine == cpos.line) = true := by rfl) (h1 : starEach (e :: es) X.env = (false, eval e X.env) :: starEach es X.env := by rfl) (hpl : (backTo cpos (starEach es X.env)).any (·.1) = false := by rfl) :
    PE X (.Call (.Attribute o name apos) (e :: es) [] cpos) (VE G W (eMt T g fo fs)) := by
  refine pe_weak (pe_bm pa slot hty hm ho ha hbase hfew hline h1 hpl) fun σ H Q ⟨z, ρ, τ, hz, c, en, q⟩ => ⟨z, ρ, τ, hz, c, en, (Run.bind q).imp fun v H1 ⟨z1, u, τ1, e1, f1, c1, r1, q1⟩ => ?_⟩
  subst e1
  cases e2 : vw τ1 u with
  | none => rw [e2] at q1; exact q1.elim
  | some d =>
    rw [e2] at q1
    have q1 : Run G (RepU G) (if tyD T d = true then (fs ρ τ1).bind fun us τ2 => gMt T g u us τ2 else .bad) _ z1 Q := q1
    by_cases h : tyD T d = true
    · rw [if_pos h] at q1
      refine ⟨hK ▸ tyV_d c1 (vw_rep c1 r1 e2) h, z1, ρ, τ1, rfl, c1, en.fut f1, (Run.bind q1).imp fun vs H2 ⟨z2, us, τ2, e3, f2, c2, r2, q2⟩ => ?_⟩
      subst e3
      unfold gMt at q2
      cases e4 : vw τ2 u with
      | none => rw [e4] at q2; exact q2.elim
      | some d2 =>
        cases e5 : vws τ2 us with
        | none => rw [e4, e5] at q2; exact q2.elim
        | some ds =>
          rw [e4, e5] at q2
          exact hs z2 d2 ds τ2 v vs _ Q c2 (vw_rep c2 (r1.fut f2) e4) (vws_rep c2 r2 e5) q2
    · rw [if_neg h] at q1; exact q1.elim
end

/-! ### split, join -/
theorem tls_s (ts : List T) : (ts.map T.s).map TL.tl = ts := by
  induction ts with
  | nil => rfl
  | cons t ts ih => rw [List.map_cons, List.map_cons, ih]; rfl
theorem split_s {a b : T} (hb : b ≠ []) (hk : b.all (· < 256) = true) : Txt.split a.s b.s = (TL.spl b 0 [] a).map T.s :=
  TL.map_tl_inj ((TL.split_spl a.s b.s hb (TL.kind_ok (by rw [← Array.all_toList]; exact hk))).trans (tls_s _).symm)
theorem join_s (b : T) (ts : List T) : Txt.join b.s (ts.map T.s) = T.s (TL.joinL b ts) := by
  refine TL.ext_tl ?_
  rw [TL.join_eq, TL.tl_join, tls_s]
  rfl
def mSplit : D → List D → Store → R U
  | .str a, [.str b], τ => if b ≠ [] ∧ b.all (· < 256) = true ∧ a.length + 2 ≤ sizeLine then .ok (.d (.lst ((TL.spl b 0 [] a).map .str))) τ else .bad
  | _, _, _ => .bad
def mJoin : D → List D → Store → R U
  | .str a, [d], τ => match d.seq with
    | some ds => match strsOf ds with
      | some ts => if (ts.map (·.length)).sum + ts.length * a.length ≤ 16777216 then .ok (.d (.str (TL.joinL a ts))) τ else .bad
      | none => .bad
    | none => .bad
  | _, _, _ => .bad
theorem lens_s (ts : List T) : (ts.map T.s).map (·.length) = ts.map (·.length) := by
  rw [List.map_map]
  exact List.map_congr_left fun t _ => T.len t
section
variable {X : Cx} {G : Gd} {W : WX} {e o : Expr} {es : List Expr} {f fo : EV} {fs : EL} {pos p p2 apos cpos : Pos}
theorem m_split : MtS G "str" mSplit (fun x xs H Q => ∃ a b, x = .str a ∧ xs = [.str b] ∧ (b.length == 0) = false ∧ a.length + 2 ≤ sizeLine ∧ rNewStrs (Txt.split a b) H Q) := by
  intro z d ds τ v vs W Q c r rs q
  match d, ds, r, rs, q with
  | .str a, [.str b], r, rs, q =>
    obtain ⟨w, rfl, rw'⟩ := hs1 rs rfl
    rw [r.str_, rw'.str_]
    have q : Run G (RepU G) (if b ≠ [] ∧ b.all (· < 256) = true ∧ a.length + 2 ≤ sizeLine then .ok (.d (.lst ((TL.spl b 0 [] a).map .str))) τ else .bad) W z Q := q
    by_cases h : b ≠ [] ∧ b.all (· < 256) = true ∧ a.length + 2 ≤ sizeLine
    · rw [if_pos h] at q
      refine ⟨_, _, rfl, rfl, ?_, by rw [T.len]; exact h.2.2, fun p hp => ?_⟩
      · rw [T.len]
        cases b with
        | nil => exact absurd rfl h.1
        | cons _ _ => rfl
      · rw [split_s h.1 h.2.1]
        exact alloc_lst (own := false) c hp (reps_strs _) q
    · rw [if_neg h] at q; exact q.elim
theorem m_join : MtS G "str" mJoin (fun x xs H Q => ∃ a p, ∃ ys : List Str, x = .str a ∧ xs = [.ref p] ∧ (SqL G.K H p (ys.map V.str) ∨ SqT G.K H p (ys.map V.str)) ∧ (ys.map (·.length)).sum + ys.length * a.length ≤ 16777216 ∧ Q (.str (Txt.join a ys)) H) := by
  intro z d ds τ v vs W Q c r rs q
  match d, ds, r, rs, q with
  | .str a, [y], r, rs, q =>
    obtain ⟨w, rfl, rw'⟩ := hs1 rs rfl
    rw [r.str_]
    simp only [mJoin] at q
    cases e : y.seq with
    | none => rw [e] at q; exact q.elim
    | some es =>
      rw [e] at q
      simp only at q
      cases e2 : strsOf es with
      | none => rw [e2] at q; exact q.elim
      | some ts =>
        rw [e2] at q
        have q : Run G (RepU G) (if (ts.map (·.length)).sum + ts.length * a.length ≤ 16777216 then .ok (.d (.str (TL.joinL a ts))) τ else .bad) W z Q := q
        by_cases h : (ts.map (·.length)).sum + ts.length * a.length ≤ 16777216
        · rw [if_pos h] at q
          obtain ⟨p, ws, rfl, h1, h2⟩ := rw'.seq_ c e
          rw [strs_eq e2] at h2
          rw [reps_str_inv h2] at h1
          refine ⟨_, p, ts.map T.s, rfl, rfl, h1, by rw [lens_s, List.length_map, T.len]; exact h, ?_⟩
          rw [join_s]
          exact Run.ok (rep := RepU G) q c (.d (.str _))
        · rw [if_neg h] at q; exact q.elim
theorem v_split (hK : X.K = G.K) (ho : PE X o (VE G W fo)) (ha : PA X [e] (VA G W fs)) (hbase : attributeBase o "split" X.env (eval o X.env) = eval o X.env := by rfl)
    (hfew : ((backTo cpos (starEach [e] X.env)).all (fun x => !x.1) && (backToKw cpos (keywordEach [] X.env)).all (fun x => x.1.isSome)
      && decide ([e].length + ([] : List Keyword).length + (if ([] : List Keyword).isEmpty then 0 else 1) < 30)) = true := by rfl)
    (hline : (apos.endLine == cpos.line) = true := by rfl) (h1 : starEach [e] X.env = (false, eval e X.env) :: starEach [] X.env := by rfl) (hpl : (backTo cpos (starEach [] X.env)).any (·.1) = false := by rfl) :
    PE X (.Call (.Attribute o "split" apos) [e] [] cpos) (VE G W (eMt "str" mSplit fo fs)) := v_mt F.plainAttrs_str F.slot_str_split F.type_str_split hK mt_split m_split ho ha hbase hfew hline h1 hpl
theorem v_join (hK : X.K = G.K) (ho : PE X o (VE G W fo)) (ha : PA X [e] (VA G W fs)) (hbase : attributeBase o "join" X.env (eval o X.env) = eval o X.env := by rfl)
    (hfew : ((backTo cpos (starEach [e] X.env)).all (fun x => !x.1) && (backToKw cpos (keywordEach [] X.env)).all (fun x => x.1.isSome)
      && decide ([e].length + ([] : List Keyword).length + (if ([] : List Keyword).isEmpty then 0 else 1) < 30)) = true := by rfl)
    (hline : (apos.endLine == cpos.line) = true := by rfl) (h1 : starEach [e] X.env = (false, eval e X.env) :: starEach [] X.env := by rfl) (hpl : (backTo cpos (starEach [] X.env)).any (·.1) = false := by rfl) :
    PE X (.Call (.Attribute o "join" apos) [e] [] cpos) (VE G W (eMt "str" mJoin fo fs)) := v_mt F.plainAttrs_str F.slot_str_join F.type_str_join hK (hK ▸ mt_join) m_join ho ha hbase hfew hline h1 hpl
end

/-! ### sorted of a list -/
def fSorted (own : Bool) (d : D) (τ : Store) : R U := match d.lsts with
  | some ds => if ds.length ≤ sizeLine then match intsOf ds with
    | some ns => allocL own ((srt ns).map .int) τ
    | none => match strsOf ds with
      | some ts => allocL own ((srt ts).map .str) τ
      | none => match tupsOf ds with
        | some ks => match ks.map form with
          | [] => .bad
          | f :: fs => if f ≠ [] ∧ fs.all (· == f) = true then allocL own ((srt ks).map fun k => .tup (k.map Ky.d)) τ else .bad
        | none => .bad
    else .bad
  | none => .bad
def rSortD (K : PySem.W.Frag) : List V → Hp → VK → Prop := fun vs H Q => ∃ (a : Addr) (xs : List V), vs = [V.ref a] ∧ SqL K H a xs ∧ ((∃ ns : List Int, xs = ns.map V.int ∧ ∀ p, H p = none → Q (.ref p) (upd H p (.lst ((srt ns).map V.int)))) ∨
  (∃ ts : List T, xs = (ts.map T.s).map V.str ∧ ∀ p, H p = none → Q (.ref p) (upd H p (.lst (((srt ts).map T.s).map V.str)))) ∨
  ∃ (ks : List (List Ky)) (b : Bool) (f : List Bool), Paired (fun x k => ∃ t, x = V.ref t ∧ SqT K H t (k.map fun k => kV k.k)) xs ks ∧ (∀ k ∈ ks, form k = b :: f) ∧
    ∀ zs : List (V × List Ky), zs.Perm (xs.zip ks) → zs.map (·.2) = srt ks → ∀ p, H p = none → Q (.ref p) (upd H p (.lst (zs.map (·.1)))))
section
variable {X : Cx} {G : Gd}
theorem tk_of {pins : List (Addr × Obj)} {σ : L2.St} {H : Hp} {s : Shared} (I : Inv X pins σ H s) {t : Addr} {k : List Ky} (h : SqT X.K H t (k.map fun k => kV k.k)) : IsTK s.heap (.ref t) k := by
  obtain ⟨its, r, ⟨o, ho, hc, n, hd⟩, _⟩ := I.tuple h
  exact ⟨t, o, its, n, rfl, ho, hc, hd, kys_paired r⟩
theorem backs : ∀ {xs : List V} {its : List Value} {ks : List (List Ky)} {R : V → List Ky → Prop}, Vals xs its → Paired R xs ks → (∀ x k, R x k → ∃ t, x = V.ref t) → its.map bkV = xs
  | _, _, _, _, .nil, _, _ => rfl
  | _, _, _, _, .cons r t, .cons a b, h => by
    obtain ⟨q, rfl⟩ := h _ _ a
    cases r
    rw [List.map_cons, backs t b h]
    rfl
theorem call_sortD : CallR X (.builtin "sorted") (rSortD X.K) := by
  intro pins s σ H vs us Q I r h
  obtain ⟨a, xs, rfl, hs, h⟩ := h
  obtain ⟨its, rv, hl, hz⟩ := I.list hs
  rw [Vals.ref1 r]
  have hil : its.length ≤ sizeLine := by rw [← rv.length]; exact hz
  have fin : ∀ (out : List Value) (ys : List V), Vals ys out → ys.length ≤ sizeLine → (∀ p, H p = none → Q (.ref p) (upd H p (.lst ys))) → EP X pins σ Q (.ref (s.heap.objs.size + 1)) { s with heap := sortedAll s.heap its out.toArray } := fun out ys rv' hy q => by
    obtain ⟨ep, he⟩ := sortedAll_at s.heap its out.toArray
    exact ⟨.ref (s.heap.objs.size + 1), upd H (s.heap.objs.size + 1) (.lst ys), I.laid (t' := s.toks) (fun _ _ => sortedAll_old) (Nat.le_succ _) ⟨hy, out, ep, rv', he⟩, rfl, q _ (I.hok.fresh (Nat.le_succ _))⟩
  rcases h with ⟨ns, rfl, q⟩ | ⟨ts, rfl, q⟩ | ⟨ks, b, f, hp, hf, q⟩
  · refine sorted_intsAny hl.isList rv.ints hil fun out ns' h1 h2 h3 => ?_
    have e : ns' = srt ns := srt_uniq h2 (h3.imp fun h => by omega)
    subst e
    have := fin out.toList _ (vals_of_ints h1) (by rw [List.length_map, (srt_perm ns).length_eq]; simpa using hz) q
    rwa [Array.toArray_toList] at this
  · refine sorted_strsAny hl.isList (strs_of_vals rv) hil fun out ys h1 h2 h3 => ?_
    have e := TxtSet.outS h2 h3
    subst e
    have := fin out.toList _ (vals_of_strs h1) (by rw [List.length_map, List.length_map, (srt_perm ts).length_eq]; simpa using hz) q
    rwa [Array.toArray_toList] at this
  · have tk : ∀ {xs : List V} {its : List Value} {ks : List (List Ky)}, Vals xs its → Paired (fun x k => ∃ t, x = V.ref t ∧ SqT X.K H t (k.map fun k => kV k.k)) xs ks →
        (∀ v ∈ its, ∃ k ∈ ks, IsTK s.heap v k) ∧ its.map (fun u => (bkV u, keyAt s.heap u)) = xs.zip ks := by
      intro xs its ks r p
      induction p generalizing its with
      | nil => cases r; exact ⟨fun v m => by simp at m, rfl⟩
      | cons h1 h2 ih =>
        cases r with
        | cons r1 r2 =>
          obtain ⟨t, rfl, ht⟩ := h1
          cases r1
          obtain ⟨i1, i2⟩ := ih r2
          have k1 := tk_of I ht
          refine ⟨fun v m => ?_, ?_⟩
          · rcases List.mem_cons.mp m with e | m
            · exact ⟨_, List.mem_cons_self, e ▸ k1⟩
            · obtain ⟨k, m1, m2⟩ := i1 v m
              exact ⟨k, List.mem_cons_of_mem _ m1, m2⟩
          · rw [List.map_cons, i2, keyAt_eq k1]
            rfl
    obtain ⟨t1, t2⟩ := tk rv hp
    refine SrtO.sorted_ord (swo_key s.heap) hl.isList hil (fun h2 h₁ a' ha kk => ?_) fun out o1 o2 => ?_
    · have e0 : ∀ v ∈ its, ∃ k, IsTK h₁ v k ∧ form k = b :: f ∧ keyAt h₁ v = keyAt s.heap v := fun v m => by
        obtain ⟨k, m1, m2⟩ := t1 v m
        have m3 := m2.keeps (h' := h₁) fun b o e _ => (kk b o e).2
        exact ⟨k, m3, hf k m1, by rw [keyAt_eq m2, keyAt_eq m3]⟩
      have e1 := tk_sortable (P := X.prog) (w := X.w) (A := X.A.in1.in1) (s := { s with heap := h₁ }) (a := a') (vs := its) (b := b) (f := f) (by omega) (fun v m => let ⟨k, q1, q2, _⟩ := e0 v m; ⟨k, q1, q2⟩) fun o e => by
        have e' : some o = some (seqObj "list" its.toArray 0) := e.symm.trans ha
        cases e'
        exact fun c => absurd (Value.type.inj c) (by decide)
      intro h' keep
      obtain ⟨κ, w1, w2⟩ := e1 h' keep
      refine ⟨κ, w1, fun p q hm hm' => ?_⟩
      have w3 := w2 p q hm hm'
      obtain ⟨_, _, _, z1⟩ := e0 _ hm
      obtain ⟨_, _, _, z2⟩ := e0 _ hm'
      have e3 : SrtO.lt2 (fun v u => decide (keyAt h₁ v < keyAt h₁ u)) p q = SrtO.lt2 (fun v u => decide (keyAt s.heap v < keyAt s.heap u)) p q := by
        show decide (keyAt h₁ p.1 < keyAt h₁ q.1) = decide (keyAt s.heap p.1 < keyAt s.heap q.1)
        rw [z1, z2]
      have e4 : SrtO.lt2 (fun v u => decide (keyAt ({ s with heap := h₁ } : Shared).heap v < keyAt ({ s with heap := h₁ } : Shared).heap u)) p q = SrtO.lt2 (fun v u => decide (keyAt h₁ v < keyAt h₁ u)) p q := rfl
      rw [e4, e3] at w3
      exact w3
    · have refs : ∀ u ∈ out, ∃ t, u = Value.ref t := fun u hu => by
        obtain ⟨k, _, a, _, _, _, e, _⟩ := t1 u (o2.perm.mem_iff.mp hu)
        exact ⟨a, e⟩
      have pz : (out.map fun u => (bkV u, keyAt s.heap u)).Perm (xs.zip ks) := by
        rw [← t2]
        exact o2.perm.map _
      have hlen : ks.length = xs.length := (paired_len hp).symm
      have hz2 : (xs.zip ks).map (·.2) = ks := by
        rw [List.map_snd_zip (by omega)]
      refine fin out _ (bkV_vals refs) ?_ fun p hp' => ?_
      · rw [List.length_map, o2.perm.length_eq]
        exact hil
      · have w := q (out.map fun u => (bkV u, keyAt s.heap u)) pz ?_ p hp'
        · rw [List.map_map] at w
          exact w
        · refine srt_uniq ?_ ?_
          · have := pz.map (·.2)
            rwa [hz2] at this
          · rw [List.map_map]
            exact List.pairwise_map.mpr (o1.imp fun h => of_decide_eq_false h)
theorem reps_of_zs {S : Hp} : ∀ {zs : List (V × List Ky)}, (∀ x ∈ zs, Rep G S (.tup (x.2.map Ky.d)) x.1) → Reps G S ((zs.map (·.2)).map fun k => .tup (k.map Ky.d)) (zs.map (·.1))
  | [], _ => .nil
  | z :: zs, h => .cons (h z List.mem_cons_self) (reps_of_zs fun x m => h x (List.mem_cons_of_mem _ m))
theorem tups_paired {z : Z} {τ : Store} (c : Cells G z τ) : ∀ {ks : List (List Ky)} {vs : List V}, Reps G z.S (ks.map fun k => .tup (k.map Ky.d)) vs → Paired (fun x k => ∃ t, x = V.ref t ∧ SqT G.K z.H t (k.map fun k => kV k.k)) vs ks ∧ ∀ x ∈ vs.zip ks, Rep G z.S (.tup (x.2.map Ky.d)) x.1
  | [], _, h => by cases h; exact ⟨.nil, fun _ m => by simp at m⟩
  | k :: ks, _, h => by
    cases h with
    | cons h1 h2 =>
      obtain ⟨i1, i2⟩ := tups_paired c h2
      have h0 := h1
      cases h1 with
      | tup s1 s2 =>
        have e := reps_ky_inv s2
        subst e
        refine ⟨.cons ⟨_, rfl, sqT_mono c.sub s1⟩ i1, fun x m => ?_⟩
        rw [List.zip_cons_cons] at m
        rcases List.mem_cons.mp m with e | m
        · rw [e]; exact h0
        · exact i2 x m
theorem c_sorted {own : Bool} : CallS G (c1 (fSorted own)) (rSortD G.K) := c1_s fun z d τ v W Q c rh q => by
  unfold fSorted at q
  cases e : d.lsts with
  | none => rw [e] at q; exact q.elim
  | some ds =>
    rw [e] at q
    simp only at q
    obtain ⟨a, vs, rfl, h1, h2⟩ := rh.lsts_ c e
    by_cases hz : ds.length ≤ sizeLine
    · rw [if_pos hz] at q
      refine ⟨a, vs, rfl, h1, ?_⟩
      cases e1 : intsOf ds with
      | some ns =>
        rw [e1] at q
        rw [ints_eq e1] at h2
        exact .inl ⟨ns, reps_int_inv h2, fun p hp => alloc_lst c hp (reps_ints _) q⟩
      | none =>
        rw [e1] at q
        simp only at q
        cases e2 : strsOf ds with
        | some ts =>
          rw [e2] at q
          rw [strs_eq e2] at h2
          exact .inr (.inl ⟨ts, reps_str_inv h2, fun p hp => alloc_lst c hp (reps_strs _) q⟩)
        | none =>
          rw [e2] at q
          simp only at q
          cases e3 : tupsOf ds with
          | none => rw [e3] at q; exact q.elim
          | some ks =>
            rw [e3] at q
            simp only at q
            cases e4 : ks.map form with
            | nil => rw [e4] at q; exact q.elim
            | cons f fs =>
              rw [e4] at q
              have q : Run G (RepU G) (if f ≠ [] ∧ fs.all (· == f) = true then allocL own ((srt ks).map fun k => .tup (k.map Ky.d)) τ else .bad) W z Q := q
              by_cases h : f ≠ [] ∧ fs.all (· == f) = true
              · rw [if_pos h] at q
                rw [tups_eq e3] at h2
                obtain ⟨p1, p2⟩ := tups_paired c h2
                obtain ⟨b, f', ef⟩ : ∃ b f', f = b :: f' := by
                  cases f with
                  | nil => exact absurd rfl h.1
                  | cons b f' => exact ⟨b, f', rfl⟩
                refine .inr (.inr ⟨ks, b, f', p1, fun k m => ?_, fun zs pz ez p hp => ?_⟩)
                · have m2 : form k ∈ ks.map form := List.mem_map_of_mem m
                  rw [e4] at m2
                  rcases List.mem_cons.mp m2 with z1 | z1
                  · rw [z1, ef]
                  · have := List.all_eq_true.mp h.2 _ z1
                    rw [beq_iff_eq.mp this, ef]
                · refine alloc_lst c hp ?_ q
                  rw [← ez]
                  exact reps_of_zs fun x m => p2 x (pz.mem_iff.mp m)
              · rw [if_neg h] at q; exact q.elim
    · rw [if_neg hz] at q; exact q.elim
end
end VL

/-! The value layer, B: sorted(set(xs)), lists that change, items that are set. -/
namespace VL
open PySem PySem.Spec PyProof.Rows L2 LamX

theorem once_len {α : Type} [DecidableEq α] : ∀ ts : List α, (once ts).length ≤ ts.length
  | [] => Nat.le_refl _
  | t :: ts => by
    have ih := once_len ts
    unfold once
    split
    · exact Nat.le_succ_of_le ih
    · exact Nat.succ_le_succ ih
/-- sorted(set(e)), texts -/
def fSortSet (own : Bool) (d : D) (τ : Store) : R U := match d.lsts with
  | some ds => match strsOf ds with
    | some ts => if ts.length < 4000 then allocL own ((setL ts).map .str) τ else .bad
    | none => .bad
  | none => .bad
def eDat (g : D → Store → R U) (f : EV) : EV := fun ρ τ => (f ρ τ).bind fun u τ1 => match vw τ1 u with
  | some d => g d τ1
  | none => .bad
section
variable {X : Cx} {G : Gd} {W : WX} {e : Expr} {f : EV} {p p2 q pos : Pos}
theorem v_sortSet {own : Bool} (hK : X.K = G.K) (hc : X.calm = true) (hg : Gl X "sorted") (hm : X.mg "sorted" = none) (hg2 : Gl X "set") (hm2 : X.mg "set" = none) (he : PE X e (VE G W f))
    (na : starEach [e] X.env = (false, eval e X.env) :: starEach [] X.env := by rfl) : PE X (.Call (.Name "sorted" p) [.Call (.Name "set" p2) [e] [] q] [] pos) (VE G W (eDat (fSortSet own) f)) := by
  refine ⟨fun pins s σ H Q I ⟨z, ρ, τ, hz, c, en, h⟩ => ?_⟩
  refine Call_ (ld_blt I hg hm (u := .builtin "sorted") rfl ?_)
  refine PyProof.Rows.callWith_builtin1 (PyProof.Rows.args_cons ?_ rfl) rfl rfl
  refine Call_ (ld_blt I hg2 hm2 (u := .type "set") rfl ?_)
  refine PyProof.Rows.callWith_type1 (PyProof.Rows.args_cons (thn (he.run pins s σ H _ I ⟨z, ρ, τ, hz, c, en, Run.bind h⟩) fun v s1 ⟨x, H1, I1, r1, q1⟩ => PyProof.Rows.args_nil ?_) na) na rfl
  obtain ⟨z1, u, τ1, e1, f1, c1, ru, q1⟩ := q1
  subst e1
  cases e2 : vw τ1 u with
  | none => rw [e2] at q1; exact q1.elim
  | some d =>
    rw [e2] at q1
    simp only [fSortSet] at q1
    cases e3 : d.lsts with
    | none => rw [e3] at q1; exact q1.elim
    | some ds =>
      rw [e3] at q1
      simp only at q1
      cases e4 : strsOf ds with
      | none => rw [e4] at q1; exact q1.elim
      | some ts =>
        rw [e4] at q1
        simp only at q1
        by_cases hl : ts.length < 4000
        · rw [if_pos hl] at q1
          obtain ⟨a, vs, rfl, h1, h2⟩ := (vw_rep c1 ru e2).lsts_ c1 e3
          rw [strs_eq e4] at h2
          rw [reps_str_inv h2] at h1
          cases r1
          rw [← hK] at h1
          obtain ⟨its, rv, pl, hz⟩ := I1.list h1
          have sb : ts.length + 1 < scanBound := by show ts.length + 1 < 4096; omega
          refine TxtSet.made (ts.map T.s) (I1.ok.hd hc) pl.isList (strs_of_vals rv) (by rw [List.length_map]; exact sb) fun h' tk hs kp => PyProof.Rows.args_nil ?_
          have I2 : Inv X pins σ z1.H { s1 with heap := h', toks := tk } := I1.kept kp
          refine TxtSet.sorted (s := { s1 with heap := h', toks := tk }) hs (I2.ok.hd hc) (by omega) fun s' p out cc k g o hp hg' hs' => ?_
          have few : (((setL ts).map T.s).map V.str).length ≤ sizeLine := by
            rw [List.length_map, List.length_map, sizeLine_eq]
            have := once_len ts
            have e5 : (setL ts).length = (once ts).length := (srt_perm _).length_eq
            omega
          have hn : z1.H p = none := I2.hok.fresh hp
          have J : Inv X pins σ (upd z1.H p (.lst (((setL ts).map T.s).map V.str))) { ({ s1 with heap := h', toks := tk } : Shared) with heap := s'.heap, gens := s'.gens, drawn := s'.drawn, toks := s'.toks } :=
            I2.call (ch := []) (Un.laid k hp hn) (I2.hok.laid k hp ⟨few, out, cc, vals_of_strs hs', hg'⟩) (by rw [g]; exact I2.bare) (fun _ z => nomatch z)
          have e6 : s' = { ({ s1 with heap := h', toks := tk } : Shared) with heap := s'.heap, gens := s'.gens, drawn := s'.drawn, toks := s'.toks } := by
            cases s'
            cases s1
            cases o
            rfl
          rw [e6]
          exact ⟨.ref p, _, J, rfl, alloc_lst c1 hn (reps_strs _) q1⟩
        · rw [if_neg hl] at q1; exact q1.elim
end

/-! ### a list that changes: append, pop, an item set -/
/-- what is laid into a cell must be data -/
def gAppend (u : U) (us : List U) (τ : Store) : R U := match u, frzs τ us with
  | .loc n, some ([x], τ1) => match τ1[n]? with
    | some (.lst ds) => if ds.length < sizeLine then .ok (.d .non) (τ1.set n (.lst (ds ++ [x]))) else .bad
    | _ => .bad
  | _, _ => .bad
def eAppend (fo : EV) (fs : EL) : EV := fun ρ τ => (fo ρ τ).bind fun u τ1 => match u with
  | .loc n => match τ1[n]? with
    | some (.lst _) => (fs ρ τ1).bind fun us τ2 => gAppend u us τ2
    | _ => .bad
  | _ => .bad
section
variable {X : Cx} {G : Gd} {W : WX} {e o : Expr} {f fo : EV} {fs : EL} {pos p p2 apos cpos : Pos}
theorem v_append (hK : X.K = G.K) (ho : PE X o (VE G W fo)) (ha : PA X [e] (VA G W fs)) (hbase : attributeBase o "append" X.env (eval o X.env) = eval o X.env := by rfl)
    (hfew : ((backTo cpos (starEach [e] X.env)).all (fun x => !x.1) && (backToKw cpos (keywordEach [] X.env)).all (fun x => x.1.isSome)
      && decide ([e].length + ([] : List Keyword).length + (if ([] : List Keyword).isEmpty then 0 else 1) < 30)) = true := by rfl)
    (hline : (apos.endLine == cpos.line) = true := by rfl) (h1 : starEach [e] X.env = (false, eval e X.env) :: starEach [] X.env := by rfl) (hpl : (backTo cpos (starEach [] X.env)).any (·.1) = false := by rfl) :
    PE X (.Call (.Attribute o "append" apos) [e] [] cpos) (VE G W (eAppend fo fs)) := by
  have hm : MtR X "list.append" rAppend := fun pins s σ H x xs v us Q I rx rs h => mt_append pins s σ H x xs v us Q I rx rs h
  refine pe_weak (pe_bm F.plainAttrs_list F.slot_list_append F.type_list_append hm ho ha hbase hfew hline h1 hpl) fun σ H Q ⟨z, ρ, τ, hz, c, en, q⟩ => ⟨z, ρ, τ, hz, c, en, (Run.bind q).imp fun v H1 ⟨z1, u, τ1, e1, f1, c1, r1, q1⟩ => ?_⟩
  subst e1
  cases u with
  | d x => exact q1.elim
  | loc n =>
    cases r1 with
    | @loc _ a hm1 =>
      simp only at q1
      cases e2 : τ1[n]? with
      | none => rw [e2] at q1; exact q1.elim
      | some cl =>
        rw [e2] at q1
        cases cl with
        | lst ds0 =>
          obtain ⟨s0, vs0, t1, t2⟩ := c1.at_ n a _ hm1 e2
          refine ⟨.inl ⟨rfl, vs0, SqL.of t1⟩, z1, ρ, τ1, rfl, c1, en.fut f1, (Run.bind q1).imp fun vs H2 ⟨z2, us, τ2, e3, f2, c2, r2, q2⟩ => ?_⟩
          subst e3
          simp only [gAppend] at q2
          cases e4 : frzs τ2 us with
          | none => rw [e4] at q2; exact q2.elim
          | some pr =>
            obtain ⟨xs, τ3⟩ := pr
            rw [e4] at q2
            obtain ⟨z3, h3, f3, c3, rs, m3⟩ := frzs_ok c2 r2 e4
            match xs, rs, q2 with
            | [], _, q2 => exact q2.elim
            | _ :: _ :: _, _, q2 => exact q2.elim
            | [x], rs, q2 =>
              simp only at q2
              cases e5 : τ3[n]? with
              | none => rw [e5] at q2; exact q2.elim
              | some cl =>
                rw [e5] at q2
                cases cl with
                | lst ds =>
                  simp only at q2
                  by_cases hl : ds.length < sizeLine
                  · rw [if_pos hl] at q2
                    have hm3 : z3.ms[n]? = some a := pre_get (f2.trans f3).pre hm1
                    obtain ⟨s5, ws, t5, t6⟩ := c3.at_ n a _ hm3 e5
                    cases rs with
                    | @cons _ v1 _ _ rx rn =>
                      cases rn
                      rw [← h3]
                      refine ⟨a, ws, v1, rfl, rfl, t5, by rw [← t6.length]; exact hl, ?_⟩
                      have q3 := q2.pre f3
                      refine Run.ok (rep := RepU G) (q3.pre (fut_set (o' := .lst (ws ++ [v1])) t5 (List.mem_of_getElem? hm3) trivial)) (cells_set c3 hm3 t5 s5 trivial ⟨s5, _, upd_same, t6.append (.cons rx .nil)⟩) (.d .non)
                  · rw [if_neg hl] at q2; exact q2.elim
                | _ => exact q2.elim
        | _ => exact q1.elim
end
/-- o[i] = e, o a list that changes -/
def setAt (x : D) (o i : U) (ρ : Env) (τ : Store) : RS := match o, i with
  | .loc n, .d (.int k) => match τ[n]? with
    | some (.lst ds) => match ixN ds.length k with
      | some j => .nx ρ (τ.set n (.lst (ds.set j x)))
      | none => .bad
    | _ => .bad
  | _, _ => .bad
def gSetI (fo fi f : EV) : GS := fun ρ τ => liftE (f ρ τ) ρ fun u τ1 => match frz τ1 u with
  | some (x, τ2) => liftE (fo ρ τ2) ρ fun o τ3 => liftE (fi ρ τ3) ρ fun i τ4 => setAt x o i ρ τ4
  | none => .bad
section
variable {X : Cx} {G : Gd} {W : WX} {o i e : Expr} {fo fi f : EV} {pos p2 : Pos}
theorem s_setI (he : PE X e (VE G W f)) (ho : PE X o (VE G W fo)) (hi : PE X i (VE G W fi)) (hs : swapsWithSole [.Subscript o i p2] e pos.line X.env = pure false := by rfl) (hw : swappedStores [.Subscript o i p2] e X.env = pure none := by rfl)
    (h1 : (assignEach [.Subscript o i p2] X.env).map (·.2) = [assign (.Subscript o i p2) X.env] := by rfl) (ha : ∀ v, assign (.Subscript o i p2) X.env v = (do
      let ov ← holding [v] (eval o X.env)
      let iv ← holding [v, ov] (eval i X.env)
      standAt p2
      holding [v, ov, iv] (setItem ov iv v)
      release [v, ov, iv] []) := by intro _; rfl) : PS X (.Assign [.Subscript o i p2] e pos) (VS G W (gSetI fo fi f)) :=
  ps_weak (ps_asg he (pg_sub ho hi set_list ha) hs hw h1) fun D σ H ⟨z, ρ, τ, hz, c, en, q⟩ => ⟨z, ρ, τ, hz, c, en, (RunS.lift (rep := RepU G) en q).imp fun v H1 ⟨z1, u, τ1, e1, f1, c1, r1, q1⟩ => by
    subst e1
    cases e2 : frz τ1 u with
    | none => rw [e2] at q1; exact q1.elim
    | some pr =>
      obtain ⟨x, τ2⟩ := pr
      rw [e2] at q1
      simp only at q1
      obtain ⟨z2, h2, f2, c2, rx, m2⟩ := frz_ok c1 r1 e2
      have en2 := en.fut (f1.trans f2)
      rw [← h2]
      refine ⟨z2, ρ, τ2, rfl, c2, en2, (RunS.lift (rep := RepU G) en2 (RunS.pre q1 f2)).imp fun vo H3 ⟨z3, uo, τ3, e3, f3, c3, r3, q3⟩ => ?_⟩
      subst e3
      have en3 := en2.fut f3
      refine ⟨z3, ρ, τ3, rfl, c3, en3, (RunS.lift (rep := RepU G) en3 q3).imp fun vi H4 ⟨z4, ui, τ4, e4, f4, c4, r4, q4⟩ => ?_⟩
      subst e4
      have r3 := r3.fut f4
      have en4 := en3.fut f4
      match uo, ui, r3, r4, q4 with
      | .loc n, .d (.int k), .loc hm, .d hk, q4 =>
        rename_i a
        cases hk
        simp only [setAt] at q4
        cases e5 : τ4[n]? with
        | none => rw [e5] at q4; exact q4.elim
        | some cl =>
          rw [e5] at q4
          cases cl with
          | lst ds =>
            simp only at q4
            cases e6 : ixN ds.length k with
            | none => rw [e6] at q4; exact q4.elim
            | some j =>
              rw [e6] at q4
              obtain ⟨s5, ws, t5, t6⟩ := c4.at_ n _ _ hm e5
              have rx4 := Rep.mono (f3.trans f4).ss _ _ rx
              refine ⟨_, ws, k, j, rfl, rfl, t5, by rw [← t6.length]; exact e6, ?_⟩
              have ff := fut_set (o' := .lst (ws.set j v)) t5 (List.mem_of_getElem? hm) trivial
              exact q4 _ σ ff (cells_set c4 hm t5 s5 trivial ⟨s5, _, upd_same, t6.set rx4 j⟩) (en4.fut ff)
          | _ => exact q4.elim⟩
end
end VL

/-! The value layer, E: own errors whose __init__ calls super().__init__("..") and sets fields. -/
namespace VX
open PySem PySem.W PySem.Calls PyProof.Rows PySem.HandSPX
/-- self.f = f, field by field -/
inductive FB : List Str → List Stmt → Prop
  | nil : FB [] []
  | cons {f : Str} {fs : List Str} {ss : List Stmt} {q1 q2 q3 q4 : Pos} (h : FB fs ss) : FB (f :: fs) (.Assign [.Attribute (.Name "self" q1) f q2] (.Name f q3) q4 :: ss)
def iA (p0 : Pos) (ps : List (Str × Pos)) : Arguments := { posonlyargs := [], args := { arg := "self", annotation := none, pos := p0 } :: ps.map fun p => { arg := p.1, annotation := none, pos := p.2 }, vararg := none, kwonlyargs := [], kw_defaults := [], kwarg := none, defaults := [] }
def iS (fs : List Str) : Scope := { kind := .function, names := ((PySem.Str.ofString "self", .local) :: fs.map fun f => (f, .local)) ++ [(PySem.Str.ofString "__class__", .free), (PySem.Str.ofString "super", .globalImplicit)], isGenerator := false, isCoroutine := false, more := [] }
def sup (m : Str) (p1 p2 p3 p4 p5 p6 : Pos) : Stmt := .Expr (.Call (.Attribute (.Call (.Name "super" p1) [] [] p2) "__init__" p3) [.Constant (.str m) 0 p4] [] p5) p6
/-- how that call is read -/
def EvS (m : Str) (p1 p2 p3 p4 p5 : Pos) : Prop := ∀ env : Env, ∃ pl : Sem Bool, eval (.Call (.Attribute (.Call (.Name "super" p1) [] [] p2) "__init__" p3) [.Constant (.str m) 0 p4] [] p5) env = (do
  let ov ← attributeBase (.Call (.Name "super" p1) [] [] p2) "__init__" env (eval (.Call (.Name "super" p1) [] [] p2) env)
  standAt p3.atName
  let (f, first) ← holding [ov] (getMethod ov "__init__" pl)
  callWith p5 f first (backTo p5 (starEach [.Constant (.str m) 0 p4] env)) [])
/-- what the written part says of the class and of its __init__ -/
structure Txt (P : Program) (K : Frag) (mg : Str → Option Value) (x : Str) (C : Addr) (fs : List Str) : Prop where
  gC : mg x = some (.ref C)
  kC : keepIn K (.ref C) = true
  cls : ∃ nm q N bs bm sn sub ab col dd k0 k1 k2 k3 k5, K.lookup C = some (excClassObj nm q C N bs bm true sn sub ab col dd k0 k1 k2 k3 k5 "ValueError.__new__") ∧ refsVE bm = true
  sa : findIn K (.ref C) "__setattr__" = some (some (.builtin "object.__setattr__"))
  noF : ∀ f ∈ fs, findIn K (.ref C) f = some none
  exC : subIn K (.ref C) (.type "BaseException") = some true
  subV : subIn K (.ref C) (.type "ValueError") = some true
  mroC : mroIn K C (.ref C) = some true
  tyC : typeIn K (.ref C) = some (.type "type")
  hdC : hasDictIn K C = true
  sup : ks_superIn K C C "__init__" = some (some (.builtin "ValueError.__init__"))
  opq : nsIn K cStatics "thirdparty.any" = some none
  noS : mg "super" = none
  top : (P.main.scope.names.lookup ("super" : Str)).isSome = false
  fld : ∀ f ∈ fs, (iS fs).names.lookup f = some .local ∧ (f == ("__debug__" : Str)) = false ∧ f ≠ "self"
  nd : fs.Nodup
  scS : (iS fs).names.lookup (PySem.Str.ofString "super") = some .globalImplicit
  scC : (iS fs).names.lookup (PySem.Str.ofString "__class__") = some .free
  fn : ∃ (fI cda cc : Addr) (oc : Value) (od : Option Addr) (qual : Str) (doc pm : Value) (an : Option Addr) (ct : Value) (osl : Array (Option Value)) (p0 : Pos) (ps : List (Str × Pos)) (m : Str) (p1 p2 p3 p4 p5 p6 : Pos) (ss : List Stmt) (cl : Value) (cld : Option Addr) (csl : Array (Option Value))
      (ccl : Value) (cdd : Option Addr) (vs : Array Value) (ccs : Array (Option Value)) (file : Str) (tf : Tok),
    (∀ (s : Shared) (us : List Value), us.length = fs.length + 1 → BindsTo s (ksFn "__init__" qual (iA p0 ps) (VX.sup m p1 p2 p3 p4 p5 p6 :: ss) (iS fs) .none .none doc pm an (.ref cda) ct cc) ⟨us, []⟩ ((PySem.Str.ofString "self" :: fs).zip us)) ∧ EvS m p1 p2 p3 p4 p5 ∧ swapsWith (.Call (.Attribute (.Call (.Name "super" p1) [] [] p2) "__init__" p3) [.Constant (.str m) 0 p4] [] p5) none p6.line = (fun _ => pure false) ∧ FB fs ss ∧ findIn K (.ref C) "__init__" = some (some (.ref fI)) ∧ typeIn K (.ref fI) = some (.type "function") ∧
    K.lookup fI = some ⟨oc, od, .func (ksFn "__init__" qual (iA p0 ps) (VX.sup m p1 p2 p3 p4 p5 p6 :: ss) (iS fs) .none .none doc pm an (.ref cda) ct cc), osl⟩ ∧ codeIn K (.ref cda) qual = true ∧
    K.lookup cc = some ⟨cl, cld, .cell (some (.ref C)), csl⟩ ∧ K.lookup cda = some ⟨ccl, cdd, .fields vs, ccs⟩ ∧ vs[2]? = some (.str file tf) ∧ ((P.main.file : Str) == file) = true
/-- a dict's fields, the last one first -/
abbrev mF (l : List (Str × Value)) : Str → Option Value := fun y => l.lookup y
theorem mF_cons (f : Str) (v : Value) (l : List (Str × Value)) : (fun y => if y = f then some v else mF l y) = mF ((f, v) :: l) := by
  funext y
  unfold mF
  rw [List.lookup_cons]
  by_cases h : y = f
  · subst h; simp
  · rw [if_neg h, beq_eq_false_iff_ne.mpr h]
/-- what __init__ leaves of a fresh exception at x -/
structure InitEnd (h h' : Heap) (x C dx t1 : Addr) (l : List (Str × Value)) : Prop where
  keep : ∀ b o, b ≠ x → h.get? b = some o → h'.get? b = some o
  obj : h'.get? x = some { cls := .ref C, dict := some dx, data := .fields #[.ref t1, .none, .none, .none, .bool false, .none] }
  dbig : h.objs.size ≤ dx
  dne : dx ≠ x
  ns : h'.Ns1 dx (mF l)
section
variable {prog : Program} {w : World} {A : Around} {E : Value → Shared → Prop} {R : Result → Shared → Prop} {s : Shared} {K : Frag} {mg : Str → Option Value} {C : Addr}
/-- the wrapper of ValueError.__init__ at u, called -/
theorem call_mw {u x t0 : Addr} {h : Heap} {g : Array GenState} {d : Drawn} {tk : Nat} {os : OsState} {nm q : Str} {N : Addr} {bs bm : List Value} {sn : List Str} {sub : List Value} {ab : Bool} {col : Option Bool} {dd : Option Addr} {k0 k1 k2 k3 k5 : Option Value} {rest : List Value} {Q : Value → Shared → Prop}
    (hu : h.get? u = some (kxs_mw "ValueError.__init__" x)) (hx : h.get? x = some (excO C t0)) (hC : h.get? C = some (excClassObj nm q C N bs bm true sn sub ab col dd k0 k1 k2 k3 k5 "ValueError.__new__")) (hz : rest.length ≤ sizeLine)
    (hq : ∀ h' t1, (∀ b o, b ≠ x → h.get? b = some o → h'.get? b = some o) → h'.get? x = some (excO C t1) → Q .none ⟨h', g, d, tk, os⟩) : wpAny (model prog w) A (call (.ref u) rest) Q E ⟨h, g, d, tk, os⟩ := by
  refine wpAny_call (codeAny_of_tree ?_)
  show wpAny _ A.in1 (callAny (.ref u) ⟨rest, []⟩) _ _ _
  simp only [callAny]
  refine wpAny_bind (wpAny_load hu ?_)
  simp only [kxs_mw]
  refine KFB.if_so (by decide) (wpAny_bind (check_bound_init F.excBase_ValueError.toExcCallFacts hC hx rfl ?_))
  refine wpAny_bind (wpAny_pure (wpAny_pure ⟨plainId_quiet F.excBase_ValueError.init.plain _, codeAny_builtin F.excBase_ValueError.initEntry ?_⟩))
  exact exc_init_tree (cls := .ref C) (t0 := t0) (dv := none) (c2 := .none) (c3 := .none) (b4 := .bool false) hx hz fun h' k e t' => hq h' _ k e
theorem kept_but {h h' : Heap} {x : Addr} (X : K.In h) (hx : K.lookup x = none) (k : ∀ b o, b ≠ x → h.get? b = some o → h'.get? b = some o) : K.In h' := fun a o e =>
  k a o (fun z => by rw [z, hx] at e; cases e) (X a o e)
theorem not_K {h : Heap} {x : Addr} (X : K.In h) (hx : h.objs.size ≤ x) : K.lookup x = none := by
  cases e : K.lookup x with
  | none => rfl
  | some o => exact absurd (Nat.lt_of_lt_of_le (Heap.lt_size (X _ _ e)) hx) (Nat.lt_irrefl _)
theorem mF_within (l : List (Str × Value)) : PySem.Within (mF l) (l.map (·.1)) := by
  intro y hy
  by_cases q : y ∈ l.map (·.1)
  · exact q
  · have : mF l y = none := by
      show List.lookup y l = none
      clear hy
      induction l with
      | nil => rfl
      | cons p l ih =>
        rw [List.map_cons, List.mem_cons, not_or] at q
        rw [List.lookup_cons, beq_eq_false_iff_ne.mpr q.1]
        exact ih q.2
    exact absurd this hy
/-- the fields behind the first -/
theorem fields {env : Env} {x dx L : Addr} {fv : Array Value} {cd : ClassData} {m : Str → Option Value} {B : Around} {E' : Value → Shared → Prop} {g : Array GenState} {d : Drawn} {os : OsState} {Q : Flow → Shared → Prop}
    (hcl : clsIn K C = some cd) (hm : refsVE cd.mro = true) (hd : cd.hasDict = true) (sa : findIn K (.ref C) "__setattr__" = some (some (.builtin "object.__setattr__"))) (hk : env.scope.kind = .function) (hL : env.locals = L) (hs : env.kindOf "self" = some .local) (mx : m "self" = some (.ref x))
    (nLx : L ≠ x) (nLd : L ≠ dx) (nxd : dx ≠ x) (kx : K.lookup x = none) (kd : K.lookup dx = none) :
    ∀ {gs : List Str} {ss : List Stmt}, FB gs ss → ∀ (ws : List Value) (l : List (Str × Value)) (h : Heap) (tk : Nat), gs.length = ws.length → (∀ p ∈ gs.zip ws, m p.1 = some p.2 ∧ env.kindOf p.1 = some .local ∧ (p.1 == ("__debug__" : Str)) = false ∧ findIn K (.ref C) p.1 = some none) → l.length + gs.length ≤ 1000 →
      K.In h → h.Ns L m → h.get? x = some { cls := .ref C, dict := some dx, data := .fields fv } → h.Ns1 dx (mF l) →
      (∀ h' tk', (∀ b o, b ≠ dx → h.get? b = some o → h'.get? b = some o) → h'.Ns1 dx (mF ((gs.zip ws).reverse ++ l)) → Q .next ⟨h', g, d, tk', os⟩) →
      wpAny (model prog w) B (execs ss env) Q E' ⟨h, g, d, tk, os⟩
  | _, _, .nil, ws, l, h, tk, hl, _, _, _, _, _, hn, hq => by
    cases ws with
    | nil => exact wpAny_execs_nil (hq h tk (fun _ _ _ e => e) hn)
    | cons _ _ => cases hl
  | _, _, .cons (f := f) (fs := fs) (ss := ss) (q1 := q1) (q2 := q2) (q3 := q3) (q4 := q4) hF, ws, l, h, tk, hl, hv, hz, X, hns, hx, hn, hq => by
    cases ws with
    | nil => cases hl
    | cons v ws =>
      obtain ⟨v1, v2, v3, v4⟩ := hv (f, v) (by simp)
      refine wpAny_execs_cons (plainObj_wpAny_Assign_Attribute ?_)
      refine wpAny_Name (wpAny_loadName_local (env := env) hk v2 (by rw [hL]; exact hns) v1 ?_) v3
      refine wpAny_Name (wpAny_loadName_local (env := env) hk hs (by rw [hL]; exact hns) mx ?_) (by decide)
      obtain ⟨oD, esD, epD, hoD, hdD, _⟩ := hn.count (mF_within l)
      refine set_plain X (ox := { cls := .ref C, dict := some dx, data := .fields fv }) (od := some oD) ⟨hx, rfl, rfl, hoD⟩ sa ?_
      refine PySem.OEX.osa_old X hx hn (mF_within l) (by rw [List.length_map]; simp at hz; omega) hcl hm hd v4 fun h' tk' k hn' => ?_
      rw [mF_cons] at hn'
      refine fields hcl hm hd sa hk hL hs mx nLx nLd nxd kx kd hF ws ((f, v) :: l) h' tk' (by simpa using hl) (fun p hp => hv p (by rw [List.zip_cons_cons]; exact List.mem_cons_of_mem _ hp)) (by simp at hz ⊢; omega) (kept_but X kd k) (hns.at fun o e => k _ _ nLd e) (k _ _ (Ne.symm nxd) hx) hn' fun h2 tk2 k2 hn2 => ?_
      refine hq h2 tk2 (fun b o hb e => k2 b o hb (k b o hb e)) ?_
      rw [List.zip_cons_cons, List.reverse_cons, List.append_assoc]
      exact hn2
theorem lookup_rev {α : Type} : ∀ (l : List (Str × α)), (l.map (·.1)).Nodup → ∀ p ∈ l, l.reverse.lookup p.1 = some p.2
  | [], _, p, h => by cases h
  | q :: l, nd, p, h => by
    rw [List.map_cons, List.nodup_cons] at nd
    rw [List.reverse_cons, List.lookup_append]
    rcases List.mem_cons.mp h with e | h
    · subst e
      have : l.reverse.lookup p.1 = none := by
        rw [List.lookup_eq_none_iff]
        intro r hr
        rw [List.mem_reverse] at hr
        have ne : p.1 ≠ r.1 := fun e => nd.1 (by rw [e]; exact List.mem_map_of_mem hr)
        exact bne_iff_ne.mpr ne
      rw [this]
      show List.lookup p.1 [(p.1, p.2)] = some p.2
      rw [List.lookup_cons, beq_self_eq_true]
    · rw [lookup_rev l nd.2 p h]
      rfl
/-- a made exception -/
structure Made (h h' : Heap) (e C d : Addr) (l : List (Str × Value)) : Prop where
  keep : ∀ b o, h.get? b = some o → h'.get? b = some o
  new : h.objs.size ≤ e
  obj : ∃ oe vs, h'.get? e = some oe ∧ oe.cls = .ref C ∧ oe.dict = some d ∧ oe.data = .fields vs ∧ vs[1]? = some .none
  dbig : h.objs.size ≤ d
  dne : d ≠ e
  ns : h'.Ns1 d (mF l)
theorem made {x : Str} {f0 : Str} {fr : List Str} (T : Txt prog K mg x C (f0 :: fr)) {us : List Value} (hus : us.length = fr.length + 1) (hfew : fr.length ≤ 100) (X : K.In s.heap) (hlim : s.heap.NoLimit) (hroom : A.depth + 1 < recursionLimit)
    (hg : s.heap.Ns mainGlobals mg) (hb : ∃ mb, s.heap.Ns builtinsNs mb ∧ mb "super" = bootBuiltins "super")
    (hq : ∀ h' tk e d, Made s.heap h' e C d (((f0 :: fr).zip us).reverse) → R (.ok (.ret (.ref e))) { s with heap := h', toks := tk }) : codeAny (model prog w) A (.call (.ref C) ⟨us, []⟩) R s := by
  obtain ⟨nm, q, N, bs, bm, sn, sub, ab, col, dd, k0, k1, k2, k3, k5, hC, hbm⟩ := T.cls
  obtain ⟨fI, cda, cc, oc, od, qual, doc, pm, an, ct, osl, p0, ps, m, p1, p2, p3, p4, p5, p6, ss, cl, cld, csl, ccl, cdd, vs, ccs, file, tf, hbd, hev, hsw, hF, hi, ht, hfn, hcd, hcc, hca, hvs, hfile⟩ := T.fn
  have hcl : clsIn K C = some { name := nm, bases := bs, mro := .ref C :: bm, ns := N, qualname := q, hasDict := true, slotNames := sn, subclasses := sub, abstract := ab, collection := col, hasDel := false } := by unfold clsIn; rw [hC] <;> rfl
  have hmro : refsVE (.ref C :: bm) = true := hbm
  obtain ⟨hp, g, dr, tk, os⟩ := s
  have kp0 : ∀ b o, hp.get? b = some o → ((hp.push (kdv_tup us)).push (excO C hp.objs.size)).get? b = some o := fun b o e => Heap.get?_push_of_some _ (Heap.get?_push_of_some _ e)
  have hx0 : ((hp.push (kdv_tup us)).push (excO C hp.objs.size)).get? (hp.objs.size + 1) = some (excO C hp.objs.size) := by heap_get
  have hsz0 : ((hp.push (kdv_tup us)).push (excO C hp.objs.size)).objs.size = hp.objs.size + 2 := by rw [Heap.size_push, Heap.size_push]
  have kx : K.lookup (hp.objs.size + 1) = none := not_K X (Nat.le_succ _)
  refine call_own F.excBase_ValueError (fun Y => refsVE_contains Y bm hbm) (X _ _ hC) (looks_findIn X hi) (fun self => bind_fn X self ht) (by rw [hus, sizeLine_eq]; omega) ?_
  generalize hh0 : ((hp.push (kdv_tup us)).push (excO C hp.objs.size)) = h0 at kp0 hx0 hsz0 ⊢
  have X0 : K.In h0 := X.keeps kp0
  let fd : FuncData := ksFn "__init__" qual (iA p0 ps) (VX.sup m p1 p2 p3 p4 p5 p6 :: ss) (iS (f0 :: fr)) .none .none doc pm an (.ref cda) ct cc
  have hnd : (((PySem.Str.ofString "self" :: f0 :: fr).zip (.ref (hp.objs.size + 1) :: us)).map (·.1)).Nodup := by
    rw [List.map_fst_zip (by simp [hus])]
    exact List.nodup_cons.mpr ⟨fun z => (T.fld _ z).2.2 rfl, T.nd⟩
  refine ks_codeAny_call_defAt (fd := fd) (body := VX.sup m p1 p2 p3 p4 p5 p6 :: ss) (binds := (PySem.Str.ofString "self" :: f0 :: fr).zip (.ref (hp.objs.size + 1) :: us)) hroom (X0 _ _ hfn) rfl (hlim.keeps kp0) (codeRec_of X0 hcd) rfl (hbd _ _ (by simp [hus]))
    (fun y hy => ?_) (fun y hy => ?_) (fun h₁ hns hk₁ => ?_) rfl rfl rfl
  · have hy : y ∈ (iS (f0 :: fr)).names := hy
    simp only [iS, List.mem_append, List.mem_cons, List.mem_map, List.not_mem_nil, or_false] at hy
    rcases hy with (rfl | ⟨z, _, rfl⟩) | rfl | rfl <;> exact fun e => by cases e
  · rw [List.zip_cons_cons] at hy
    rcases List.mem_cons.mp hy with e | hy
    · rw [e]; rfl
    · exact (T.fld y.1 (List.of_mem_zip hy).1).1
  · have X1 : K.In h₁ := X0.keeps hk₁
    have hL : h0.objs.size < h₁.objs.size := hns.lt
    have hx1 : h₁.get? (hp.objs.size + 1) = some (excO C hp.objs.size) := hk₁ _ _ hx0
    have mx : (fun y => ((PySem.Str.ofString "self" :: f0 :: fr).zip (Value.ref (hp.objs.size + 1) :: us)).reverse.lookup y) "self" = some (.ref (hp.objs.size + 1)) := lookup_rev _ hnd (PySem.Str.ofString "self", _) (by rw [List.zip_cons_cons]; exact List.mem_cons_self)
    have hv : ∀ p ∈ (f0 :: fr).zip us, (fun y => ((PySem.Str.ofString "self" :: f0 :: fr).zip (Value.ref (hp.objs.size + 1) :: us)).reverse.lookup y) p.1 = some p.2 := fun p hpz => lookup_rev _ hnd p (by rw [List.zip_cons_cons]; exact List.mem_cons_of_mem _ hpz)
    generalize hmm : (fun y => ((PySem.Str.ofString "self" :: f0 :: fr).zip (Value.ref (hp.objs.size + 1) :: us)).reverse.lookup y) = mm at hns mx hv
    have hD := X1 _ _ hC
    obtain ⟨pl, hpl⟩ := hev (callEnv fd h0.objs.size fI)
    refine ks_wpAt_execs_cons (ks_wpAt_Expr_any (ks_wpAt_MethodCall (pl := pl) ?_ hpl) rfl (congrFun hsw _))
    refine ks_wpAt_super_base (env := callEnv fd h0.objs.size fI) (f := fI) (cc := cda) (ar := { arg := "self", annotation := none, pos := p0 }) (file := file) (tf := tf) T.scS T.scC (by decide) rfl (X1 _ _ hfn) rfl rfl rfl (X1 _ _ hca) rfl hvs hfile T.top ?_
    obtain ⟨mb, hb1, hb2⟩ := hb
    have up : ∀ b o, hp.get? b = some o → h₁.get? b = some o := fun b o e => hk₁ b o (kp0 b o e)
    refine ks_loadName_global rfl T.scS (loadGlobal_builtin (env := callEnv fd h0.objs.size fI) (hg.keeps up) T.noS (hb1.keeps up) (hb2.trans (show bootBuiltins "super" = some (.type "super") from rfl)) ⟨rfl, ?_⟩)
    refine wpAny_loadName_free (c := cc) rfl T.scC rfl ⟨_, X1 _ _ hcc, rfl⟩ ?_
    refine wpAny_loadName_local rfl rfl hns mx ?_
    refine ks_wpAny_isType_cls hD rfl ⟨rfl, ?_⟩
    have I1 : InstAt h₁ (hp.objs.size + 1) (excO C hp.objs.size) C none := ⟨hx1, rfl, rfl, trivial⟩
    refine ks_wpAny_call_super hD rfl hx1 rfl (fun c e => by cases e) (looks_mroIn X1 T.mroC) fun h₂ e2 k2 => ?_
    have X2 : K.In h₂ := X1.keeps k2
    have I2 : InstAt h₂ (hp.objs.size + 1) (excO C hp.objs.size) C none := ⟨k2 _ _ hx1, rfl, rfl, trivial⟩
    have hsup : alongIn K "__init__" (((Value.ref C :: bm).dropWhile (· != .ref C)).drop 1) = some (some (.builtin "ValueError.__init__")) := by
      have z := T.sup
      unfold ks_superIn at z
      rw [hcl] at z
      exact z
    refine kxs_getMethod kxs_ValueError e2 (looks_opaque X2 T.opq) (l₀ := .ref C :: bm) ((looks_clsIn X2 hcl).andThen .now) rfl X2 hsup (I2.type.andThen (looks_subIn X2 T.subV)) (ks_ne X2 I2 hcl) (by decide) ?_
    have mw0 : (h₂.push (kxs_mw "ValueError.__init__" (hp.objs.size + 1))).get? h₂.objs.size = some (kxs_mw "ValueError.__init__" (hp.objs.size + 1)) := Heap.get?_push_size _ rfl
    refine kxs_callWith (i := "ValueError.__init__") (x := hp.objs.size + 1) rfl (evalArgs_plain (spliced_cons (wpAny_Constant_str (k := 0) (pos := p4) (spliced_nil ⟨mw0, ?_⟩))))
    have k3 : ∀ b o, h₁.get? b = some o → (h₂.push (kxs_mw "ValueError.__init__" (hp.objs.size + 1))).get? b = some o := fun b o e => Heap.get?_push_of_some _ (k2 b o e)
    refine call_mw mw0 (k3 _ _ hx1) (k3 _ _ hD) (by show 1 ≤ sizeLine; rw [sizeLine_eq]; omega) fun h₄ t1 k4 hx4 => ?_
    show PySem.wpAt _ _ _ (execs ss _) _ _ _
    refine wpAt_of_wpAny ?_
    have nLx : h0.objs.size ≠ hp.objs.size + 1 := Nat.ne_of_gt (Heap.lt_size hx0)
    have X4 : K.In h₄ := kept_but (X1.keeps k3) kx k4
    have ns4 : h₄.Ns h0.objs.size mm := hns.at fun o e => k4 _ _ nLx (k3 _ _ e)
    have up4 : ∀ b o, hp.get? b = some o → h₄.get? b = some o := fun b o e => k4 b o (Nat.ne_of_lt (Nat.lt_succ_of_lt (Heap.lt_size e))) (k3 _ _ (up b o e))
    -- the first field
    cases hF with
    | cons hF =>
      cases us with
      | nil => cases hus
      | cons u0 us =>
        rename_i ss' q1 q2 q3 q4
        have f0ok := T.fld f0 List.mem_cons_self
        refine wpAny_execs_cons (plainObj_wpAny_Assign_Attribute ?_)
        refine wpAny_Name (wpAny_loadName_local (env := callEnv fd h0.objs.size fI) rfl f0ok.1 ns4 (hv (f0, u0) (by simp)) ?_) f0ok.2.1
        refine wpAny_Name (wpAny_loadName_local (env := callEnv fd h0.objs.size fI) rfl rfl ns4 mx ?_) (by decide)
        refine set_plain X4 (ox := excO C t1) (od := none) ⟨hx4, rfl, rfl, trivial⟩ T.sa ?_
        refine exc_osa X4 hx4 hcl hmro rfl (T.noF f0 List.mem_cons_self) fun h₅ tk₅ dx k₅ dn dne hx₅ hn₅ => ?_
        have L4 : h0.objs.size < h₄.objs.size := ns4.lt
        have kdx : K.lookup dx = none := not_K X4 dn
        have nLd : h0.objs.size ≠ dx := Nat.ne_of_lt (Nat.lt_of_lt_of_le L4 dn)
        rw [show (fun y => if y = f0 then some u0 else none) = mF [(f0, u0)] from mF_cons f0 u0 []] at hn₅
        refine fields hcl hmro rfl T.sa rfl rfl rfl mx nLx nLd dne kx kdx hF us [(f0, u0)] h₅ _ (by simpa using hus.symm) (fun p hpz => ?_) (by simp; omega) (kept_but X4 kx k₅) (ns4.at fun o e => k₅ _ _ nLx e) hx₅ hn₅ fun h₆ tk₆ k₆ hn₆ => ?_
        · have hm := (List.of_mem_zip hpz).1
          exact ⟨hv p (by rw [List.zip_cons_cons]; exact List.mem_cons_of_mem _ hpz), (T.fld _ (List.mem_cons_of_mem _ hm)).1, (T.fld _ (List.mem_cons_of_mem _ hm)).2.1, T.noF _ (List.mem_cons_of_mem _ hm)⟩
        · have dbig : hp.objs.size ≤ dx := Nat.le_trans (Nat.le_trans (by rw [hsz0]; exact Nat.le_add_right _ _) (Nat.le_of_lt L4)) dn
          refine ⟨rfl, hq h₆ tk₆ (hp.objs.size + 1) dx ⟨fun b o e => k₆ b o (Nat.ne_of_lt (Nat.lt_of_lt_of_le (Heap.lt_size e) dbig)) (k₅ b o (Nat.ne_of_lt (Nat.lt_succ_of_lt (Heap.lt_size e))) (up4 b o e)), Nat.le_succ _, ⟨_, _, k₆ _ _ (Ne.symm dne) hx₅, rfl, rfl, rfl, rfl⟩, dbig, dne, ?_⟩⟩
          rw [List.zip_cons_cons, List.reverse_cons]
          exact hn₆
end
end VX

/-! The value layer, F: raise, try .. except X as e: return (e.f, e.g). -/
namespace VL
open PySem PySem.Spec PyProof.Rows L2 LamX
section
variable {G : Gd} {S : Hp}
theorem RepF.length : ∀ {fs : List (T × D)} {vs : List (Str × V)}, RepF G S fs vs → fs.length = vs.length
  | [], _, h => by cases h; rfl
  | (k, d) :: fs, _, h => by
    cases h with
    | cons _ t => simp [RepF.length t]
theorem RepF.append : ∀ {fs gs : List (T × D)} {vs ws : List (Str × V)}, RepF G S fs vs → RepF G S gs ws → RepF G S (fs ++ gs) (vs ++ ws)
  | [], _, _, _, h, k => by cases h; exact k
  | _ :: fs, _, _, _, h, k => by
    cases h with
    | cons a t => exact .cons a (RepF.append t k)
theorem RepF.reverse : ∀ {fs : List (T × D)} {vs : List (Str × V)}, RepF G S fs vs → RepF G S fs.reverse vs.reverse
  | [], _, h => by cases h; exact .nil
  | _ :: fs, _, h => by
    cases h with
    | cons a t =>
      rw [List.reverse_cons, List.reverse_cons]
      exact (RepF.reverse t).append (.cons a .nil)
theorem RepF.zip : ∀ {ns : List T} {ds : List D} {vs : List V}, Reps G S ds vs → RepF G S (ns.zip ds) ((ns.map T.s).zip vs)
  | [], _, _, h => .nil
  | n :: ns, [], _, h => by cases h; exact .nil
  | n :: ns, d :: ds, _, h => by
    cases h with
    | cons a t => exact .cons a (RepF.zip t)
theorem RepF.look {f : T} {d : D} : ∀ {fs : List (T × D)} {vs : List (Str × V)}, RepF G S fs vs → fs.lookup f = some d → ∃ v, vs.lookup f.s = some v ∧ Rep G S d v
  | [], _, h, e => by cases e
  | (k, x) :: fs, _, h, e => by
    cases h with
    | cons a t =>
      rw [List.lookup_cons] at e
      rw [List.lookup_cons]
      by_cases q : f = k
      · subst q
        rw [beq_self_eq_true] at e
        rw [beq_self_eq_true]
        cases e
        exact ⟨_, rfl, a⟩
      · rw [beq_eq_false_iff_ne.mpr q] at e
        rw [beq_eq_false_iff_ne.mpr fun z => q (T.inj z)]
        exact RepF.look t e
theorem relO_zip : ∀ {ns : List Str} {vs : List V} {us : List Value} (l : List (Str × V)) (l' : List (Str × Value)), (∀ f, RelO (l.lookup f) (l'.lookup f)) → Vals vs us → ∀ f, RelO (((ns.zip vs).reverse ++ l).lookup f) (((ns.zip us).reverse ++ l').lookup f)
  | [], _, _, l, l', h, _, f => h f
  | n :: ns, _, _, l, l', h, .nil, f => h f
  | n :: ns, _, _, l, l', h, .cons (a := v) (b := u) r t, f => by
    rw [List.zip_cons_cons, List.zip_cons_cons, List.reverse_cons, List.reverse_cons, List.append_assoc, List.append_assoc]
    refine relO_zip ([(n, v)] ++ l) ([(n, u)] ++ l') (fun g => ?_) t f
    show RelO (List.lookup g ((n, v) :: l)) (List.lookup g ((n, u) :: l'))
    rw [List.lookup_cons, List.lookup_cons]
    by_cases q : g = n
    · subst q
      rw [beq_self_eq_true]
      exact r
    · rw [beq_eq_false_iff_ne.mpr q]
      exact h g
end
/-- an error is made -/
def tMkErr (C : Addr) (ns : List Str) (ta : TA) : L2.St → Hp → XK → Prop := fun σ H Q => ta σ H fun vs H1 => vs.length = ns.length ∧ ∀ d, H1 d = none → Q (.ref C) (some d) (upd H1 d (.xd ((ns.zip vs).reverse)))
section
variable {X : Cx} {C : Addr}
theorem pmk_err {x : Str} {n0 : Str} {nr : List Str} {e : Expr} {es : List Expr} {ta : TA} {p pos : Pos} {k : Nat} (TX : VX.Txt X.prog X.K X.mg x C (n0 :: nr)) (hfew : nr.length ≤ 100) (hr : Room k X.A) (hk1 : 1 ≤ k) (ha : PA X (e :: es) ta) (hg : Gl X x) (hdb : (x == ("__debug__" : Str)) = false := by decide)
    (he : starEach (e :: es) X.env = (false, eval e X.env) :: starEach es X.env := by rfl) (hpl : (backTo pos (starEach es X.env)).any (·.1) = false := by rfl) :
    PMk X (.Call (.Name x p) (e :: es) [] pos) (tMkErr C (n0 :: nr) ta) := by
  intro pins s σ H Q I h
  refine wpAny_Call_Name_kw (ld_glob I hg TX.gC ?_ hdb)
  refine PySem.W.callWith_K (h₀ := X.base) I.ok.mod.kin TX.kC (thn (ha.run pos pins s σ H _ I h) fun us s1 hh => ?_) he hpl
  obtain ⟨vs, H1, I1, r1, hl, q1⟩ := hh
  refine ⟨I1.kIn, ?_⟩
  have hlim := I1.nolimit
  have gb := I1.bk
  have hgl : s1.heap.Ns mainGlobals X.mg := I1.mod.glob.keeps gb
  have hbl : ∃ mb, s1.heap.Ns builtinsNs mb ∧ mb "super" = bootBuiltins "super" := by
    obtain ⟨mb, h1, h2⟩ := I1.mod.blt
    exact ⟨mb, h1.keeps gb, h2 _ (by decide)⟩
  obtain ⟨hp, g, dr, tk, os⟩ := s1
  refine wpAny_call (VX.made (us := us) TX (by rw [← r1.length, hl]; rfl) hfew I1.kIn hlim (by have := hr.dp; omega) hgl hbl fun h' tk' a d M => ?_)
  show MkP X pins σ Q (.ref a) ⟨h', g, dr, tk', os⟩
  obtain ⟨oe, fv, m1, m2, m3, m4, m5⟩ := M.obj
  obtain ⟨B, b1, b2⟩ := restrict h' fun b => decide (b ≠ a)
  have bk : ∀ b, b ≠ a → B.get? b = h'.get? b := fun b hb => b1 b (decide_eq_true hb)
  have ba : B.get? a = none := b2 a (by simp)
  have old : ∀ b o, hp.get? b = some o → B.get? b = some o := fun b o q => (bk b (Nat.ne_of_lt (Nat.lt_of_lt_of_le (Heap.lt_size q) M.new))).trans (M.keep b o q)
  have rel : ∀ f, RelO ((((n0 :: nr).zip vs).reverse).lookup f) ((((n0 :: nr).zip us).reverse).lookup f) := fun f => by
    have := relO_zip (ns := n0 :: nr) [] [] (fun _ => trivial) r1 f
    rwa [List.append_nil, List.append_nil] at this
  have ob : ObjOk X.prog X.w (upd H1 d (.xd (((n0 :: nr).zip vs).reverse))) B d (.xd (((n0 :: nr).zip vs).reverse)) := ⟨_, M.ns.at fun o q => (bk d M.dne).trans q, rel⟩
  have J : Inv X pins σ (upd H1 d (.xd (((n0 :: nr).zip vs).reverse))) ⟨B, g, dr, tk', os⟩ := I1.laid (t' := tk') old M.dbig ob
  refine ⟨a, oe, fv, ⟨B, g, dr, tk', os⟩, _, .ref C, some d, rfl, J, fun b o q => ?_, ba, m1, ⟨m2, m3⟩, m4, m5, ?_, rfl, I1.bare, raises_own TX.exC TX.tyC, q1 d (I1.hok.fresh M.dbig)⟩
  · have hb : b ≠ a := fun z => by
      have q' : B.get? b = some o := q
      rw [z, ba] at q'
      cases q'
    exact (bk b hb).symm.trans q
  · rw [upd_ne (Ne.symm M.dne)]
    exact I1.hok.fresh M.new
end
/-- raise X(..): the fields by their names -/
def gRaise (c : Nat) (ns : List T) (fs : EL) : GS := fun ρ τ => liftE (fs ρ τ) ρ fun us τ1 => match frzs τ1 us with
  | some (ds, τ2) => if ds.length = ns.length then .exc c ((ns.zip ds).reverse) ρ τ2 else .bad
  | none => .bad
theorem s_raise {X : Cx} {G : Gd} {W : WX} {x : Str} {c : Nat} {n0 : T} {nr : List T} {e : Expr} {es : List Expr} {fs : EL} {p pos pos2 : Pos} {k : Nat} (hc : X.calm = true) (tk : Takes X W) (TX : VX.Txt X.prog X.K X.mg x (G.ca c) (n0.s :: nr.map T.s)) (hfew : nr.length ≤ 100) (hr : Room k X.A) (hk1 : 1 ≤ k)
    (ha : PA X (e :: es) (VA G W fs)) (hg : Gl X x) (hdb : (x == ("__debug__" : Str)) = false := by decide)
    (he : starEach (e :: es) X.env = (false, eval e X.env) :: starEach es X.env := by rfl) (hpl : (backTo pos (starEach es X.env)).any (·.1) = false := by rfl) :
    PS X (.Raise (some (.Call (.Name x p) (e :: es) [] pos)) none pos2) (VS G W (gRaise c (n0 :: nr) fs)) :=
  ps_weak (ps_raise hc tk (pmk_err TX (by rw [List.length_map]; exact hfew) hr hk1 ha hg hdb he hpl)) fun D σ H ⟨z, ρ, τ, hz, c, en, q⟩ => ⟨z, ρ, τ, hz, c, en, (RunS.lift (rep := RepUs G) en q).imp fun vs H1 ⟨z1, us, τ1, e1, f1, c1, r1, q1⟩ => by
    subst e1
    cases e2 : frzs τ1 us with
    | none => rw [e2] at q1; exact q1.elim
    | some pr =>
      obtain ⟨ds, τ2⟩ := pr
      rw [e2] at q1
      simp only at q1
      obtain ⟨z2, h2, f2, c2, rs, m2⟩ := frzs_ok c1 r1 e2
      by_cases hl : ds.length = (n0 :: nr).length
      · rw [if_pos hl] at q1
        refine ⟨by rw [← rs.length, hl]; simp, fun d hd => ?_⟩
        rw [← h2] at hd ⊢
        have ff : Fut z2 ⟨upd z2.S d (.xd (((n0.s :: nr.map T.s).zip vs).reverse)), upd z2.H d (.xd (((n0.s :: nr.map T.s).zip vs).reverse)), z2.ms⟩ := fut_sh (c2.none_ hd) hd
        exact q1 _ d _ σ (f2.trans ff) (cells_sh c2 hd) (en.fut ((f1.trans f2).trans ff)) upd_same (RepF.reverse (RepF.zip (ns := n0 :: nr) (Reps.mono ff.ss _ _ rs)))
      · rw [if_neg hl] at q1; exact q1.elim⟩
/-- try: body / except X as n: return (n.f, n.g) -/
def gTry2 (c i : Nat) (f1 f2 : T) (g : GS) : GS := fun ρ τ => match g ρ τ with
  | .exc c' fs ρ1 τ1 => match fs.lookup f1, fs.lookup f2 with
    | some d1, some d2 => if c' = c ∧ i < ρ1.length then .rt (.d (.tup [d1, d2])) τ1 else .bad
    | _, _ => .bad
  | r => r
theorem s_try2 {X : Cx} {G : Gd} {W : WX} {x n : Str} {c i : Nat} {f1 f2 : T} {a1 a2 : Str} {g : GS} {body : List Stmt} {np pos pos' pr pt q1 q2 q3 q4 : Pos} {k : Nat} (e1 : a1 = f1.s) (e2 : a2 = f2.s) (hs : X.stack = X.env :: X.outer) (hf : X.env.frame = some X.env.locals) (hN : X.N.Nodup) (hi : X.N[i]? = some n) (hln : X.env.kindOf n = some .local)
    (hv : Vis X.env.scope n) (hc : Names X x (.ref (G.ca c))) (tk : Takes X W) (te : PySem.W.exmOne X.K (.ref (G.ca c)) (.ref (G.ca c)) = some true) (xf : XfC X.K (G.ca c)) (hn1 : PySem.W.findIn X.K (.ref (G.ca c)) a1 = some none) (hn2 : PySem.W.findIn X.K (.ref (G.ca c)) a2 = some none)
    (hb : ∀ (W : WX) (pn : List (Addr × Obj)) (xe : Value → Shared → Prop), Takes (X.tr pn xe) W → PassesOwn (model X.prog X.w) X.A X.env xe → PSs (X.tr pn xe) body (VS G W g))
    (hdb : (n == ("__debug__" : Str)) = false := by decide) (hcd : (n == ("__classdict__" : Str)) = false := by decide)
    (hb1 : attributeBase (.Name n q1) a1 X.env (eval (.Name n q1) X.env) = eval (.Name n q1) X.env := by rfl) (hb2 : attributeBase (.Name n q3) a2 X.env (eval (.Name n q3) X.env) = eval (.Name n q3) X.env := by rfl)
    (hs1 : starEach [.Attribute (.Name n q1) a1 q2, .Attribute (.Name n q3) a2 q4] X.env = (false, eval (.Attribute (.Name n q1) a1 q2) X.env) :: starEach [.Attribute (.Name n q3) a2 q4] X.env := by rfl) (hs2 : starEach [.Attribute (.Name n q3) a2 q4] X.env = (false, eval (.Attribute (.Name n q3) a2 q4) X.env) :: starEach [] X.env := by rfl) :
    PS X (.Try body [.ExceptHandler (some (.Name x np)) (some n) [.Return (some (.Tuple [.Attribute (.Name n q1) a1 q2, .Attribute (.Name n q3) a2 q4] k pt)) pr] pos'] [] [] pos) (VS G W (gTry2 c i f1 f2 g)) := by
  refine ps_weak (ps_try_as (tb := fun W' => VS G W' g) (ts := fun a cls d => tRet (tTup (tCons (tXf a cls d (G.ca c) a1 (tVar i)) (tCons (tXf a cls d (G.ca c) a2 (tVar i)) tNil)))) (Wout := W) hs hf hN hi hln hc tk hb fun a oe cls d pn hz hd => ?_) ?_
  · have pv : ∀ q, PE (X.suite a ((a, oe) :: pn)) (.Name n q) (tVar i) := fun q => pe_var (X := X.suite a ((a, oe) :: pn)) hi hv hdb hcd
    exact pss_one (ps_ret (pe_tup (pa_cons (pe_xf xf hn1 hz hd (pv _) hb1) (pa_cons (pe_xf xf hn2 hz hd (pv _) hb2) pa_nil hs2) hs1)))
  · intro D σ H ⟨z, ρ, τ, hz, cc, en, q⟩
    refine ⟨z, ρ, τ, hz, cc, en, ?_⟩
    unfold gTry2 at q
    cases e : g ρ τ with
    | nx ρ' τ' => rw [e] at q; exact q
    | rt u τ' => rw [e] at q; exact q
    | bk ρ' τ' => rw [e] at q; exact q
    | ct ρ' τ' => rw [e] at q; exact q
    | bad => rw [e] at q; exact q
    | exc c' fs ρ1 τ1 =>
      rw [e] at q
      simp only at q
      cases l1 : fs.lookup f1 with
      | none => rw [l1] at q; exact q.elim
      | some d1 =>
        cases l2 : fs.lookup f2 with
        | none => rw [l1, l2] at q; exact q.elim
        | some d2 =>
          rw [l1, l2] at q
          simp only at q
          by_cases h : c' = c ∧ i < ρ1.length
          · rw [if_pos h] at q
            obtain ⟨rfl, hl⟩ := h
            intro z' dd vs σ' ff c' en' s' r'
            refine ⟨true, te, fun _ a ha => ?_, fun z => Bool.noConfusion z⟩
            have hx : z'.H dd = some (.xd vs) := c'.sub _ _ s'
            obtain ⟨v1, m1, r1⟩ := r'.look l1
            obtain ⟨v2, m2, r2⟩ := r'.look l2
            have hsl : (σ'.set i (some (.ref a)))[i]? = some (some (.ref a)) := List.getElem?_set_self (by rw [en'.len]; exact hl)
            rw [← e1] at m1
            rw [← e2] at m2
            refine ⟨_, hsl, rfl, rfl, dd, vs, v1, rfl, hx, m1, _, hsl, rfl, rfl, dd, vs, v2, rfl, hx, m2, ?_⟩
            refine ⟨by show 2 ≤ sizeLine; decide, fun p hp => ?_⟩
            have := alloc_tup (Q := D.rt) (W := fun _ _ _ => False) c' hp (.cons r1 (.cons r2 .nil)) ?_
            · exact this
            · exact fun z2 b f2 c2 rb => q z2 b (ff.trans f2) c2 rb
          · rw [if_neg h] at q; exact q.elim
end VL

/-! The value layer, G: told(lambda: e), told a def that calls it once within a try. -/
namespace VL
open PySem PySem.Spec PyProof.Rows L2 LamX
section
variable {X : Cx} {pins : List (Addr × Obj)} {σ : L2.St} {H : Hp} {s : Shared}
/-- a(), a a lambda of X's, called in the def that got it; nothing is being shown -/
theorem lam_act {M : List Str} {qg : Str} {sg : Scope} {g f c' : Addr} {cdg pm ctv : Value} {params : Arguments} {body : Expr} {scope : Scope} {k i : Nat} {a : Str} {pn : List (Addr × Obj)} {xe : Value → Shared → Prop} {W : WX} {tb : XK → TE} {p1 p2 : Pos} {Eg : XK} {CXg : CXT}
    (I : Inv X pins σ H s) (L : LamS X.env.scope scope) (hf : s.heap.get? f = some (PySem.W.kla_obj "<lambda>" (X.env.qual ++ "<lambda>") params body scope (cloFrom X.env.cells scope.names []) pm c' ctv)) (nf : H f = none) (ff : f ∉ frs X.stack)
    (hbd : bindArgs (PySem.W.kla_fn "<lambda>" (X.env.qual ++ "<lambda>") params body scope (cloFrom X.env.cells scope.names []) pm (.ref c') ctv) ⟨[], []⟩ = pure [])
    (tk : Takes ((cxOf CXg X.prog X.w X.K X.mg X.base M qg sg g cdg X.A X.stack s H Eg).tr pn xe) W) (room : Room (k + 1) (X.A.deeper (envOfC qg sg s.heap.objs.size g cdg))) (gd : X.A.guards = some [])
    (hb : ∀ (B : Around) (out : List PySem.Env) (s : Shared) (H : Hp) (E : XK), Room k (B.deeper (lamEnv X scope s.heap.objs.size f c')) → B.guards = some [] → PE (lamCx X B out s H E scope f c') body (tb E))
    (hM : M[i]? = some a) (hv : Vis sg a) (hd : (a == ("__debug__" : Str)) = false) (hcd : (a == ("__classdict__" : Str)) = false) :
    PE ((cxOf CXg X.prog X.w X.K X.mg X.base M qg sg g cdg X.A X.stack s H Eg).tr pn xe) (.Call (.Name a p1) [] [] p2)
      (fun σZ HZ Q => ∃ E : XK, (∀ cls d H', E cls d H' → W cls d σZ H') ∧ σZ[i]? = some (some (.ref f)) ∧ HZ c' = some (CodeO c' (X.env.qual ++ "<lambda>")) ∧ tb E σ HZ Q) := by
  constructor
  intro pinsZ sZ σZ HZ Q IZ ⟨E, hW, w1, w2, w3⟩
  refine wpAny_Call_Name_kw (thn ((pe_var (pos := p1) (i := i) hM hv hd hcd).run pinsZ sZ σZ HZ (fun v H1 => v = .ref f ∧ H1 = HZ) IZ ⟨.ref f, w1, rfl, rfl⟩) ?_)
  rintro u s1 ⟨v, H1, I1, r1, rfl, rfl⟩
  obtain rfl : u = Value.ref f := r1
  have there := I1.base.keep f _ hf nf ff (fun z => nomatch (show f ∈ ([] : List Addr) from z))
  have un : Un (frs X.stack) [] H H1 s.heap s1.heap := I1.base
  obtain ⟨⟨oc, vs, t, o1, o2, o3⟩, _, _⟩ := I1.hok c' _ w2
  have rc : codeAny (model X.prog X.w) (X.A.deeper (envOfC qg sg s.heap.objs.size g cdg)) (.call (.ref f) ⟨[], []⟩) (CR (L2.CX X.prog X.w) (envOfC qg sg s.heap.objs.size g cdg :: X.stack) X.prog X.w H1 s1 Q E) s1 := by
    refine PySem.W.kla_callFunE room.depth there rfl L.co L.gen rfl ⟨c', oc, vs, t, rfl, o1, o2, o3⟩ ?_
    rw [hbd]
    refine wpAny_pure (wpAny_newFunctionEnv (fun y hy => (L.own y hy).2) (fun y hy => absurd hy (by simp)) (fun h₁ n1 n2 => ⟨I1.nolimit.fresh _ n2, ?_⟩) L.kind)
    show codeAny _ _ (.expr body (lamEnv X scope s1.heap.objs.size f c')) _ _
    have J : Inv (lamCx X (X.A.deeper (envOfC qg sg s.heap.objs.size g cdg)) (envOfC qg sg s.heap.objs.size g cdg :: X.stack) s1 H1 E scope f c') [] σ H1 { s1 with heap := h₁, toks := s1.toks + ([] : List (Str × Value)).length } :=
      lam_start2 I L I1.env0 room.hd un n1 fun b o e => n2.extBut b o (Nat.ne_of_lt (Heap.lt_size e)) (Heap.get?_push_of_some _ e)
    refine PySem.W.kla_codeExpr (wpAny_mono ((hb _ _ s1 H1 E (room.deeper _) gd).run [] _ _ H1 Q J w3) ?_ fun e s' hq => hq)
    rintro v s' ⟨w', H', J', rv, q⟩
    exact ⟨w', H', J'.os, J'.bare, J'.base, J'.hok, rv, q⟩
  refine PySem.W.callWith_F0 ⟨_, _, _, _, there⟩ (wpAny_call (codeAny_mono rc fun r s' hq => ?_))
  match r, hq with
  | .error e, hq => exact tk e s' (XE.of_call I1 hW hq)
  | .ok (.ret u), hq => exact I1.after hq
/-- the def that got the lambda: try: return [a()] / except E as n: return (n.f, n.g) -/
def told (a : Str) (x n a1 a2 : Str) (p1 p2 pl p3 np q1 q2 q3 q4 pt pr pos' p0 : Pos) (kt : Nat) : List Stmt :=
  [.Try [.Return (some (.List [.Call (.Name a p1) [] [] p2] pl)) p3] [.ExceptHandler (some (.Name x np)) (some n) [.Return (some (.Tuple [.Attribute (.Name n q1) a1 q2, .Attribute (.Name n q3) a2 q4] kt pt)) pr] pos'] [] [] p0]
/-- what an error does to its caller there -/
def ToldE (K : PySem.W.Frag) (C : Addr) (a1 a2 : Str) (Q : VK) : XK := fun cls d H' => PySem.W.exmOne K cls (.ref C) = some true ∧ cls = .ref C ∧ ∃ (dd : Addr) (fs : List (Str × V)) (v1 v2 : V), d = some dd ∧ H' dd = some (.xd fs) ∧ fs.lookup a1 = some v1 ∧ fs.lookup a2 = some v2 ∧ ∀ p, H' p = none → Q (.ref p) (upd H' p (.tup [v1, v2]))
end
/-- told(lambda: e) by data -/
def eTold (c : Nat) (f1 f2 : T) (f : EV) : EV := fun ρ τ => match f ρ τ with
  | .ok u τ1 => match frz τ1 u with
    | some (x, τ2) => .ok (.d (.lst [x])) τ2
    | none => .bad
  | .exc c' fs τ1 => match fs.lookup f1, fs.lookup f2 with
    | some d1, some d2 => if c' = c then .ok (.d (.tup [d1, d2])) τ1 else .bad
    | _, _ => .bad
  | .bad => .bad
theorem v_told {X : Cx} {G : Gd} {W : WX} {x a n y : Str} {c i : Nat} {f1 f2 : T} {a1 a2 : Str} {g cO P : Addr} {k : Nat} {pg : Arguments} {sg : Scope} {dV kV doc pm cdv ct oc : Value} {an od : Option Addr} {osl : Array (Option Value)} {M : List Str}
    {p1 p2 pl p3 np q1 q2 q3 q4 pt pr pos' p0 : Pos} {kt : Nat} {params : Arguments} {body : Expr} {scope : Scope} {f : EV} {p lpos pos : Pos} (e1 : a1 = f1.s) (e2 : a2 = f2.s) (hg : Gl X x) (hm : X.mg x = some (.ref g)) (hk : PySem.W.keepIn X.K (.ref g) = true)
    (lk : X.K.lookup g = some ⟨oc, od, .func (PySem.W.fnOf x x pg (told a y n a1 a2 p1 p2 pl p3 np q1 q2 q3 q4 pt pr pos' p0 kt) sg dV kV doc pm an cdv ct), osl⟩) (hcg : PySem.W.codeIn X.K cdv x = true)
    (hb0 : L2.Binds X.K (PySem.W.fnOf x x pg (told a y n a1 a2 p1 p2 pl p3 np q1 q2 q3 q4 pt pr pos' p0 kt) sg dV kV doc pm an cdv ct) [a] []) (Sg : FnScope M [a] sg) (hMa : M[0]? = some a) (hMn : M[i]? = some n) (hi0 : 0 < i) (hva : Vis sg a) (hvn : Vis sg n) (hln : sg.names.lookup n = some .local)
    (hgy : sg.names.lookup y = some .globalImplicit) (hmy : X.mg y = some (.ref (G.ca c))) (hdy : (y == ("__debug__" : Str)) = false) (te : PySem.W.exmOne X.K (.ref (G.ca c)) (.ref (G.ca c)) = some true) (xf : XfC X.K (G.ca c))
    (hn1 : PySem.W.findIn X.K (.ref (G.ca c)) a1 = some none) (hn2 : PySem.W.findIn X.K (.ref (G.ca c)) a2 = some none)
    (TB : TabB X.base X.mg cO P) (hcode : X.env.code = .ref cO) (hmT : (P, X.env.qual ++ "<lambda>") ∈ G.T) (hu : ∀ p ∈ G.T, p.1 = P → p.2 = X.env.qual ++ "<lambda>") (hr : Room (k + 2) X.A) (hgd : X.A.guards = some []) (L : LamS X.env.scope scope) (hdef : defaultsOf params X.env = ([], []))
    (hbind : ∀ (q : Str) (cl : List (Str × Addr)) (pm cv ctv : Value), bindArgs (PySem.W.kla_fn "<lambda>" q params body scope cl pm cv ctv) ⟨[], []⟩ = pure [])
    (hbody : ∀ (B : Around) (out : List PySem.Env) (s : Shared) (H : Hp) (E : XK) (f0 c' : Addr), Room k (B.deeper (lamEnv X scope s.heap.objs.size f0 c')) → B.guards = some [] → PE (lamCx X B out s H E scope f0 c') body (VE G (fun c d _ H' => E c d H') f))
    (hdb : (x == ("__debug__" : Str)) = false := by decide) (hd : (a == ("__debug__" : Str)) = false := by decide) (hcd : (a == ("__classdict__" : Str)) = false := by decide) (hdn : (n == ("__debug__" : Str)) = false := by decide) (hcn : (n == ("__classdict__" : Str)) = false := by decide) :
    PE X (.Call (.Name x p) [.Lambda params body scope lpos] [] pos) (VE G W (eTold c f1 f2 f)) := by
  refine ⟨fun pins s σ H Q I ⟨z, ρ, τ, hz, cz, en, q⟩ => ?_⟩
  subst hz
  refine wpAny_Call_Name_kw (ld_glob I hg hm ?_ hdb)
  refine PySem.W.callWith_K (h₀ := X.base) I.ok.mod.kin hk ?_ (by rfl) (by rfl)
  show wpAny _ _ (spliced ((false, eval (.Lambda params body scope lpos) X.env) :: backTo pos (starEach [] X.env))) _ _ s
  refine Calls.spliced_cons (lam_make2 I TB hcode hmT hu cz.tab hdef (L.has I.ok) fun f0 c' pm' ctv H1 s' I1 eN T1 hf hfn hfr hco => Calls.spliced_nil ⟨I1.kIn, ?_⟩)
  -- where one stands behind the lambda
  have fu : Fut z ⟨z.S, H1, z.ms⟩ := ⟨Same.refl _, List.prefix_refl _, fun b o e _ t => eN b o e t, fun b o e t => ⟨o, eN b o e t, t⟩, fun _ _ _ _ _ => rfl, fun _ m => .inl m⟩
  have cz1 : Cells G ⟨z.S, H1, z.ms⟩ τ := ⟨fun b o e => eN b o (cz.sub b o e) (cz.nt b o e), cz.len, cz.nd, fun b m => by
    obtain ⟨o, e, q⟩ := cz.al b m
    exact ⟨o, eN b o e q.nt, q⟩, fun j b cl m1 m2 => by
    have w := cz.at_ j b cl m1 m2
    cases cl with
    | dead => exact trivial
    | lst ds => obtain ⟨n, vs, h1, h2⟩ := w; exact ⟨n, vs, eN b _ h1 (by intro _ e; cases e), h2⟩
    | dct ds => obtain ⟨n, vs, h1, h2⟩ := w; exact ⟨n, vs, eN b _ h1 (by intro _ e; cases e), h2⟩
    | ins cc ds => obtain ⟨n, dx, vs, h1, h2⟩ := w; exact ⟨n, dx, vs, eN b _ h1 (by intro _ e; cases e), h2⟩, T1, cz.nt⟩
  have rd : VE G (fun c' d _ H' => ToldE X.K (G.ca c) a1 a2 Q c' d H') f σ H1 (fun v H2 => [v].length ≤ sizeLine ∧ ∀ p, H2 p = none → Q (.ref p) (upd H2 p (.lst [v]))) := by
    refine ⟨⟨z.S, H1, z.ms⟩, ρ, τ, rfl, cz1, en.fut fu, ?_⟩
    unfold eTold at q
    cases e : f ρ τ with
    | bad => rw [e] at q; exact q
    | ok u τ1 =>
      rw [e] at q
      intro z' v f' c'' r'
      refine ⟨by show 1 ≤ sizeLine; decide, fun p hp => ?_⟩
      cases e3 : frz τ1 u with
      | none => simp only [e3] at q; exact q.elim
      | some pr =>
        obtain ⟨x', τ2⟩ := pr
        simp only [e3] at q
        obtain ⟨z2, h2, f2, c2, rx, m2⟩ := frz_ok c'' r' e3
        rw [← h2] at hp ⊢
        exact alloc_lst (own := false) c2 hp (.cons rx .nil) (q.pre ((fu.trans f').trans f2))
    | exc c1 fs τ1 =>
      rw [e] at q
      intro z' dd vs f' c'' s'' r'
      cases l1 : fs.lookup f1 with
      | none => simp only [l1] at q; exact q.elim
      | some d1 =>
        cases l2 : fs.lookup f2 with
        | none => simp only [l1, l2] at q; exact q.elim
        | some d2 =>
          simp only [l1, l2] at q
          by_cases h : c1 = c
          · rw [if_pos h] at q
            subst h
            obtain ⟨v1, m1, r1⟩ := r'.look l1
            obtain ⟨v2, m2, r2⟩ := r'.look l2
            refine ⟨te, rfl, dd, vs, v1, v2, rfl, c''.sub _ _ s'', by rw [e1]; exact m1, by rw [e2]; exact m2, fun p hp => ?_⟩
            exact alloc_tup c'' hp (.cons r1 (.cons r2 .nil)) (q.pre (fu.trans f'))
          · rw [if_neg h] at q; exact q.elim
  have rc : codeAny (model X.prog X.w) X.A (.call (.ref g) ⟨[.ref f0], []⟩) (CR C8.CX0 X.stack X.prog X.w H1 s' Q C8.E0) s' := by
    refine run_ofS (N := M) (ps := [a]) (us := [.ref f0]) (vs := [.ref f0]) lk hcg Sg hr I1.env0 (hb0 s' [.ref f0] I1.kIn rfl) (.cons rfl .nil) rfl fun hr' => ?_
    have act : ∀ (W' : WX) (pn : List (Addr × Obj)) (xe : Value → Shared → Prop) (p1 p2 : Pos), Takes ((cxOf C8.CX0 X.prog X.w X.K X.mg X.base M x sg g cdv X.A X.stack s' H1 C8.E0).tr pn xe) W' →
        PE ((cxOf C8.CX0 X.prog X.w X.K X.mg X.base M x sg g cdv X.A X.stack s' H1 C8.E0).tr pn xe) (.Call (.Name a p1) [] [] p2)
          (fun σZ HZ Q => ∃ E : XK, (∀ cls d H', E cls d H' → W' cls d σZ H') ∧ σZ[0]? = some (some (.ref f0)) ∧ HZ c' = some (CodeO c' (X.env.qual ++ "<lambda>")) ∧ VE G (fun c d _ H' => E c d H') f σ HZ Q) :=
      fun W' pn xe p1 p2 tk => lam_act (tb := fun E => VE G (fun c d _ H' => E c d H') f) I1 L hf hfn hfr (hbind _ _ _ _ _) tk hr' hgd (fun B out s H E h1 h2 => hbody B out s H E f0 c' h1 h2) hMa hva hd hcd
    have hgl : Gl (cxOf C8.CX0 X.prog X.w X.K X.mg X.base M x sg g cdv X.A X.stack s' H1 C8.E0).nox y := hgy
    have tr := ps_try_as (X := (cxOf C8.CX0 X.prog X.w X.K X.mg X.base M x sg g cdv X.A X.stack s' H1 C8.E0).nox) (x := y) (n := n) (c := .ref (G.ca c)) (i := i) (np := np) (pos := p0) (pos' := pos')
      (tb := fun W' D σ' H' => ∃ E : XK, (∀ cls d H'', E cls d H'' → W' cls d σ' H'') ∧ σ'[0]? = some (some (.ref f0)) ∧ H' c' = some (CodeO c' (X.env.qual ++ "<lambda>")) ∧ VE G (fun c d _ H'' => E c d H'') f σ H' (fun v H2 => [v].length ≤ sizeLine ∧ ∀ p, H2 p = none → D.rt (.ref p) (upd H2 p (.lst [v]))))
      (ts := fun a0 cls d => tRet (tTup (tCons (tXf a0 cls d (G.ca c) a1 (tVar i)) (tCons (tXf a0 cls d (G.ca c) a2 (tVar i)) tNil)))) (Wout := fun _ _ _ _ => False)
      rfl rfl Sg.nd hMn hln ⟨hgl, hdy, .inl hmy⟩ LamX.takes0 (fun W' pn xe tk _ => (⟨fun pins' s2 σ2 H2 D I2 ⟨E, h1, h2, h3, h4⟩ => (pss_one (ps_ret (pos := p3) (pe_lst (pos := pl) (pa_cons (act W' pn xe p1 p2 tk) pa_nil)))).run pins' s2 σ2 H2 D I2 ⟨E, h1, h2, h3, h4⟩⟩ : PSs _ [.Return (some (.List [.Call (.Name a p1) [] [] p2] pl)) p3] _))
      (fun a0 oe cls d pn hz hd' => by
        have pv : ∀ q, PE ((cxOf C8.CX0 X.prog X.w X.K X.mg X.base M x sg g cdv X.A X.stack s' H1 C8.E0).nox.suite a0 ((a0, oe) :: pn)) (.Name n q) (tVar i) := fun q => pe_var (X := (cxOf C8.CX0 X.prog X.w X.K X.mg X.base M x sg g cdv X.A X.stack s' H1 C8.E0).nox.suite a0 ((a0, oe) :: pn)) hMn hvn hdn hcn
        exact pss_one (ps_ret (pos := pr) (pe_tup (x1 := kt) (pos := pt) (pa_cons (pe_xf (pos := q2) xf hn1 hz hd' (pv q1)) (pa_cons (pe_xf (pos := q4) xf hn2 hz hd' (pv q3)) pa_nil)))))
    refine ⟨_, (pss_one tr).nox, ToldE X.K (G.ca c) a1 a2 Q, fun cls d H'' hE => ?_, rfl, hco, rd⟩
    obtain ⟨m1, rfl, dd, fs, v1, v2, rfl, m2, m3, m4, m5⟩ := hE
    refine ⟨true, m1, fun _ a0 ha => ?_, fun z => Bool.noConfusion z⟩
    have hil : i < (L2.start M [V.ref f0]).length := by
      have := (List.getElem?_eq_some_iff.mp hMn).1
      simp [L2.start]
      omega
    have hsl : ((L2.start M [V.ref f0]).set i (some (.ref a0)))[i]? = some (some (.ref a0)) := List.getElem?_set_self hil
    exact ⟨_, hsl, rfl, rfl, dd, fs, v1, rfl, m2, m3, _, hsl, rfl, rfl, dd, fs, v2, rfl, m2, m4, by show 2 ≤ sizeLine; decide, m5⟩
  refine wpAny_call (codeAny_mono rc fun r s2 hq => ?_)
  match r, hq with
  | .error e, hq => exact (show False from hq).elim
  | .ok (.ret u), hq => exact I1.after hq
end VL

/-! The value layer, H: the end of a law's row. -/
namespace VL
open PySem PySem.Spec PyProof.Rows L2 LamX
/-- the tables alone -/
def tabH (l : List Addr) : Hp := fun b => if b ∈ l then some (.tbl #[]) else none
/-- and the script -/
def scrH (l : List Addr) (a : Addr) (u : HO) : Hp := fun b => if b = a then some u else tabH l b
/-- what may be shared at the beginning: all but the tables -/
def shared0 (H : Hp) : Hp := fun b => match H b with
  | some (.tbl _) => none
  | o => o
theorem shared0_some {H : Hp} {b : Addr} {o : HO} (e : shared0 H b = some o) : H b = some o ∧ notTbl o := by
  unfold shared0 at e
  cases q : H b with
  | none => rw [q] at e; cases e
  | some u =>
    rw [q] at e
    cases u <;> first
      | (cases e; done)
      | (cases e; exact ⟨rfl, fun _ z => by cases z⟩)
theorem shared0_of {H : Hp} {b : Addr} {o : HO} (e : H b = some o) (n : notTbl o) : shared0 H b = some o := by
  unfold shared0
  rw [e]
  cases o <;> first
    | rfl
    | exact absurd rfl (n _)
theorem start_cells {G : Gd} {H : Hp} (hT : ∀ p ∈ G.T, H p.1 = some (.tbl #[])) : Cells G ⟨shared0 H, H, []⟩ [] :=
  ⟨fun b o e => (shared0_some e).1, rfl, List.nodup_nil, fun b m => (by cases m), fun i b cl e => (by simp at e), fun p hp => TabS.nil (hT p hp), fun b o e => (shared0_some e).2⟩
/-- the law's def, asked by the judge -/
theorem law_asked {P : Program} {w : World} {G : Gd} {mg mb : Str → Option Value} {k : Nat} {fa a : Addr} {cs : List (Addr × Addr)} {fd : FuncData} {x : Str} {Fn : List U → Store → R U} {s : Shared} {vs : List Value} {ns : List Int}
    (KX : G.K.In s.heap) (hgl : s.heap.Ns mainGlobals mg) (hbl : s.heap.Ns builtinsNs mb) (hbb : ∀ x : Str, x ≠ "__name__" → mb x = bootBuiltins x) (hlim : s.heap.NoLimit) (hge : s.gens = #[])
    (hT : ∀ p ∈ cs, s.heap.get? p.2 = some { cls := .none, data := .fields #[] }) (nT : ∀ p ∈ cs, G.K.lookup p.2 = none) (C : ∀ p ∈ cs, PySem.W.CodeHd s.heap p.1 p.2) (hG : ∀ q ∈ G.T, q.1 ∈ cs.map (·.2))
    (hbm : ∃ (bm : Addr) (ob : Obj), mg "__builtins__" = some (.ref bm) ∧ bm ≠ builtinsNs ∧ s.heap.get? bm = some ob ∧ ob.cls = .type "module" ∧ ob.dict = some builtinsNs ∧ ob.data = .plain)
    (ha : s.heap.get? a = some { cls := .type "list", data := .seq vs.toArray }) (hi : IntsAre vs ns) (hz : ns.length ≤ sizeLine) (room : Room k callerA)
    (F : ∀ base : Heap, G.K.In base → base.Ns mainGlobals mg → (∀ p ∈ cs, TabB base mg p.1 p.2) → FnV P w G.K mg base k fa fd [x] (spV G 1 Fn)) (hbd : ∀ (s : Shared) (u : Value), BindsTo s fd ⟨[u], []⟩ [(x, u)])
    (hFn : ∃ τ, Fn [.d (.fl (ns.map .int))] [] = .ok (.d (.bl true)) τ) :
    codeAny (model P w) callerA (.call (.ref fa) ⟨[.ref a], []⟩) (fun r s' => r = .ok (.ret (.bool true)) ∧ OldK s.heap s'.heap ∧ s'.os = s.os ∧ AllBare s'.gens) s := by
  have rel := vals_ints hi
  have len := hi.length
  have tb : ∀ b ∈ cs.map (·.2), s.heap.get? b = some { cls := .none, data := .fields #[] } ∧ G.K.lookup b = none ∧ ∃ c, PySem.W.CodeHd s.heap c b := by
    intro b m
    obtain ⟨p, m1, rfl⟩ := List.mem_map.mp m
    exact ⟨hT p m1, nT p m1, p.1, C p m1⟩
  have na : a ∉ cs.map (·.2) := fun m => by
    have q := (tb a m).1
    rw [ha] at q
    have := congrArg Obj.data (Option.some.inj q)
    cases this
  -- what is tracked: the tables, and the script or not
  have go : ∀ H : Hp, (∀ b, H b = tabH (cs.map (·.2)) b ∨ (b = a ∧ G.K.lookup a = none ∧ H b = some (.frz { cls := .type "list", data := .seq vs.toArray } (.lst (ns.map V.int))))) → SqL G.K H a (ns.map V.int) →
      codeAny (model P w) callerA (.call (.ref fa) ⟨[.ref a], []⟩) (fun r s' => r = .ok (.ret (.bool true)) ∧ OldK s.heap s'.heap ∧ s'.os = s.os ∧ AllBare s'.gens) s := by
    intro H hH hS
    have on : ∀ b ∈ cs.map (·.2), H b = some (.tbl #[]) := fun b m => by
      rcases hH b with e | ⟨e, _⟩
      · rw [e]; exact if_pos m
      · exact absurd (e ▸ m) na
    have kinds : ∀ b u, H b = some u → (b ∈ cs.map (·.2) ∧ u = .tbl #[]) ∨ (b = a ∧ G.K.lookup a = none ∧ u = .frz { cls := .type "list", data := .seq vs.toArray } (.lst (ns.map V.int))) := fun b u e => by
      rcases hH b with q | ⟨q1, q2, q3⟩
      · rw [q] at e
        unfold tabH at e
        split at e
        · rename_i m
          cases e
          exact .inl ⟨m, rfl⟩
        · cases e
      · rw [q3] at e
        cases e
        exact .inr ⟨q1, q2, rfl⟩
    have hok : HOk P w H s.heap := fun b u e => by
      rcases kinds b u e with ⟨m, rfl⟩ | ⟨rfl, _, rfl⟩
      · exact (tb b m).1
      · exact ⟨ha, by rw [List.length_map]; exact hz, vs, _, rel, ha⟩
    -- an object that is neither a sequence nor an empty table is not tracked
    have clear : ∀ {b : Addr} {o : Obj}, s.heap.get? b = some o → (∀ us n, o.data ≠ .seq us n) → o.data ≠ .fields #[] → H b = none := by
      intro b o e n1 n2
      cases q : H b with
      | none => rfl
      | some u =>
        rcases kinds b u q with ⟨m, _⟩ | ⟨rfl, _, _⟩
        · have := (tb b m).1
          rw [e] at this
          cases this
          exact absurd rfl n2
        · rw [ha] at e
          cases e
          exact absurd rfl (n1 _ _)
    have keep : ∀ {b : Addr} {o : Obj}, s.heap.get? b = some o → H b = none → (hidT s.heap H).get? b = some o := fun e n => hidT_get e n
    have ns_ : ∀ {b : Addr} {m : Str → Option Value}, s.heap.Ns b m → (hidT s.heap H).Ns b m := by
      rintro b m ⟨o, es, ep, e, d, r⟩
      exact ⟨o, es, ep, keep e (clear e (fun us n z => by rw [d] at z; cases z) fun z => by rw [d] at z; cases z), d, r⟩
    have kin : G.K.In (hidT s.heap H) := fun b o e => keep (KX b o e) (by
      cases q : H b with
      | none => rfl
      | some u =>
        rcases kinds b u q with ⟨m, _⟩ | ⟨rfl, n, _⟩
        · rw [(tb b m).2.1] at e; cases e
        · rw [n] at e; cases e)
    have md : L2.Mod G.K mg (hidT s.heap H) := by
      refine ⟨kin, ns_ hgl, ⟨mb, ns_ hbl, hbb⟩, ?_⟩
      obtain ⟨mc, q1, q2⟩ := hlim
      exact ⟨mc, ns_ q1, q2⟩
    have TB : ∀ p ∈ cs, TabB (hidT s.heap H) mg p.1 p.2 := by
      intro p m
      have hp := hT p m
      refine ⟨?_, ?_, fun z => ?_⟩
      · obtain ⟨o, us, file, tf, flags, tg, inF, text, tt, q1, q2, q3, q4, qs⟩ := C p m
        refine ⟨o, us, file, tf, flags, tg, inF, text, tt, keep q1 (clear q1 (fun us' n z => by rw [q3] at z; cases z) fun z => ?_), q2, q3, q4, qs⟩
        rw [q3] at z
        cases z
        simp at q4
      · obtain ⟨bm, ob, b1, b2, b3, b4, b5, b6⟩ := hbm
        refine ⟨bm, ob, b1, b2, fun q => ?_, fun q => ?_, keep b3 (clear b3 (fun us n z => by rw [b6] at z; cases z) fun z => by rw [b6] at z; cases z), b4, b5, b6⟩
        · obtain ⟨o, es, ep, e, hd, _⟩ := hgl
          rw [q, e] at b3
          cases b3
          rw [hd] at b6
          cases b6
        · rw [q, hp] at b3
          cases b3
          cases b6
      · obtain ⟨o, es, ep, e, hd, _⟩ := hgl
        rw [z, hp] at e
        cases e
        cases hd
    have e0 : Env0 P w G.K mg (hidT s.heap H) callerA [] s H := ⟨rfl, md, fun b o e => of_hidT e, Nat.le_of_eq (hidT_size _ _), trivial, fun b m => absurd (show b ∈ ([] : List Addr) from m) (by simp), hok, .of_eq hge⟩
    obtain ⟨τ, hτ⟩ := hFn
    have sp : spV G 1 Fn [.ref a] H (fun v _ => v = .bl true) fun _ _ _ => False := by
      refine ⟨⟨shared0 H, H, []⟩, [.d (.fl (ns.map .int))], [], rfl, start_cells fun q m => on _ (hG q m), .cons (.d (.fl ?_ (reps_ints ns))) .nil, rfl, ?_⟩
      · rcases hS with (h | ⟨o, h⟩) | h
        · exact .inl (.inl (shared0_of h fun _ z => by cases z))
        · exact .inl (.inr ⟨o, shared0_of h fun _ z => by cases z⟩)
        · exact .inr h
      · rw [hτ]
        intro z' b f c r
        cases r with
        | d r => cases r; rfl
    refine codeAny_mono ((F _ kin (ns_ hgl) TB).run callerA [] s H ⟨[.ref a], []⟩ [.ref a] [.ref a] _ _ room rfl e0 (hbd s (.ref a)) (.cons rfl .nil) sp) fun r s' h => ?_
    match r, h with
    | .error e, h =>
      obtain ⟨_, _, _, _, _, _, _, _, _, _, _, _, _, _, _, _, z⟩ := h
    | .ok (.ret u), h =>
      obtain ⟨v, H', os, bare, un, hok', r', rfl⟩ := h
      obtain rfl : u = Value.bool true := r'
      have still : ∀ b o, b ∉ cs.map (·.2) → s.heap.get? b = some o → s'.heap.get? b = some o := by
        intro b o nb e
        cases q : H b with
        | none => exact un.keep b o e q (by intro z; exact absurd (show b ∈ ([] : List Addr) from z) (by simp)) (by simp)
        | some u =>
          rcases kinds b u q with ⟨m, _⟩ | ⟨_, _, rfl⟩
          · exact absurd m nb
          · have e2 := (hok' b _ (un.frzs b _ _ q)).1
            rw [(hok b _ q).1] at e
            cases e
            exact e2
      have grew : ∀ b ∈ cs.map (·.2), ∃ more : Array Value, s'.heap.get? b = some { cls := .none, data := .fields more } := fun b m => by
        obtain ⟨more, z⟩ := un.tbls b #[] (on b m)
        exact ⟨_, hok' b _ z⟩
      refine ⟨rfl, ⟨fun b o e => ?_, fun b o e => ?_⟩, os, bare⟩
      · by_cases m : b ∈ cs.map (·.2)
        · obtain ⟨more, hm⟩ := grew b m
          obtain ⟨t1, _, c, t2⟩ := tb b m
          rw [t1] at e
          cases e
          exact .inr (.inl ⟨(t2.tab t1).isCodeTable, rfl, #[], more, rfl, by rw [Array.empty_append]; exact hm⟩)
        · exact .inl (still b o m e)
      · by_cases m : b ∈ cs.map (·.2)
        · obtain ⟨more, hm⟩ := grew b m
          exact ⟨_, hm⟩
        · exact ⟨o, still b o m e⟩
  cases hk : G.K.lookup a with
  | none => exact go (scrH (cs.map (·.2)) a (.frz { cls := .type "list", data := .seq vs.toArray } (.lst (ns.map V.int)))) (fun b => by
      by_cases q : b = a
      · exact .inr ⟨q, hk, if_pos q⟩
      · exact .inl (if_neg q)) (.inl (.inr ⟨_, if_pos rfl⟩))
  | some o =>
    have e := KX a o hk
    rw [ha] at e
    cases e
    exact go (tabH (cs.map (·.2))) (fun b => .inl rfl) (.inr ⟨_, vs.toArray, _, hk, rfl, rfl, rfl, by rw [List.size_toArray, len]; exact hz, by simpa using rel⟩)
/-- what is known at the head's heap -/
def AskV (l : PySem.W.OpenLaw) (w : World) (K : PySem.W.Frag) (k n : Nat) (x : Str) (mg : Str → Option Value) (fa : Addr) (h : Heap) : Prop :=
  ∃ (fd : FuncData) (cs : List (Addr × Addr)) (G : Gd) (Fn : List U → Store → R U), G.K = K ∧ (∀ p ∈ cs, h.get? p.2 = some { cls := .none, data := .fields #[] }) ∧ (∀ p ∈ cs, K.lookup p.2 = none) ∧ (∀ p ∈ cs, PySem.W.CodeHd h p.1 p.2) ∧ (∀ q ∈ G.T, q.1 ∈ cs.map (·.2)) ∧
    (∀ (s : Shared) (u : Value), BindsTo s fd ⟨[u], []⟩ [(x, u)]) ∧ (∀ ns : List Int, ns.length ≤ n → (∀ z ∈ ns, Builtin.Int.intBits z ≤ 1048576) → ∃ τ, Fn [.d (.fl (ns.map .int))] [] = .ok (.d (.bl true)) τ) ∧
    ∀ base : Heap, K.In base → base.Ns mainGlobals mg → (∀ p ∈ cs, TabB base mg p.1 p.2) → FnV l.prog w K mg base k fa fd [x] (spV G 1 Fn)
theorem walk_of_ask {l : PySem.W.OpenLaw} {n k : Nat} {q : Program} {loose : List Str} {XP : (Str → Option Value) → Heap → Prop} {YP : World → Heap → Prop} {d : DefRec} {K : Params → PySem.W.Frag} {x : Str}
    (hn : l.most = some n) (hn2 : n ≤ sizeLine) (hdf : d.params.defaults = []) (room : Room k callerA) (hY : ∀ (w : World) (h : Heap), YP w h → (K w.params).In h)
    (F : ∀ (w : World) (mg : Str → Option Value) (fa : Addr) (h : Heap), YP w h → (K w.params).In h → h.Ns mainGlobals mg → mg d.name = some (.ref fa) → AskV l w (K w.params) k n x mg fa h) :
    PySem.W.WalkO q loose XP YP l.row.toRowW d [] (fun f vs => PySem.call f vs) := by
  refine Att.attach_callB hn hdf fun w s₀ s₁ mg mb fa o pm cd doc a vs ns G Y ho hd hcd hmg hobj hints hlen hbits hg => ?_
  have KX := hY w _ Y
  obtain ⟨fd, cs, Gd, Fn, hK, a1, a2, a3, a4, a5, a6, a7⟩ := F w mg fa _ Y KX G.T.g hmg
  rw [← hK] at KX a2 a7
  exact law_asked KX G.T.g G.T.b G.T.builtins G.T.nolimit hg a1 a2 a3 a4 G.T.bmain hobj hints (Nat.le_trans hlen hn2) room a7 a5 (a6 ns hlen hbits)
end VL

/-! The value layer, I: defs by name, several targets, what a def hands out to be changed. -/
namespace VL
open PySem PySem.Spec PyProof.Rows L2 LamX

/-! ### what is handed out to be changed -/
/-- the caller's cells and one behind them -/
def retO (n0 : Nat) (u : U) (τ : Store) : R U := match u with
  | .loc m => if m < n0 then .bad else match τ[m]? with
    | some (.lst ds) => .ok (.loc n0) (τ.take n0 ++ [.lst ds])
    | _ => .bad
  | _ => .bad
def outO (n0 : Nat) : RS → R U
  | .rt u τ => retO n0 u τ
  | .exc c fs _ τ => .exc c fs (τ.take n0)
  | _ => .bad
def callO (n : Nat) (g : GS) (us : List U) (τ : Store) : R U := outO τ.length (g (us.map some ++ List.replicate (n - us.length) none) τ)
section
variable {G : Gd} {z z' : Z} {τ : Store}
theorem retO_ok {τ' : Store} {u : U} {v : V} {E : XK} {Q : VK} (c : Cells G z τ) (f : Fut z z') (c' : Cells G z' τ') (r : RepU G z' u v) (q : Run G (RepU G) (retO τ.length u τ') E z Q) : Q v z'.H := by
  cases r with
  | d h => exact q.elim
  | @loc m a h =>
    unfold retO at q
    simp only at q
    by_cases hm : m < τ.length
    · rw [if_pos hm] at q; exact q.elim
    · rw [if_neg hm] at q
      have e0 : z'.ms.take τ.length = z.ms := by rw [← c.len]; exact take_pre f.pre
      have out : a ∉ z.ms := fun mem => by
        obtain ⟨j, hj⟩ := List.getElem?_of_mem mem
        have hl := (List.getElem?_eq_some_iff.mp hj).1
        rw [c.len] at hl
        have e := nd_ix c'.nd h (pre_get f.pre hj)
        omega
      have hne : ∀ o, z.H a = some o → ¬ notTbl o := (f.new a (List.mem_of_getElem? h)).elim (fun mem => absurd mem out) id
      cases e : τ'[m]? with
      | none => rw [e] at q; exact q.elim
      | some cl =>
        have w := c'.at_ m a cl h e
        rw [e] at q
        cases cl with
        | lst ds =>
          obtain ⟨hs, vs, h1, h2⟩ := w
          have q : Run G (RepU G) (.ok (.loc τ.length) (τ'.take τ.length ++ [.lst ds])) E z Q := q
          refine q ⟨z'.S, z'.H, z.ms ++ [a]⟩ (.ref a) ⟨f.ss, List.prefix_append _ _, f.frame, f.dom, f.claim, fun b mb => ?_⟩ ?_ (.loc ?_)
          · rcases List.mem_append.mp mb with mb | mb
            · exact .inl mb
            · rw [List.mem_singleton.mp mb]; exact .inr hne
          · have cb := cells_back c' τ.length
            have len2 : z.ms.length = (τ'.take τ.length).length := by rw [← e0]; exact cb.len
            refine ⟨c'.sub, by simp only [List.length_append, List.length_singleton, len2], ?_, fun b mb => ?_, fun i b cl' g1 g2 => ?_, c'.tab, c'.nt⟩
            · refine List.nodup_append.mpr ⟨c.nd, by simp, fun x hx y hy => ?_⟩
              rw [List.mem_singleton.mp hy]
              exact fun z1 => out (z1 ▸ hx)
            · rcases List.mem_append.mp mb with mb | mb
              · exact c'.al b (by rw [← e0] at mb; exact List.mem_of_mem_take mb)
              · rw [List.mem_singleton.mp mb]; exact ⟨_, h1, trivial⟩
            · by_cases hi : i < z.ms.length
              · have g1 : (z.ms ++ [a])[i]? = some b := g1
                rw [List.getElem?_append_left hi] at g1
                rw [List.getElem?_append_left (by rw [← len2]; exact hi)] at g2
                refine cb.at_ i b cl' ?_ g2
                show (z'.ms.take τ.length)[i]? = some b
                rw [e0]; exact g1
              · have g1 : (z.ms ++ [a])[i]? = some b := g1
                have hl := (List.getElem?_eq_some_iff.mp g1).1
                have hi2 : i = z.ms.length := by rw [List.length_append, List.length_singleton] at hl; omega
                subst hi2
                rw [List.getElem?_append_right (Nat.le_refl _)] at g1
                rw [len2, List.getElem?_append_right (Nat.le_refl _)] at g2
                simp only [Nat.sub_self, List.getElem?_cons_zero, Option.some.injEq] at g1 g2
                subst g1 g2
                exact ⟨hs, vs, h1, h2⟩
          · show (z.ms ++ [a])[τ.length]? = some a
            rw [← c.len, List.getElem?_append_right (Nat.le_refl _)]
            simp
        | _ => exact q.elim
/-- a def that hands out a list to be changed -/
theorem fn_bodyO {P : Program} {w : World} {K : PySem.W.Frag} {mg : Str → Option Value} {base : Heap} {x qual : Str} {st : Stmt} {f : Addr} {fd : FuncData} {N ps : List Str} {k n : Nat} {g : GS} (F : Fun K x qual st f fd) (S : FnScope N ps (defScope st)) (hn : ps.length = n)
    (hbody : ∀ (cdv : Value) (A : Around) (outer : List PySem.Env) (s : Shared) (H : Hp) (E : XK), Room k (A.deeper (envOfC qual (defScope st) s.heap.objs.size f cdv)) → A.guards = some [] →
      PSs (cxOf (L2.CX P w) P w K mg base N qual (defScope st) f cdv A outer s H E) (defBody st) (VS G (fun c d _ H => E c d H) g)) : FnV P w K mg base (k + 1) f fd ps (spV G n (callO N.length g)) := by
  refine fnv_mk F S (spV_len hn) fun cdv A outer s H vs Q E hr hg hsp => ⟨_, hbody cdv A outer s H E hr hg, ?_⟩
  obtain ⟨z, us, τ, hz, c, r, hl, q⟩ := hsp
  subst hz
  refine ⟨z, us.map some ++ List.replicate (N.length - us.length) none, τ, rfl, c, env_start r, ?_⟩
  unfold callO at q
  cases e : g (us.map some ++ List.replicate (N.length - us.length) none) τ with
  | rt u τ' =>
    rw [e] at q
    exact fun z' v f' c' r' => retO_ok c f' c' r' q
  | exc cc fs ρ τ' =>
    rw [e] at q
    exact fun z' dd vs σ' f' c' en' s' r' => q (z'.back τ.length) dd vs (fut_back c f') (cells_back c' _) s' r'
  | nx ρ τ' => rw [e] at q; exact q.elim
  | bk ρ τ' => rw [e] at q; exact q.elim
  | ct ρ τ' => rw [e] at q; exact q.elim
  | bad => rw [e] at q; exact q.elim
end

/-! ### a def by its name -/
structure DefE (P : Program) (w : World) (mg : Str → Option Value) (base : Heap) (G : Gd) (x : Str) (k n : Nat) (ps : List Str) (F : List U → Store → R U) : Prop where
  ex : ∃ f fd, mg x = some (.ref f) ∧ PySem.W.keepIn G.K (.ref f) = true ∧ FnV P w G.K mg base k f fd ps (spV G n F) ∧ Bnd0 fd ps n ∧ (n = 1 → Bnd G.K fd ps 0 ps [] [0])
section
variable {P : Program} {w : World} {mg : Str → Option Value} {base : Heap} {G : Gd}
theorem bnd0_of {x qual : Str} {st : Stmt} {f : Addr} {fd : FuncData} {ps : List Str} {n : Nat} (F : Fun G.K x qual st f fd) (h : ∀ (kV doc pm : Value) (an : Option Addr) (cdv ct : Value) (us : List Value), us.length = n → bindArgs (PySem.W.fnOf x qual (defArgs st) (defBody st) (defScope st) .none kV doc pm an cdv ct) ⟨us, []⟩ = pure (ps.zip us)) : Bnd0 fd ps n := by
  obtain ⟨oc, od, kV, doc, pm, an, cdv, ct, osl, rfl, lk, hcd⟩ := F.ex
  exact ⟨fun s us hl => BindsTo.of_eq (h kV doc pm an cdv ct us hl)⟩
theorem bnd1_of {x qual : Str} {st : Stmt} {f : Addr} {fd : FuncData} {p : Str} (F : Fun G.K x qual st f fd) (h : ∀ (kV doc pm : Value) (an : Option Addr) (cdv ct u : Value), bindArgs (PySem.W.fnOf x qual (defArgs st) (defBody st) (defScope st) .none kV doc pm an cdv ct) ⟨[], [(p, u)]⟩ = pure [(p, u)]) : Bnd G.K fd [p] 0 [p] [] [0] := by
  obtain ⟨oc, od, kV, doc, pm, an, cdv, ct, osl, rfl, lk, hcd⟩ := F.ex
  refine ⟨fun s us ws _ h1 h2 => ?_⟩
  match us, ws, h1, h2 with
  | [], [u], _, _ => exact BindsTo.of_eq (h kV doc pm an cdv ct u)
end
section
variable {X : Cx} {G : Gd} {W : WX} {k j n : Nat} {ps : List Str} {F : List U → Store → R U} {x : Str} {p pos : Pos} {e : Expr} {es : List Expr} {fs : EL}
theorem v_callE (V : DefE X.prog X.w X.mg X.base G x k n ps F) (hK : X.K = G.K) (hr : Room j X.A) (hj : k ≤ j) (hgd : X.A.guards = some []) (tk : Takes X W) (ha : PA X (e :: es) (VA G W fs)) (hg : Gl X x)
    (hdb : (x == ("__debug__" : Str)) = false := by decide) (he : starEach (e :: es) X.env = (false, eval e X.env) :: starEach es X.env := by rfl) (hpl : (backTo pos (starEach es X.env)).any (·.1) = false := by rfl) :
    PE X (.Call (.Name x p) (e :: es) [] pos) (VE G W (eCall n F fs)) := by
  obtain ⟨f, fd, h1, h2, h3, h4, _⟩ := V.ex
  rw [← hK] at h2 h3
  exact v_call h3 (hr.mono hj) hgd tk h1 h2 h4 ha hg hdb he hpl
/-- f(p=e) -/
theorem v_callKE {q : Str} {kpos : Pos} {f0 : EV} (V : DefE X.prog X.w X.mg X.base G x k 1 [q] F) (hK : X.K = G.K) (hr : Room j X.A) (hj : k ≤ j) (hgd : X.A.guards = some []) (tk : Takes X W) (ha : PE X e (VE G W f0)) (hg : Gl X x)
    (hall : (backToKw pos (keywordEach [⟨some q, e, kpos⟩] X.env)).all (·.1.isSome) = true := by rfl) (hks : (backToKw pos (keywordEach [⟨some q, e, kpos⟩] X.env)).filterMap (·.1) = [q] := by rfl)
    (hdb : (x == ("__debug__" : Str)) = false := by decide) (hpl : ((backTo pos (starEach [] X.env)).any (·.1) || (backToKw pos (keywordEach [⟨some q, e, kpos⟩] X.env)).any (·.1.isNone)) = false := by rfl) :
    PE X (.Call (.Name x p) [] [⟨some q, e, kpos⟩] pos) (VE G W (eCallK 0 1 [0] [] F elNil (elCons f0 elNil))) := by
  obtain ⟨f, fd, h1, h2, h3, _, h5⟩ := V.ex
  have h5 := h5 rfl
  rw [← hK] at h2 h3 h5
  refine v_callK0 (n := 1) (vds := []) h3 (hr.mono hj) hgd tk h1 h2 h5 .nil (fun _ => .nil) rfl rfl (fun l hl => ?_) (vp_cons ha vp_nil) hg hall hks hdb hpl
  match l, hl with
  | [u], _ => rfl
theorem v_globE {d : D} {v : V} (h : ∃ u, X.mg x = some u ∧ RelV v u) (hg : Gl X x) (r : ∀ S, Rep G S d v) (hd : (x == ("__debug__" : Str)) = false := by decide) : PE X (.Name x pos) (VE G W (eC d)) := by
  obtain ⟨u, h1, h2⟩ := h
  exact v_glob hg h1 h2 r hd
end

/-! ### several targets -/
def setN : List Nat → List U → Env → Option Env
  | [], [], ρ => some ρ
  | i :: is, u :: us, ρ => setN is us (ρ.set i (some u))
  | _, _, _ => none
/-- a, b, c = e, f, g: each name its own -/
def gParN (is : List Nat) (fs : EL) : GS := fun ρ τ => liftE (fs ρ τ) ρ fun us τ1 => match setN is us ρ with
  | some ρ' => .nx ρ' τ1
  | none => .bad
def gConsN : List Nat → TGs
  | [] => L2.gNil
  | i :: is => gCons (gName i) (gConsN is)
theorem setN_ok {G : Gd} {z : Z} : ∀ {is : List Nat} {us : List U} {vs : List V} {ρ ρ' : Env} {σ : L2.St} {Q : L2.St → Hp → Prop}, RepUs G z us vs → EnvR G z ρ σ → setN is us ρ = some ρ' → (∀ σ', EnvR G z ρ' σ' → Q σ' z.H) → gConsN is vs σ z.H Q ∧ vs.length = is.length
  | [], _, _, _, _, _, _, .nil, en, e, k => by cases e; exact ⟨⟨rfl, k _ en⟩, rfl⟩
  | [], _, _, _, _, _, _, .cons _ _, en, e, k => by cases e
  | i :: is, _, _, _, _, _, _, .nil, en, e, k => by cases e
  | i :: is, _, _, _, _, _, _, .cons r t, en, e, k => by
    obtain ⟨h1, h2⟩ := setN_ok (is := is) t (en.set (i := i) r) e k
    exact ⟨⟨_, _, rfl, h1⟩, by simp [h2]⟩
theorem s_parN {X : Cx} {G : Gd} {W : WX} {is : List Nat} {ts es : List Expr} {fs : EL} {kt k2 : Nat} {pt pt2 pos : Pos} (hc : X.calm = true) (ha : PA X es (VA G W fs)) (ht : PGs X ts (gConsN is))
    (hn : (assignEach ts X.env).length = is.length := by rfl) (hst : (assignEach ts X.env).findIdx? (·.1) = none := by rfl) (hs : swapsWithSole [.Tuple ts kt pt] (.Tuple es k2 pt2) pos.line X.env = pure false := by rfl) (hw : swappedStores [.Tuple ts kt pt] (.Tuple es k2 pt2) X.env = pure none := by rfl)
    (h1 : (assignEach [.Tuple ts kt pt] X.env).map (·.2) = [assign (.Tuple ts kt pt) X.env] := by rfl) (hz : is.length ≤ 1000 := by decide) :
    PS X (.Assign [.Tuple ts kt pt] (.Tuple es k2 pt2) pos) (VS G W (gParN is fs)) :=
  ps_weak (ps_asg (pe_tup ha) (pg_tup hc ht hn hst) hs hw h1) fun D σ H ⟨z, ρ, τ, hz', c, en, q⟩ => ⟨z, ρ, τ, hz', c, en, (RunS.lift (rep := RepUs G) en q).imp fun vs H1 ⟨z1, us, τ1, e1, f, c1, r1, q1⟩ => by
    subst e1
    cases e2 : setN is us ρ with
    | none => rw [e2] at q1; exact q1.elim
    | some ρ' =>
      rw [e2] at q1
      have len : vs.length = is.length := (setN_ok (Q := fun _ _ => True) r1 (en.fut f) e2 fun _ _ => trivial).2
      have small : is.length ≤ sizeLine := by rw [sizeLine_eq]; omega
      refine ⟨by rw [len]; exact small, fun p hp => ?_⟩
      have ff : Fut z1 ⟨upd z1.S p (.tup vs), upd z1.H p (.tup vs), z1.ms⟩ := fut_sh (c1.none_ hp) hp
      have cc : Cells G ⟨upd z1.S p (.tup vs), upd z1.H p (.tup vs), z1.ms⟩ τ1 := cells_sh c1 hp
      refine ⟨p, vs, rfl, SqT.of upd_same, by rw [len], ?_⟩
      exact (setN_ok (z := ⟨upd z1.S p (.tup vs), upd z1.H p (.tup vs), z1.ms⟩) (r1.fut ff) (en.fut (f.trans ff)) e2 fun σ' en' => RunS.nx_ (RunS.pre q1 ff) cc en').1⟩
/-- a, b, c = e, f, g, plain local names -/
def gPar3 (i j l : Nat) (fs : EL) : GS := fun ρ τ => liftE (fs ρ τ) ρ fun us τ1 => match us with
  | [u, v, w] => .nx (((ρ.set i (some u)).set j (some v)).set l (some w)) τ1
  | _ => .bad
theorem s_par3 {X : Cx} {G : Gd} {W : WX} {i j l : Nat} {x y z : Str} {a b c : Expr} {fs : EL} {px py pz pt pos : Pos} {kt k2 pt2} (hc : X.calm = true) (hN : X.N.Nodup) (hi : X.N[i]? = some x) (hj : X.N[j]? = some y) (hl : X.N[l]? = some z) (hij : i ≠ j) (hil : i ≠ l) (hjl : j ≠ l)
    (hx : X.env.scope.names.lookup x = some .local) (hy : X.env.scope.names.lookup y = some .local) (hz : X.env.scope.names.lookup z = some .local) (ha : PA X [a, b, c] (VA G W fs))
    (hw : swappedStores [.Tuple [.Name x px, .Name y py, .Name z pz] kt pt] (.Tuple [a, b, c] k2 pt2) X.env = pure (some [x, y, z]))
    (hs : swapsWithSole [.Tuple [.Name x px, .Name y py, .Name z pz] kt pt] (.Tuple [a, b, c] k2 pt2) pos.line X.env = pure false := by rfl) :
    PS X (.Assign [.Tuple [.Name x px, .Name y py, .Name z pz] kt pt] (.Tuple [a, b, c] k2 pt2) pos) (VS G W (gPar3 i j l fs)) :=
  ps_weak (ps_par3 hc hN hi hj hl hij hil hjl hx hy hz ha hw hs) fun D σ H ⟨zz, ρ, τ, hz, cc, en, q⟩ => ⟨zz, ρ, τ, hz, cc, en, (RunS.lift (rep := RepUs G) en q).imp fun vs H1 ⟨z1, us, τ1, e1, f, c1, r1, q1⟩ => by
    subst e1
    match us, r1, q1 with
    | [u, v, w], .cons ru (.cons rv (.cons rw' .nil)), q1 => exact ⟨_, _, _, rfl, RunS.nx_ q1 c1 ((((en.fut f).set ru).set rv).set rw')⟩
    | [], _, q1 => exact q1.elim
    | [_], _, q1 => exact q1.elim
    | [_, _], _, q1 => exact q1.elim
    | _ :: _ :: _ :: _ :: _, _, q1 => exact q1.elim⟩

/-! ### split into a list to be changed, an empty dict -/
def mSplitO : D → List D → Store → R U
  | .str a, [.str b], τ => if b ≠ [] ∧ b.all (· < 256) = true ∧ a.length + 2 ≤ sizeLine then .ok (.loc τ.length) (τ ++ [.lst ((TL.spl b 0 [] a).map .str)]) else .bad
  | _, _, _ => .bad
section
variable {X : Cx} {G : Gd} {W : WX} {e o : Expr} {fo : EV} {fs : EL} {pos p p2 apos cpos : Pos}
theorem m_splitO : MtS G "str" mSplitO (fun x xs H Q => ∃ a b, x = .str a ∧ xs = [.str b] ∧ (b.length == 0) = false ∧ a.length + 2 ≤ sizeLine ∧ rNewStrs (Txt.split a b) H Q) := by
  intro z d ds τ v vs W Q c r rs q
  match d, ds, r, rs, q with
  | .str a, [.str b], r, rs, q =>
    obtain ⟨w, rfl, rw'⟩ := hs1 rs rfl
    rw [r.str_, rw'.str_]
    have q : Run G (RepU G) (if b ≠ [] ∧ b.all (· < 256) = true ∧ a.length + 2 ≤ sizeLine then .ok (.loc τ.length) (τ ++ [.lst ((TL.spl b 0 [] a).map .str)]) else .bad) W z Q := q
    by_cases h : b ≠ [] ∧ b.all (· < 256) = true ∧ a.length + 2 ≤ sizeLine
    · rw [if_pos h] at q
      refine ⟨_, _, rfl, rfl, ?_, by rw [T.len]; exact h.2.2, fun p hp => ?_⟩
      · rw [T.len]
        cases b with
        | nil => exact absurd rfl h.1
        | cons _ _ => rfl
      · rw [split_s h.1 h.2.1]
        exact alloc_lst (own := true) c hp (reps_strs _) q
    · rw [if_neg h] at q; exact q.elim
theorem v_splitO (hK : X.K = G.K) (ho : PE X o (VE G W fo)) (ha : PA X [e] (VA G W fs)) (hbase : attributeBase o "split" X.env (eval o X.env) = eval o X.env := by rfl)
    (hfew : ((backTo cpos (starEach [e] X.env)).all (fun x => !x.1) && (backToKw cpos (keywordEach [] X.env)).all (fun x => x.1.isSome)
      && decide ([e].length + ([] : List Keyword).length + (if ([] : List Keyword).isEmpty then 0 else 1) < 30)) = true := by rfl)
    (hline : (apos.endLine == cpos.line) = true := by rfl) (h1 : starEach [e] X.env = (false, eval e X.env) :: starEach [] X.env := by rfl) (hpl : (backTo cpos (starEach [] X.env)).any (·.1) = false := by rfl) :
    PE X (.Call (.Attribute o "split" apos) [e] [] cpos) (VE G W (eMt "str" mSplitO fo fs)) := v_mt F.plainAttrs_str F.slot_str_split F.type_str_split hK mt_split m_splitO ho ha hbase hfew hline h1 hpl
def eLk (f : EV) : EV := fun ρ τ => (f ρ τ).bind fun u τ1 => match u with
  | .loc n => match τ1[n]? with
    | some (.dct kvs) => .ok (.d (.dct kvs)) (τ1.set n .dead)
    | _ => .bad
  | _ => .bad
end
/-! ### a walk over a list or a tuple -/
def gItS (u : U) (τ : Store) : R (List D) := match u with
  | .d (.lst ds) => .ok ds τ
  | .d (.fl ds) => .ok ds τ
  | .d (.tup ds) => .ok ds τ
  | _ => .bad
def dSeq (f : EV) : ED := fun ρ τ => (f ρ τ).bind gItS
theorem vi_seq {X : Cx} {G : Gd} {W : WX} {tg e : Expr} {f : EV} (hK : X.K = G.K) (he : PE X e (VE G W f)) : PI X tg e (VI G W (dSeq f)) := by
  have hl := vi_list (tg := tg) hK he
  have ht := vi_tup (tg := tg) hK he
  refine ⟨fun pins s σ H Rr I ⟨z, ρ, τ, hz, c, en, q⟩ => ?_⟩
  unfold dSeq at q
  cases e1 : f ρ τ with
  | bad => rw [e1] at q; exact q.elim
  | exc c1 fs τ1 => exact hl.run pins s σ H Rr I ⟨z, ρ, τ, hz, c, en, by unfold dList; rw [e1] at q ⊢; exact q⟩
  | ok u τ1 =>
    rw [e1] at q
    match u, e1, q with
    | .d (.lst ds), e1, q => exact hl.run pins s σ H Rr I ⟨z, ρ, τ, hz, c, en, by unfold dList; rw [e1]; exact q⟩
    | .d (.fl ds), e1, q => exact hl.run pins s σ H Rr I ⟨z, ρ, τ, hz, c, en, by unfold dList; rw [e1]; exact q⟩
    | .d (.tup ds), e1, q => exact ht.run pins s σ H Rr I ⟨z, ρ, τ, hz, c, en, by unfold dTup; rw [e1]; exact q⟩
    | .loc n, e1, q => exact q.elim
    | .d .non, e1, q => exact q.elim
    | .d (.bl _), e1, q => exact q.elim
    | .d (.int _), e1, q => exact q.elim
    | .d (.str _), e1, q => exact q.elim
    | .d (.dct _), e1, q => exact q.elim
    | .d (.dcu _), e1, q => exact q.elim
    | .d (.ins _ _), e1, q => exact q.elim
    | .d (.cls _), e1, q => exact q.elim
    | .d (.exn _ _), e1, q => exact q.elim
/-! ### a def whose code object is known; told by name -/
theorem fn_bodyC {P : Program} {w : World} {K : PySem.W.Frag} {mg : Str → Option Value} {base : Heap} {G : Gd} {x qual : Str} {st : Stmt} {f : Addr} {fd : FuncData} {N ps : List Str} {k n : Nat} {g : GS} (F : Fun K x qual st f fd) (S : FnScope N ps (defScope st)) (hn : ps.length = n)
    (hbody : ∀ (cdv : Value) (hc : fd.code = cdv) (A : Around) (outer : List PySem.Env) (s : Shared) (H : Hp) (E : XK), Room k (A.deeper (envOfC qual (defScope st) s.heap.objs.size f cdv)) → A.guards = some [] →
      PSs (cxOf (L2.CX P w) P w K mg base N qual (defScope st) f cdv A outer s H E) (defBody st) (VS G (fun c d _ H => E c d H) g)) : FnV P w K mg base (k + 1) f fd ps (spV G n (callD N.length g)) := by
  obtain ⟨oc, od, kV, doc, pm, an, cdv, ct, osl, e, lk, hcd⟩ := F.ex
  refine ⟨spV_len hn, fun A outer s H args us vs Q E hr hg e0 hb r hsp => ?_⟩
  have hcode : fd.code = cdv := by rw [e]
  rw [e] at lk hb
  refine run_ofS lk hcd S hr e0 hb r (spV_len hn _ _ _ _ hsp) fun hr' => ⟨_, hbody cdv hcode A outer s H E hr' hg, ?_⟩
  obtain ⟨z, us', τ, hz, c, r', hl, q⟩ := hsp
  subst hz
  refine ⟨z, us'.map some ++ List.replicate (N.length - us'.length) none, τ, rfl, c, env_start r', ?_⟩
  unfold callD at q
  cases e1 : g (us'.map some ++ List.replicate (N.length - us'.length) none) τ with
  | nx ρ τ' =>
    rw [e1] at q
    exact fun z' σ' f' c' en' => ret_ok (u := .d .non) (v := .non) c f' c' (.d .non) q
  | rt u τ' =>
    rw [e1] at q
    exact fun z' v f' c' r' => ret_ok c f' c' r' q
  | exc cc fs ρ τ' =>
    rw [e1] at q
    exact fun z' dd vs σ' f' c' en' s' r' => q (z'.back τ.length) dd vs (fut_back c f') (cells_back c' _) s' r'
  | bk ρ τ' => rw [e1] at q; exact q.elim
  | ct ρ τ' => rw [e1] at q; exact q.elim
  | bad => rw [e1] at q; exact q.elim
/-- what the error's class is known by, where it is caught -/
structure Caught (K : PySem.W.Frag) (mg : Str → Option Value) (y : Str) (C : Addr) (a1 a2 : Str) : Prop where
  g : mg y = some (.ref C)
  te : PySem.W.exmOne K (.ref C) (.ref C) = some true
  xf : XfC K C
  n1 : PySem.W.findIn K (.ref C) a1 = some none
  n2 : PySem.W.findIn K (.ref C) a2 = some none
/-- the maker's code object and its table -/
structure Maker (base : Heap) (mg : Str → Option Value) (T : List (Addr × Str)) (fd : FuncData) (q : Str) (cO Pt : Addr) : Prop where
  tb : TabB base mg cO Pt
  code : fd.code = .ref cO
  mem : (Pt, q) ∈ T
  un : ∀ p ∈ T, p.1 = Pt → p.2 = q
end VL

/-! The value layer, J: dicts with int and text keys. -/
namespace VL
open PySem PySem.Spec PyProof.Rows L2 LamX
section
variable {G : Gd} {z : Z} {τ : Store}
theorem fut_lk {a : Addr} {o o' : HO} (h : z.H a = some o) (hs : z.S a = none) (m : a ∈ z.ms) (p' : pln o') : Fut z ⟨upd z.S a o', upd z.H a o', z.ms⟩ :=
  (fut_set h m p').trans (fut_frz (z := ⟨z.S, upd z.H a o', z.ms⟩) hs m)
theorem cells_lk (c : Cells G z τ) {n : Nat} {a : Addr} {o o' : HO} (hm : z.ms[n]? = some a) (h : z.H a = some o) (hs : z.S a = none) (p' : pln o') : Cells G ⟨upd z.S a o', upd z.H a o', z.ms⟩ (τ.set n .dead) := by
  have c1 := cells_set (cl := .dead) c hm h hs p' trivial
  have c2 := cells_frz c1 hm upd_same hs
  rwa [List.set_set] at c2
end
section
variable {X : Cx} {G : Gd} {W : WX} {e o i : Expr} {f fo fi : EV} {pos p2 : Pos}
/-- a dict is let go: it is locked from now on -/
theorem v_lk (he : PE X e (VE G W f)) : PE X e (VE G W (eLk f)) := by
  refine ⟨fun pins s σ H Q I ⟨z, ρ, τ, hz, c, en, q⟩ => ?_⟩
  refine thn (he.run pins s σ H _ I ⟨z, ρ, τ, hz, c, en, Run.bind q⟩) fun v s1 ⟨x, H1, I1, rx, z1, u, τ1, e1, f1, c1, r1, q1⟩ => ?_
  subst e1
  cases r1 with
  | d h => exact q1.elim
  | loc h =>
    rename_i n a
    simp only at q1
    cases e2 : τ1[n]? with
    | none => rw [e2] at q1; exact q1.elim
    | some cl =>
      have w := c1.at_ n a cl h e2
      rw [e2] at q1
      cases cl with
      | dct kvs =>
        obtain ⟨hs, ps, h1, h2⟩ := w
        obtain ⟨od, I2⟩ := I1.lock h1 trivial
        refine ⟨.ref a, _, I2, rx, ?_⟩
        exact q1 ⟨upd z1.S a (.frz od (.dK ps)), upd z1.H a (.frz od (.dK ps)), z1.ms⟩ (.ref a) (fut_lk h1 hs (List.mem_of_getElem? h) trivial) (cells_lk c1 h h1 hs trivial) (.d (.dct upd_same (RepK.mono (same_upd hs) _ _ h2)))
      | _ => exact q1.elim
/-- {}, a cell -/
def eDN : EV := fun _ τ => allocD [] τ
theorem v_dN : PE X (.Dict [] [] pos) (VE G W eDN) := pe_weak pe_dnewK fun σ H Q ⟨z, ρ, τ, hz, c, en, q⟩ => by
  subst hz
  exact fun p hp => alloc_dct c hp .nil q
/-- {}, let go -/
def eD0 : EV := eLk eDN
theorem v_d0 : PE X (.Dict [] [] pos) (VE G W eD0) := v_lk v_dN
end
/-! ### what a dict holds -/
def D.ky : D → Option Ky
  | .int i => some (.inl i)
  | .str t => some (.inr t)
  | _ => none
def dget (kvs : List (Ky × D)) (k : Ky) : Option D := (kvs.find? fun p => decide (p.1 = k)).map (·.2)
def dput (kvs : List (Ky × D)) (k : Ky) (x : D) : List (Ky × D) := if kvs.any fun p => decide (p.1 = k) then kvs.map fun p => if p.1 = k then (p.1, x) else p else kvs ++ [(k, x)]
section
variable {G : Gd} {S : Hp}
theorem ky_dec (a b : Ky) : decide (a = b) = decide (a.k = b.k) := by
  by_cases h : a = b
  · rw [h]; simp
  · rw [decide_eq_false h, decide_eq_false fun q => h (Ky.inj q)]
theorem RepK.get {k : Ky} {d : D} : ∀ {kvs : List (Ky × D)} {ps : List (Key × V)}, RepK G S kvs ps → dget kvs k = some d → ∃ v, valV ps k.k = some v ∧ Rep G S d v
  | [], _, h, e => by cases e
  | (k', x) :: kvs, _, h, e => by
    cases h with
    | cons h1 h2 =>
      by_cases q : k' = k
      · subst q
        have e' : some x = some d := by rw [← e]; simp [dget]
        cases e'
        exact ⟨_, valV_pos rfl, h1⟩
      · obtain ⟨v, q1, q2⟩ := RepK.get (k := k) (d := d) h2 (by rw [← e]; simp [dget, q])
        exact ⟨v, by rw [valV_neg fun z => q (Ky.inj z)]; exact q1, q2⟩
theorem RepK.any {k : Ky} : ∀ {kvs : List (Ky × D)} {ps : List (Key × V)}, RepK G S kvs ps → (kvs.any fun p => decide (p.1 = k)) = ps.any fun p => decide (p.1 = k.k)
  | [], _, h => by cases h; rfl
  | (k', x) :: kvs, _, h => by
    cases h with
    | cons h1 h2 => rw [List.any_cons, List.any_cons, RepK.any h2, ky_dec]
theorem RepK.put {k : Ky} {x : D} {v : V} (r : Rep G S x v) {kvs : List (Ky × D)} {ps : List (Key × V)} (h : RepK G S kvs ps) : RepK G S (dput kvs k x) (putK ps k.k v) := by
  have hm : ∀ {kvs : List (Ky × D)} {ps : List (Key × V)}, RepK G S kvs ps → RepK G S (kvs.map fun p => if p.1 = k then (p.1, x) else p) (ps.map fun p => if p.1 = k.k then (p.1, v) else p) := by
    intro kvs
    induction kvs with
    | nil => intro ps h; cases h; exact .nil
    | cons p kvs ih =>
      intro ps h
      cases h with
      | cons h1 h2 =>
        rename_i k' d' v' vs'
        rw [List.map_cons, List.map_cons]
        by_cases q : k' = k
        · subst q
          rw [if_pos rfl, if_pos rfl]
          exact .cons r (ih h2)
        · rw [if_neg q, if_neg fun z => q (Ky.inj z)]
          exact .cons h1 (ih h2)
  have ha : ∀ {kvs : List (Ky × D)} {ps : List (Key × V)}, RepK G S kvs ps → RepK G S (kvs ++ [(k, x)]) (ps ++ [(k.k, v)]) := by
    intro kvs
    induction kvs with
    | nil => intro ps h; cases h; exact .cons r .nil
    | cons p kvs ih =>
      intro ps h
      cases h with
      | cons h1 h2 => exact .cons h1 (ih h2)
  unfold dput putK
  rw [h.any]
  by_cases q : (ps.any fun p => decide (p.1 = k.k)) = true
  · rw [if_pos q, if_pos q]; exact hm h
  · rw [if_neg q, if_neg q]; exact ha h
theorem rep_ky {d : D} {k : Ky} {v : V} (e : d.ky = some k) (r : Rep G S d v) : v = kV k.k := by
  cases d with
  | int i => cases e; cases r; rfl
  | str t => cases e; cases r; rfl
  | _ => cases e
theorem rep_ofky (k : Ky) : Rep G S k.d (kV k.k) := by
  cases k with
  | inl i => exact .int i
  | inr t => exact .str t
end
/-- d[k] -/
def gDGet (u w : U) (τ : Store) : R U := match vw τ u, w with
  | some (.dct kvs), .d y => match y.ky with
    | some k => match dget kvs k with
      | some x => .ok (.d x) τ
      | none => .bad
    | none => .bad
  | _, _ => .bad
def eDGet (fo fi : EV) : EV := fun ρ τ => (fo ρ τ).bind fun u τ1 => (fi ρ τ1).bind fun w τ2 => gDGet u w τ2
/-- len(d) too -/
def fLenD : D → Store → R U
  | .dct kvs, τ => .ok (.d (.int kvs.length)) τ
  | d, τ => fLen d τ
/-- d[k] = e -/
def putAt (x : D) (o i : U) (ρ : Env) (τ : Store) : RS := match o, i with
  | .loc n, .d y => match τ[n]?, y.ky with
    | some (.dct kvs), some k => if kvs.length < sizeLine then .nx ρ (τ.set n (.dct (dput kvs k x))) else .bad
    | _, _ => .bad
  | _, _ => .bad
def gPutK (fo fi f : EV) : GS := fun ρ τ => liftE (f ρ τ) ρ fun u τ1 => match frz τ1 u with
  | some (x, τ2) => liftE (fo ρ τ2) ρ fun o τ3 => liftE (fi ρ τ3) ρ fun i τ4 => putAt x o i ρ τ4
  | none => .bad
/-- for k in d -/
def gKeys (u : U) (τ : Store) : R (List D) := match u with
  | .d (.dct kvs) => .ok (kvs.map fun p => p.1.d) τ
  | _ => .bad
def dKeys (f : EV) : ED := fun ρ τ => (f ρ τ).bind gKeys
section
variable {X : Cx} {G : Gd} {W : WX} {tg e o i : Expr} {f fo fi : EV} {pos p2 : Pos}
theorem v_dget (hu : X.A.units + 1 < cLine) (ho : PE X o (VE G W fo)) (hi : PE X i (VE G W fi)) (hs : NoSl i) : PE X (.Subscript o i pos) (VE G W (eDGet fo fi)) :=
  ve_step2 (pe_dget hu ho hi hs) (r := fun x y H Q => ∃ a v, x = .ref a ∧ DGet H a y (some v) ∧ Q v H) (fun _ _ _ h => h) fun z u w τ x y W Q c r1 r2 q => by
    unfold gDGet at q
    cases e1 : vw τ u with
    | none => rw [e1] at q; exact q.elim
    | some d =>
      rw [e1] at q
      have rh := vw_rep c r1 e1
      cases r2 with
      | loc h2 => cases d <;> exact q.elim
      | d r2 =>
        rename_i y'
        cases d with
        | dct kvs =>
          simp only at q
          cases e2 : y'.ky with
          | none => rw [e2] at q; exact q.elim
          | some k =>
            rw [e2] at q
            simp only at q
            cases e3 : dget kvs k with
            | none => rw [e3] at q; exact q.elim
            | some x0 =>
              rw [e3] at q
              obtain ⟨a, ps, rfl, h1, h2⟩ := rh.dct_ c
              obtain ⟨v, h3, h4⟩ := h2.get e3
              exact ⟨a, v, rfl, .inl ⟨ps, k.k, h1, rep_ky e2 r2, h3.symm⟩, Run.ok (rep := RepU G) q c (.d h4)⟩
        | _ => exact q.elim
def rLenD (K : PySem.W.Frag) : List V → Hp → VK → Prop := fun xs H Q => rLen K xs H Q ∨ ∃ a kvs, xs = [V.ref a] ∧ Rd H a (.dK kvs) ∧ Q (.int kvs.length) H
theorem call_lenR : CallR X (.builtin "len") (fun xs H Q => ∃ a kvs, xs = [V.ref a] ∧ Rd H a (.dK kvs) ∧ Q (.int kvs.length) H) := by
  intro pins s σ H xs us Q I r h
  obtain ⟨a, kvs, rfl, hd, q⟩ := h
  obtain ⟨u, rfl, ru⟩ := vals1 r
  cases ru
  exact d_len I hd fun t s' I' => ⟨.int kvs.length, H, I', ⟨t, rfl⟩, q⟩
theorem call_lenX : CallR X (.builtin "len") (rLenD X.K) := CallR.or call_len' call_lenR
theorem c_lenD : CallS G (c1 fLenD) (rLenD G.K) := c1_s fun z d τ v W Q c rh q => by
  have gen : Run G (RepU G) (fLen d τ) W z Q → rLenD G.K [v] z.H Q := fun q => .inl (c_len z [d] τ [v] W Q c (.cons rh .nil) q)
  cases d with
  | dct kvs =>
    obtain ⟨a, ps, rfl, h1, h2⟩ := rh.dct_ c
    exact .inr ⟨a, ps, rfl, h1, by rw [← h2.length]; exact Run.ok (rep := RepU G) q c (.d (.int _))⟩
  | _ => exact gen q
theorem s_putK (hu : X.A.units + 1 < cLine) (he : PE X e (VE G W f)) (ho : PE X o (VE G W fo)) (hi : PE X i (VE G W fi)) (hs : swapsWith e (some (.Subscript o i p2)) pos.line X.env = pure false := by rfl) :
    PS X (.Assign [.Subscript o i p2] e pos) (VS G W (gPutK fo fi f)) :=
  ps_weak (ps_dput hu ho hi he hs) fun D σ H ⟨z, ρ, τ, hz, c, en, q⟩ => ⟨z, ρ, τ, hz, c, en, (RunS.lift (rep := RepU G) en q).imp fun v H1 ⟨z1, u, τ1, e1, f1, c1, r1, q1⟩ => by
    subst e1
    cases e2 : frz τ1 u with
    | none => rw [e2] at q1; exact q1.elim
    | some pr =>
      obtain ⟨x, τ2⟩ := pr
      rw [e2] at q1
      simp only at q1
      obtain ⟨z2, h2, f2, c2, rx, m2⟩ := frz_ok c1 r1 e2
      have en2 := en.fut (f1.trans f2)
      rw [← h2]
      refine ⟨z2, ρ, τ2, rfl, c2, en2, (RunS.lift (rep := RepU G) en2 (RunS.pre q1 f2)).imp fun vo H3 ⟨z3, uo, τ3, e3, f3, c3, r3, q3⟩ => ?_⟩
      subst e3
      have en3 := en2.fut f3
      refine ⟨z3, ρ, τ3, rfl, c3, en3, (RunS.lift (rep := RepU G) en3 q3).imp fun vi H4 ⟨z4, ui, τ4, e4, f4, c4, r4, q4⟩ => ?_⟩
      subst e4
      have r3 := r3.fut f4
      have en4 := en3.fut f4
      match uo, ui, r3, r4, q4 with
      | .loc n, .d y, @RepU.loc _ _ _ a hm, @RepU.d _ _ _ _ hk, q4 =>
        simp only [putAt] at q4
        cases e5 : τ4[n]? with
        | none => rw [e5] at q4; exact q4.elim
        | some cl =>
          rw [e5] at q4
          cases cl with
          | dct kvs =>
            cases e6 : y.ky with
            | none => rw [e6] at q4; exact q4.elim
            | some k =>
              rw [e6] at q4
              simp only at q4
              by_cases hl : kvs.length < sizeLine
              · rw [if_pos hl] at q4
                obtain ⟨s5, ws, t5, t6⟩ := c4.at_ n _ _ hm e5
                have rx4 := Rep.mono (f3.trans f4).ss _ _ rx
                refine ⟨a, _, rfl, .inl ⟨ws, k.k, t5, rep_ky e6 hk, by rw [← t6.length]; exact hl, rfl⟩, ?_⟩
                have ff := fut_set (o' := .dK (putK ws k.k v)) t5 (List.mem_of_getElem? hm) trivial
                exact q4 _ σ ff (cells_set c4 hm t5 s5 trivial ⟨s5, _, upd_same, t6.put rx4⟩) (en4.fut ff)
              · rw [if_neg hl] at q4; exact q4.elim
          | _ => exact q4.elim⟩
theorem reps_keys {S : Hp} : ∀ {kvs : List (Ky × D)} {ps : List (Key × V)}, RepK G S kvs ps → Reps G S (kvs.map fun p => p.1.d) (ps.map fun p => kV p.1)
  | [], _, h => by cases h; exact .nil
  | (k, x) :: kvs, _, h => by
    cases h with
    | cons h1 h2 => exact .cons (rep_ofky k) (reps_keys h2)
theorem vi_keys (he : PE X e (VE G W f)) : PI X tg e (VI G W (dKeys f)) :=
  pi_weak (pi_keys he) fun σ H Rr ⟨z, ρ, τ, hz, c, en, q⟩ => ⟨z, ρ, τ, hz, c, en, (Run.bind q).imp fun v H1 ⟨z1, u, τ1, e1, f, c1, r1, q1⟩ => by
    subst e1
    cases u with
    | loc n => exact q1.elim
    | d x =>
      cases x with
      | dct kvs =>
        cases r1 with
        | d r1 =>
          cases r1 with
          | @dct a o ps _ h1 h2 =>
            refine ⟨a, o, rfl, .inl ⟨ps, c1.sub _ _ h1, Run.ok (rep := fun z' ds J => ItOk G z' ds J) q1 c1 ?_⟩⟩
            have w := walk_keys (d := a) (o := o) (kvs := ps)
            have rk := reps_keys h2
            have hl : (kvs.map fun p => p.1.d).length = ps.length := by rw [rk.length, List.length_map]
            refine ⟨fun i z2 τ f c hi => w.goes i z2.H (by rw [← hl]; exact hi) (c.sub _ _ (f.ss _ _ h1)), fun z2 τ f c => by rw [hl]; exact w.stops z2.H (c.sub _ _ (f.ss _ _ h1)), fun i z2 τ x H' f c hi y => ?_⟩
            obtain ⟨e1, k, v, e2, e3⟩ := w.yields i z2.H x H' (by rw [← hl]; exact hi) (c.sub _ _ (f.ss _ _ h1)) y
            subst e1
            obtain ⟨d, q2, q3⟩ := rk.get' (i := i) (v := kV k) (by rw [List.getElem?_map, e2]; rfl)
            exact ⟨z2, d, rfl, Fut.refl _, c, rfl, q2, by rw [e3]; exact Rep.mono f.ss _ _ q3⟩
      | _ => exact q1.elim⟩
end
end VL

/-! The value layer, K: instances: fields read and set, instances made. -/
namespace VL
open PySem PySem.Spec PyProof.Rows L2 LamX
def fput (f : T) (x : D) : List (T × D) → List (T × D)
  | [] => [(f, x)]
  | (g, y) :: r => if g = f then (f, x) :: r else (g, y) :: fput f x r
theorem fput_len (f : T) (x : D) : ∀ r : List (T × D), (fput f x r).length ≤ r.length + 1
  | [] => by simp [fput]
  | (g, y) :: r => by
    unfold fput
    split
    · simp
    · have := fput_len f x r
      simp; omega
theorem RepF.put {G : Gd} {S : Hp} {f : T} {x : D} {v : V} (r : Rep G S x v) : ∀ {fs : List (T × D)} {ps : List (Str × V)}, RepF G S fs ps → RepF G S (fput f x fs) (putF f.s v ps)
  | [], _, h => by cases h; exact .cons r .nil
  | (g, y) :: fs, _, h => by
    cases h with
    | cons h1 h2 =>
      unfold fput putF
      by_cases q : g = f
      · subst q
        first
        | rw [if_pos rfl, if_pos rfl]; exact .cons r h2
        | (simp; exact .cons r h2)
      · have q' : ¬ g.s = f.s := fun z => q (T.inj z)
        first
        | rw [if_neg q, if_neg q']; exact .cons h1 (RepF.put r h2)
        | (simp [q, q']; exact .cons h1 (RepF.put r h2))
/-- e.f -/
def gFld (c : Nat) (f : T) (u : U) (τ : Store) : R U := match vw τ u with
  | some (.ins c' fs) => if c' = c then match fs.lookup f with
    | some x => .ok (.d x) τ
    | none => .bad
    else .bad
  | _ => .bad
def eFld (c : Nat) (f : T) (fo : EV) : EV := fun ρ τ => (fo ρ τ).bind (gFld c f)
/-- o.f = e -/
def fldAt (c : Nat) (f : T) (x : D) (o : U) (ρ : Env) (τ : Store) : RS := match o with
  | .loc n => match τ[n]? with
    | some (.ins c' fs) => if c' = c ∧ fs.length < 1000 then .nx ρ (τ.set n (.ins c (fput f x fs))) else .bad
    | _ => .bad
  | _ => .bad
def gSetF (c : Nat) (f : T) (fo fe : EV) : GS := fun ρ τ => liftE (fe ρ τ) ρ fun u τ1 => match frz τ1 u with
  | some (x, τ2) => liftE (fo ρ τ2) ρ fun o τ3 => fldAt c f x o ρ τ3
  | none => .bad
section
variable {X : Cx} {G : Gd} {W : WX} {e o : Expr} {fo fe : EV} {pos p2 : Pos} {c : Nat} {f : Str} {ft : T}
theorem v_fld (hK : X.K = G.K) (hc : Cls G.K (G.ca c)) (hn : NoAttr G.K (G.ca c) f) (hf : f = ft.s) (he : PE X e (VE G W fo)) (hb : attributeBase e f X.env (eval e X.env) = eval e X.env := by rfl) : PE X (.Attribute e f pos) (VE G W (eFld c ft fo)) :=
  ve_step1 (pe_fld he hb) (r := fun x H Q => ∃ a C dx fs v, x = .ref a ∧ H a = some (.ins C dx fs) ∧ Cls X.K C ∧ NoAttr X.K C f ∧ fs.lookup f = some v ∧ Q v H) (fun _ _ _ h => h) fun z u τ v W Q cc r q => by
    unfold gFld at q
    cases e1 : vw τ u with
    | none => rw [e1] at q; exact q.elim
    | some d =>
      rw [e1] at q
      have rh := vw_rep cc r e1
      cases d with
      | ins c' fs =>
        simp only at q
        by_cases h : c' = c
        · rw [if_pos h] at q
          subst h
          cases e2 : fs.lookup ft with
          | none => rw [e2] at q; exact q.elim
          | some x =>
            rw [e2] at q
            obtain ⟨a, dx, ps, rfl, h1, h2⟩ := rh.ins_ cc
            obtain ⟨v, h3, h4⟩ := h2.look e2
            exact ⟨a, _, dx, ps, v, rfl, h1, by rw [hK]; exact hc, by rw [hK]; exact hn, by rw [hf]; exact h3, Run.ok (rep := RepU G) q cc (.d h4)⟩
        · rw [if_neg h] at q; exact q.elim
      | _ => exact q.elim
theorem s_setF (hK : X.K = G.K) (hc : Cls G.K (G.ca c)) (hn : NoAttr G.K (G.ca c) f) (hf : f = ft.s) (he : PE X e (VE G W fe)) (ho : PE X o (VE G W fo)) (hs : swapsWith e (some (.Attribute o f p2)) pos.line X.env = pure false := by rfl) :
    PS X (.Assign [.Attribute o f p2] e pos) (VS G W (gSetF c ft fo fe)) :=
  ps_weak (ps_fld ho he hs) fun D σ H ⟨z, ρ, τ, hz, cc, en, q⟩ => ⟨z, ρ, τ, hz, cc, en, (RunS.lift (rep := RepU G) en q).imp fun v H1 ⟨z1, u, τ1, e1, f1, c1, r1, q1⟩ => by
    subst e1
    cases e2 : frz τ1 u with
    | none => rw [e2] at q1; exact q1.elim
    | some pr =>
      obtain ⟨x, τ2⟩ := pr
      rw [e2] at q1
      simp only at q1
      obtain ⟨z2, h2, f2, c2, rx, m2⟩ := frz_ok c1 r1 e2
      have en2 := en.fut (f1.trans f2)
      rw [← h2]
      refine ⟨z2, ρ, τ2, rfl, c2, en2, (RunS.lift (rep := RepU G) en2 (RunS.pre q1 f2)).imp fun vo H3 ⟨z3, uo, τ3, e3, f3, c3, r3, q3⟩ => ?_⟩
      subst e3
      have en3 := en2.fut f3
      match uo, r3, q3 with
      | .loc n, @RepU.loc _ _ _ a hm, q3 =>
        simp only [fldAt] at q3
        cases e5 : τ3[n]? with
        | none => rw [e5] at q3; exact q3.elim
        | some cl =>
          rw [e5] at q3
          cases cl with
          | ins c' fs =>
            simp only at q3
            by_cases h : c' = c ∧ fs.length < 1000
            · rw [if_pos h] at q3
              obtain ⟨h, hl⟩ := h
              subst h
              obtain ⟨s5, dx, ps, t5, t6⟩ := c3.at_ n _ _ hm e5
              have rx3 := Rep.mono f3.ss _ _ rx
              refine ⟨a, _, dx, ps, rfl, t5, by rw [hK]; exact hc, by rw [hK]; exact hn, by rw [← t6.length]; exact hl, ?_⟩
              have ff := fut_set (o' := .ins (G.ca c') dx (putF f v ps)) t5 (List.mem_of_getElem? hm) trivial
              exact q3 _ σ ff (cells_set c3 hm t5 s5 trivial ⟨s5, dx, _, upd_same, by rw [hf]; exact t6.put rx3⟩) (en3.fut ff)
            · rw [if_neg h] at q3; exact q3.elim
          | _ => exact q3.elim⟩
end
/-- C(..): a new instance, then __init__ -/
def gMake (c : Nat) (F : List U → Store → R U) (os : List Nat) (us ws : List U) (τ : Store) : R U := match F (pickL os ((.loc τ.length :: us) ++ ws)) (τ ++ [.ins c []]) with
  | .ok (.d .non) τ1 => match τ1[τ.length]? with
    | some (.ins c' fs) => .ok (.d (.ins c' fs)) (τ1.take τ.length)
    | _ => .bad
  | .exc e fs τ1 => .exc e fs (τ1.take τ.length)
  | _ => .bad
def eMake (c n m : Nat) (F : List U → Store → R U) (os : List Nat) (fs fk : EL) : EV := fun ρ τ => (fs ρ τ).bind fun us τ1 => (fk ρ τ1).bind fun ws τ2 => if us.length = n ∧ ws.length = m then gMake c F os us ws τ2 else .bad
theorem make_guards {A : Around} {C : Addr} {us : List Value} {kw : List (Str × Value)} (h : A.guards = some []) : (A.under (.builtin "type.__call__" ⟨.ref C :: us, kw⟩)).guards = some [] := by
  first | exact h | (simp [Around.under, Code.isGuard, guardIds, h])
section
variable {X : Cx} {G : Gd} {W : WX} {k n : Nat} {f : Addr} {fd : FuncData} {ps ks : List Str} {F : List U → Store → R U} {os : List Nat} {c : Nat}
theorem make_run {m a : Nat} {kw : List Str} {pins : List (Addr × Obj)} {σ : L2.St} {s : Shared} {Q : VK} {us ws : List Value} {vs xs : List V} {z : Z} {uu wu : List U} {τ : Store} (M : Mk X.K (G.ca c) f) (Vf : FnV X.prog X.w X.K X.mg X.base k f fd ps (spV G n F)) (hr : Room (k + 1) X.A) (hgd : X.A.guards = some []) (tk : Takes X W)
    (hb : Bnd X.K fd ps (a + 1) kw [] os) (I : Inv X pins σ z.H s) (r : Vals vs us) (r' : Vals xs ws) (cc : Cells G z τ) (ru : RepUs G z uu vs) (rw' : RepUs G z wu xs) (hps : ps.length = n) (hmk : kw.length = m) (hos : ∀ l : List U, l.length = a + 1 + m → (pickL os l).length = n)
    (q : Run G (RepU G) (if uu.length = a ∧ wu.length = m then gMake c F os uu wu τ else .bad) (fun c d H' => W c d σ H') z Q) : wpAny (model X.prog X.w) X.A (call (.ref (G.ca c)) us (kw.zip ws)) (EP X pins σ Q) X.xe s := by
  by_cases hl : uu.length = a ∧ wu.length = m
  · rw [if_pos hl] at q
    have hx : z.H (s.heap.objs.size + 1) = none := I.hok.fresh (Nat.le_succ _)
    have hdx : z.H s.heap.objs.size = none := I.hok.fresh (Nat.le_refl _)
    have hne : s.heap.objs.size + 1 ≠ s.heap.objs.size := Nat.succ_ne_self _
    generalize hX : s.heap.objs.size + 1 = x at hx hne
    generalize hD : s.heap.objs.size = dx at hdx hne
    have c1 := cells_sh (o := .own x) cc hdx
    have f1 := fut_sh (o := .own x) (cc.none_ hdx) hdx
    have hx1 : upd z.H dx (.own x) x = none := (upd_ne hne).trans hx
    have sx1 : upd z.S dx (.own x) x = none := (upd_ne hne).trans (cc.none_ hx)
    have c2 := cells_own (o := .ins (G.ca c) dx []) (cl := .ins c []) c1 hx1 trivial ⟨sx1, dx, [], upd_same, .nil⟩
    have f2 := fut_own (z := ⟨upd z.S dx (.own x), upd z.H dx (.own x), z.ms⟩) (o := .ins (G.ca c) dx []) hx1
    have ff := f1.trans f2
    have hix : (z.ms ++ [x])[τ.length]? = some x := by rw [← cc.len, List.getElem?_append_right (Nat.le_refl _)]; simp
    have I2 := Inv.made (C := G.ca c) I
    have r1 : Vals (V.ref x :: vs) (Value.ref x :: us) := .cons rfl r
    have hh := hos ((.loc τ.length :: uu) ++ wu) (by simp only [List.length_append, List.length_cons, hl.1, hl.2])
    have rall : RepUs G ⟨upd z.S dx (.own x), upd (upd z.H dx (.own x)) x (.ins (G.ca c) dx []), z.ms ++ [x]⟩ ((.loc τ.length :: uu) ++ wu) ((V.ref x :: vs) ++ xs) := (RepUs.cons (.loc hix) (RepUs.fut ff ru)).append (RepUs.fut ff rw')
    have run : Run G (RepU G) (F (pickL os ((.loc τ.length :: uu) ++ wu)) (τ ++ [.ins c []])) (fun c d H' => W c d σ H') ⟨upd z.S dx (.own x), upd (upd z.H dx (.own x)) x (.ins (G.ca c) dx []), z.ms ++ [x]⟩ (fun v H2 => v = .non ∧ Q (.ref x) H2) := by
      unfold gMake at q
      cases eF : F (pickL os ((.loc τ.length :: uu) ++ wu)) (τ ++ [.ins c []]) with
      | bad => rw [eF] at q; exact q.elim
      | exc e fs τ1 =>
        rw [eF] at q
        intro z' dd ws' f' c' s' r'
        exact q (z'.back τ.length) dd ws' (fut_back cc (ff.trans f')) (cells_back c' _) s' r'
      | ok u τ1 =>
        rw [eF] at q
        match u, q with
        | .d .non, q =>
          simp only at q
          intro z' b f' c' rb
          cases rb with
          | d rb =>
            cases rb
            refine ⟨rfl, ?_⟩
            have hix' := pre_get f'.pre hix
            cases e2 : τ1[τ.length]? with
            | none => rw [e2] at q; exact q.elim
            | some cl =>
              rw [e2] at q
              have w := c'.at_ _ _ _ hix' e2
              cases cl with
              | ins c'' fs =>
                obtain ⟨hs, dx2, ps2, h1, h2⟩ := w
                have mem := List.mem_of_getElem? hix'
                have f3 : Fut z' ⟨upd z'.S x (.ins (G.ca c'') dx2 ps2), z'.H, z'.ms⟩ := fut_frz hs mem
                have c3 := cells_frz c' hix' h1 hs
                have ct : (τ1.set τ.length .dead).take τ.length = τ1.take τ.length := by
                  rw [List.take_set, List.set_eq_of_length_le (by rw [List.length_take]; omega)]
                refine q ((⟨upd z'.S x (.ins (G.ca c'') dx2 ps2), z'.H, z'.ms⟩ : Z).back τ.length) (.ref x) (fut_back cc ((ff.trans f').trans f3)) (by rw [← ct]; exact cells_back c3 _) (.d (.ins upd_same (RepF.mono (same_upd hs) _ _ h2)))
              | _ => exact q.elim
        | .loc _, q => exact q.elim
    have hv : spV G n F (pickL os ((V.ref x :: vs) ++ xs)) (upd (upd z.H dx (.own x)) x (.ins (G.ca c) dx [])) (fun v H2 => v = .non ∧ Q (.ref x) H2) (fun c d H' => W c d σ H') :=
      ⟨_, _, _, rfl, c2, pick_reps rall, hh, run⟩
    subst hX hD
    refine wpAny_call (make_map (f := f) I.kIn M.makes M.init (beq_iff_eq.mp M.fn) (codeAny_mono (Vf.run _ X.stack _ _ ⟨Value.ref (s.heap.objs.size + 1) :: us, kw.zip ws⟩ (pickL os ((Value.ref (s.heap.objs.size + 1) :: us) ++ ws ++ [])) _ _ _ (hr.make (G.ca c) us (kw.zip ws))
      (make_guards hgd) (I2.env0.make (G.ca c) us (kw.zip ws)) (hb.to _ (Value.ref (s.heap.objs.size + 1) :: us) ws I2.kIn (by rw [List.length_cons, ← r.length, ← ru.length, hl.1]) (by rw [← r'.length, ← rw'.length, hl.2, hmk])) (by rw [List.append_nil]; exact pick_vals (r1.append r')) hv) fun r s' hq' => ?_))
    cases r with
    | error e => exact passAt tk σ pins _ _ e s' I2 hq'
    | ok fl =>
      cases fl with
      | ret u =>
        obtain ⟨v, H', I3, rv, ev, q3⟩ := I2.after hq'
        subst ev
        exact ⟨rv, ⟨V.ref (s.heap.objs.size + 1), H', I3, rfl, q3⟩⟩
      | next => exact False.elim hq'
      | brk => exact False.elim hq'
      | cont => exact False.elim hq'
  · rw [if_neg hl] at q; exact q.elim
theorem v_make {m a : Nat} {x : Str} {p pos : Pos} {e : Expr} {es : List Expr} {kws : List Keyword} {fs fk : EL} (M : Mk X.K (G.ca c) f) (Vf : FnV X.prog X.w X.K X.mg X.base k f fd ps (spV G n F)) (hr : Room (k + 1) X.A) (hgd : X.A.guards = some []) (tk : Takes X W) (hm : X.mg x = some (.ref (G.ca c)))
    (hb : Bnd X.K fd ps (a + 1) ks [] os) (hps : ps.length = n) (hmk : ks.length = m) (hos : ∀ l : List U, l.length = a + 1 + m → (pickL os l).length = n)
    (ha : PA X (e :: es) (VA G W fs)) (hkw : PK X kws (VA G W fk)) (hg : Gl X x) (hall : (backToKw pos (keywordEach kws X.env)).all (·.1.isSome) = true := by rfl) (hks : (backToKw pos (keywordEach kws X.env)).filterMap (·.1) = ks := by rfl)
    (hdb : (x == ("__debug__" : Str)) = false := by decide) (he : starEach (e :: es) X.env = (false, eval e X.env) :: starEach es X.env := by rfl)
    (hpl : ((backTo pos (starEach (e :: es) X.env)).any (·.1) || (backToKw pos (keywordEach kws X.env)).any (·.1.isNone)) = false := by rfl) : PE X (.Call (.Name x p) (e :: es) kws pos) (VE G W (eMake c a m F os fs fk)) := by
  refine ⟨fun pins s σ H Q I ⟨z, ρ, τ, hz, cc, en, q⟩ => ?_⟩
  refine wpAny_Call_Name_kw (ld_glob I hg hm ?_ hdb)
  have h1 := ha.run pos pins s σ H _ I ⟨z, ρ, τ, hz, cc, en, Run.bind q⟩
  refine PySem.W.callWith_KW (h₀ := X.base) I.ok.mod.kin M.kp hall (thn h1 fun us s1 hq => ?_) hpl he
  obtain ⟨vs, H1, I1, r, z1, uu, τ1, e1, f1, c1, r1, q1⟩ := hq
  subst e1
  have h2 := hkw.run pos pins s1 σ z1.H _ I1 ⟨z1, ρ, τ1, rfl, c1, en.fut f1, Run.bind q1⟩
  refine thn h2 fun ws s2 hq2 => ?_
  obtain ⟨xs, H2, I2, r', z2, wu, τ2, e2, f2, c2, r2, q2⟩ := hq2
  subst e2
  refine ⟨I2.kIn, ?_⟩
  rw [hks]
  exact make_run M Vf hr hgd tk hb I2 r r' c2 (r1.fut f2) r2 hps hmk hos q2
end
end VL

/-! The value layer, M: str(x), x == y by own defs. -/
namespace VL
open PySem PySem.Spec PyProof.Rows L2 LamX
theorem in1_guards {A : Around} : A.in1.guards = A.guards := by
  first | rfl | simp [Around.in1]
section
variable {X : Cx} {G : Gd}
/-- a def of the text called anywhere beneath, nothing raised -/
theorem run_sub {A : Around} {k n : Nat} {f : Addr} {fd : FuncData} {ps : List Str} {F : List U → Store → R U} {pins : List (Addr × Obj)} {σ : L2.St} {H : Hp} {s : Shared} {Q : VK} {us : List Value} {vs : List V} {Ex : Value → Shared → Prop}
    (Vf : FnV X.prog X.w X.K X.mg X.base k f fd ps (spV G n F)) (hr : Room k A) (hf : A.frames = X.A.frames) (hg : A.guards = some []) (I : Inv X pins σ H s) (hb : BindsTo s fd ⟨us, []⟩ (ps.zip us)) (r : Vals vs us)
    (h : spV G n F vs H Q (fun _ _ _ => False)) : wpAny (model X.prog X.w) A (call (.ref f) us) (EP X pins σ Q) Ex s := by
  have e0 : Env0 X.prog X.w X.K X.mg X.base A X.stack s H := by
    have e := I.env0
    exact ⟨by rw [hf]; exact e.frames, e.mod, e.bs, e.bsz, e.funs, e.frf, e.hok, e.bare⟩
  refine wpAny_call (codeAny_mono (Vf.run A X.stack s H ⟨us, []⟩ us vs Q (fun _ _ _ => False) hr hg e0 hb r h) fun res s' hq => ?_)
  match res, hq with
  | .error e, hq =>
    obtain ⟨a, B, H', cls, d, ea, fl, hok, ub, na, os, ag, he⟩ := hq
    exact he.elim
  | .ok (.ret u), hq => exact I.after hq
end
/-- str(x), x an instance -/
def gStrI (c : Nat) (F : List U → Store → R U) (u : U) (τ : Store) : R U := match u with
  | .d (.ins c' fs) => if c' = c then match F [.d (.ins c' fs)] τ with
    | .ok (.d (.str t)) τ1 => .ok (.d (.str t)) τ1
    | _ => .bad
    else .bad
  | _ => .bad
/-- what an own class must have for str(x) -/
structure StrI (K : PySem.W.Frag) (C f : Addr) : Prop where
  at_ : PySem.W.findIn K (.ref C) "__str__" = some (some (.ref f))
  fn : PySem.W.isFn K (.ref f) = true
section
variable {X : Cx} {G : Gd} {W : WX} {e a b : Expr} {fe fa fb : EV} {pos p : Pos} {c k : Nat} {f : Addr} {fd : FuncData} {ps : List Str} {F : List U → Store → R U}
def rStrI (X : Cx) (G : Gd) (c : Nat) (F : List U → Store → R U) : List V → Hp → VK → Prop := fun xs H Q => ∃ z fs v τ, z.H = H ∧ Cells G z τ ∧ Rep G z.S (.ins c fs) v ∧ xs = [v] ∧
  Run G (RepU G) (gStrI c F (.d (.ins c fs)) τ) (fun _ _ _ => False) z Q
theorem ins_inst {pins : List (Addr × Obj)} {σ : L2.St} {H : Hp} {s : Shared} {x C dx : Addr} {fs : List (Str × V)} (I : Inv X pins σ H s) (h : H x = some (.ins C dx fs)) : ∃ ox od, PySem.W.InstAt s.heap x ox C od := by
  obtain ⟨mA, J, _⟩ := ins_get I.hok h
  obtain ⟨od, J, _⟩ := J.look
  exact ⟨_, _, J⟩
theorem call_strI (S : StrI X.K (G.ca c) f) (Vf : FnV X.prog X.w X.K X.mg X.base k f fd ps (spV G 1 F)) (hb : Bnd0 fd ps 1) (hr : Room (k + 2) X.A) (hgd : X.A.guards = some []) : CallR X (.type "str") (rStrI X G c F) := by
  intro pins s σ H xs us Q I r h
  obtain ⟨z, fs, v, τ, hz, cc, rv, rfl, q⟩ := h
  subst hz
  cases rv with
  | ins h1 h2 =>
    rename_i x dx ps2
    have hx := cc.sub _ _ h1
    obtain ⟨ox, od, J⟩ := ins_inst I hx
    obtain ⟨u, rfl, ru⟩ := vals1 r
    cases ru
    unfold gStrI at q
    simp only [if_true] at q
    cases eF : F [.d (.ins c fs)] τ with
    | bad => rw [eF] at q; exact q.elim
    | exc _ _ _ => rw [eF] at q; exact q.elim
    | ok uo τ1 =>
      rw [eF] at q
      match uo, eF, q with
      | .d (.str t), eF, q =>
        refine PySem.W.kso_call hr.in1.in1.units0 I.kIn J S.at_ S.fn ?_
        refine wpAny_mono (run_sub (Q := fun v H' => v = .str t.s ∧ Q (.str t.s) H') Vf hr.in1.in1 rfl (by rw [in1_guards, in1_guards]; exact hgd) I (hb.to s [.ref x] rfl) (vs := [.ref x]) (.cons rfl .nil) ⟨z, [.d (.ins c fs)], τ, rfl, cc, .cons (.d (.ins h1 h2)) .nil, rfl, ?_⟩) (fun w s' hq => ?_) fun _ _ y => y
        · rw [eF]
          intro z' b f' c' rb
          cases rb with
          | d rb => cases rb; exact ⟨rfl, q z' _ f' c' (.d (.str t))⟩
        · obtain ⟨v, H', I', rw', ev, q'⟩ := hq
          subst ev
          obtain ⟨tk, rfl⟩ := (show ∃ tk, w = Value.str t.s tk from rw')
          exact ⟨.str t.s, H', I', ⟨tk, rfl⟩, q'⟩
      | .loc _, eF, q => exact q.elim
def eStrI (c : Nat) (F : List U → Store → R U) (fe : EV) : EV := fun ρ τ => (fe ρ τ).bind fun u τ1 => gStrI c F u τ1
/-- x == y by the own __eq__ -/
def gEqI (c : Nat) (F : List U → Store → R U) (u w : U) (τ : Store) : R U := match u, w with
  | .d (.ins c1 fs), .d (.ins c2 gs) => if c1 = c ∧ c2 = c then match F [.d (.ins c1 fs), .d (.ins c2 gs)] τ with
    | .ok (.d (.bl b)) τ1 => .ok (.d (.bl b)) τ1
    | _ => .bad
    else .bad
  | _, _ => .bad
def eEqI (c : Nat) (F : List U → Store → R U) (fa fb : EV) : EV := fun ρ τ => (fa ρ τ).bind fun u τ1 => (fb ρ τ1).bind fun w τ2 => gEqI c F u w τ2
structure EqI (K : PySem.W.Frag) (C f : Addr) : Prop where
  at_ : PySem.W.findIn K (.ref C) "__eq__" = some (some (.ref f))
  fn : PySem.W.isFn K (.ref f) = true
def rEqI (G : Gd) (c : Nat) (F : List U → Store → R U) : R2 := fun x y H Q => ∃ z u w τ, z.H = H ∧ Cells G z τ ∧ RepU G z u x ∧ RepU G z w y ∧ Run G (RepU G) (gEqI c F u w τ) (fun _ _ _ => False) z Q
theorem op_eqI (S : EqI X.K (G.ca c) f) (Vf : FnV X.prog X.w X.K X.mg X.base k f fd ps (spV G 2 F)) (hb : Bnd0 fd ps 2) (hr : Room k X.A) (hgd : X.A.guards = some []) : OpR X (compareOp .Eq) (rEqI G c F) := by
  intro pins s σ H x y vx vy Q I rx ry h
  obtain ⟨z, u, w, τ, hz, cc, r1, r2, q⟩ := h
  subst hz
  match u, w, r1, r2, q with
  | .d (.ins c1 fs), .d (.ins c2 gs), .d (.ins (a := x) (ps := p1) h1 h2), .d (.ins (a := y) (ps := p2) h3 h4), w0 =>
    unfold gEqI at w0
    by_cases hc : c1 = c ∧ c2 = c
    · simp only at w0
      rw [if_pos hc] at w0
      obtain ⟨rfl, rfl⟩ := hc
      cases rx
      cases ry
      have hx := cc.sub _ _ h1
      have hy := cc.sub _ _ h3
      obtain ⟨ox, od, J⟩ := ins_inst I hx
      obtain ⟨oy, od', J'⟩ := ins_inst I hy
      obtain ⟨m, hF⟩ := I.fr
      cases eF : F [.d (.ins c2 fs), .d (.ins c2 gs)] τ with
      | bad => rw [eF] at w0; exact w0.elim
      | exc _ _ _ => rw [eF] at w0; exact w0.elim
      | ok uo τ1 =>
        rw [eF] at w0
        match uo, eF, w0 with
        | .d (.bl b), eF, w1 =>
          show wpAny (model X.prog X.w) X.A (richCompare .Eq (.ref x) (.ref y)) (EP X pins σ Q) X.xe s
          refine PySem.W.cmp_K (op := .Eq) (tb := .ref (G.ca c2)) hr.units0 hF I.ok.mod.kin J J'.type (by simp [PySem.W.notFirst]) S.at_ S.fn ?_
          refine wpAny_mono (run_sub (Q := fun v H' => v = .bl b ∧ Q (.bl b) H') Vf hr rfl hgd I (hb.to s [.ref x, .ref y] rfl) (vs := [.ref x, .ref y]) (.cons rfl (.cons rfl .nil)) ⟨z, [.d (.ins c2 fs), .d (.ins c2 gs)], τ, rfl, cc, .cons (.d (.ins h1 h2)) (.cons (.d (.ins h3 h4)) .nil), rfl, ?_⟩) (fun w s' hq => ?_) fun _ _ y => y
          · rw [eF]
            intro z' b f' c' rb
            cases rb with
            | d rb => cases rb; exact ⟨rfl, w1 z' _ f' c' (.d (.bl _))⟩
          · obtain ⟨v, H', I', rw', ev, q'⟩ := hq
            subst ev
            obtain rfl : w = Value.bool b := rw'
            exact ⟨.bl b, H', I', rfl, q'⟩
        | .loc _, eF, w1 => exact w1.elim
    · simp only at w0
      rw [if_neg hc] at w0
      exact w0.elim
end
end VL

/-! The value layer, N: isinstance(x, C), C an own class. -/
namespace VL
open PySem PySem.Spec PyProof.Rows L2 LamX C8
def gIsC (c : Nat) (u : U) (τ : Store) : R U := match u with
  | .d (.ins c' _) => if c' = c then .ok (.d (.bl true)) τ else .bad
  | _ => .bad
def eIsC (c : Nat) (f : EV) : EV := fun ρ τ => (f ρ τ).bind fun u τ1 => gIsC c u τ1
section
variable {X : Cx} {G : Gd} {W : WX} {e : Expr} {f : EV} {pos p p2 : Pos} {c : Nat} {y : Str}
theorem v_isC (hK : X.K = G.K) (C : InsC X.K (G.ca c)) (hg : Gl X "isinstance") (hm : X.mg "isinstance" = none) (hg2 : Gl X y) (hm2 : X.mg y = some (.ref (G.ca c))) (he : PE X e (VE G W f)) (hdb : (y == ("__debug__" : Str)) = false := by decide)
    (h1 : starEach [e, .Name y p2] X.env = (false, eval e X.env) :: starEach [.Name y p2] X.env := by rfl) (h2 : starEach [.Name y p2] X.env = (false, eval (.Name y p2) X.env) :: starEach [] X.env := by rfl) (hpl : (backTo pos (starEach [.Name y p2] X.env)).any (·.1) = false := by rfl) :
    PE X (.Call (.Name "isinstance" p) [e, .Name y p2] [] pos) (VE G W (eIsC c f)) := by
  have hy2 : PE X (.Name y p2) (tC (.ref (G.ca c))) := pe_glob hg2 hm2 rfl hdb
  refine pe_weak (pe_callB (call_isC C) hg hm rfl (pa_cons he (pa_cons hy2 pa_nil h2) h1) (by decide) (by decide) h1 hpl) fun σ H Q ⟨z, ρ, τ, hz, cc, en, q⟩ => ⟨z, ρ, τ, hz, cc, en, (Run.bind q).imp fun v H1 ⟨z1, u, τ1, e1, f1, c1, r1, q1⟩ => ?_⟩
  subst e1
  match u, r1, q1 with
  | .d (.ins c' fs), .d (.ins (a := a) (dx := dx) (ps := ps) h3 h4), w0 =>
    unfold gIsC at w0
    by_cases h : c' = c
    · simp only at w0
      rw [if_pos h] at w0
      subst h
      exact ⟨a, dx, ps, rfl, c1.sub _ _ h3, Run.ok (rep := RepU G) w0 c1 (.d (.bl _))⟩
    · simp only at w0
      rw [if_neg h] at w0
      exact w0.elim
end
end VL

/-! The value layer, O: classmethods read off a class. -/
namespace VL
open PySem PySem.Spec PyProof.Rows L2 LamX ClX
section
variable {X : Cx} {G : Gd} {W : WX} {k n c : Nat} {g p : Addr} {mc : Value} {fd : FuncData} {ps : List Str} {F : List U → Store → R U}
theorem run_cmV {q : Addr} {pins : List (Addr × Obj)} {σ : L2.St} {H : Hp} {s : Shared} {Q : VK} {us : List Value} {vs : List V} {E : XK} (Vf : FnV X.prog X.w X.K X.mg X.base k g fd ps (spV G n F)) (hr : Room k X.A) (hgd : X.A.guards = some [])
    (I : Inv X ((q, PySem.W.methodObj (.ref g) (.ref (G.ca c))) :: pins) σ H s) (hx : ∀ e s', L2.CX X.prog X.w X.stack H s E e s' → X.xe e s') (hb : BindsTo s fd ⟨.ref (G.ca c) :: us, []⟩ (ps.zip (.ref (G.ca c) :: us))) (r : Vals vs us) (h : spV G n F (.ref (G.ca c) :: vs) H Q E) :
    wpAny (model X.prog X.w) X.A (call (.ref q) us) (EP X pins σ Q) X.xe s := by
  have z : wpAny (model X.prog X.w) X.A (call (.ref q) us) (EP X ((q, PySem.W.methodObj (.ref g) (.ref (G.ca c))) :: pins) σ Q) X.xe s := by
    refine wpAny_call (PySem.W.method_call (pin_at I) (codeAny_mono (Vf.run X.A X.stack s H ⟨.ref (G.ca c) :: us, []⟩ (.ref (G.ca c) :: us) (.ref (G.ca c) :: vs) Q E hr hgd I.env0 hb (.cons rfl r) h) fun res s' hq => ?_))
    match res, hq with
    | .error e, hq => exact hx e s' hq
    | .ok (.ret u), hq => exact I.after hq
  exact thn z fun _ _ y => unpinE y
/-- C.m(e, ..), m a classmethod -/
def eCM (c n : Nat) (F : List U → Store → R U) (fs : EL) : EV := fun ρ τ => (fs ρ τ).bind fun us τ1 => if us.length + 1 = n then F (.d (.cls c) :: us) τ1 else .bad
theorem v_cm {y m : Str} {e : Expr} {es : List Expr} {fs : EL} {pos apos p2 : Pos} {pl : Sem Bool} (Vf : FnV X.prog X.w X.K X.mg X.base k g fd ps (spV G n F)) (hr : Room k X.A) (hgd : X.A.guards = some []) (tk : Takes X W) (hg : Gl X y) (hm : X.mg y = some (.ref (G.ca c))) (rd : CRead X.K (G.ca c) mc) (cm : CMet X.K (G.ca c) mc m p g)
    (hb : Bnd0 fd ps n) (ha : PA X (e :: es) (VA G W fs)) (hdb : (y == ("__debug__" : Str)) = false := by decide)
    (hst : starEach (e :: es) X.env = (false, eval e X.env) :: starEach es X.env := by rfl) (hpl : (backTo pos (starEach es X.env)).any (·.1) = false := by rfl)
    (ht : eval (.Call (.Attribute (.Name y p2) m apos) (e :: es) [] pos) X.env = (do
      let ov ← eval (.Name y p2) X.env
      standAt apos.atName
      let (f, first) ← holding [ov] (getMethod ov m pl)
      callWith pos f first (backTo pos (starEach (e :: es) X.env)) (backToKw pos (keywordEach [] X.env))) := by rfl) :
    PE X (.Call (.Attribute (.Name y p2) m apos) (e :: es) [] pos) (VE G W (eCM c n F fs)) := by
  refine ⟨fun pins s σ H Q I ⟨z, ρ, τ, hz, cc, en, q⟩ => ?_⟩
  refine PySem.W.methodCall_KW (pl := pl) (ld_glob I hg hm ?_ hdb) ht
  refine getmethcm_ok I rd cm fun s2 I2 => ?_
  have h1 := ha.run pos _ s2 σ H _ I2 ⟨z, ρ, τ, hz, cc, en, Run.bind q⟩
  refine callwith_cm I2 (base_none I (Nat.le_refl _)) cm.fi (thn h1 fun us s3 hq => ?_) hst hpl
  obtain ⟨vs, H2, I3, rv, z1, uu, τ1, e1, f1, c1, r1, q1⟩ := hq
  subst e1
  refine ⟨⟨pin_at I3, I3.kIn⟩, ?_⟩
  by_cases hl : uu.length + 1 = n
  · rw [if_pos hl] at q1
    refine run_cmV Vf hr hgd I3 (passAt tk σ _ _ _ · · I3) (hb.to s3 (.ref (G.ca c) :: us) (by rw [List.length_cons, ← rv.length, ← r1.length, hl])) rv ⟨z1, .d (.cls c) :: uu, τ1, rfl, c1, .cons (.d (.cls c)) r1, by simpa using hl, q1⟩
  · rw [if_neg hl] at q1; exact q1.elim
/-- C.m(q = e) -/
theorem run_cmK {q : Addr} {nm : Str} {pins : List (Addr × Obj)} {σ : L2.St} {H : Hp} {s : Shared} {Q : VK} {u : Value} {v : V} {E : XK} (Vf : FnV X.prog X.w X.K X.mg X.base k g fd ps (spV G n F)) (hr : Room k X.A) (hgd : X.A.guards = some [])
    (I : Inv X ((q, PySem.W.methodObj (.ref g) (.ref (G.ca c))) :: pins) σ H s) (hx : ∀ e s', L2.CX X.prog X.w X.stack H s E e s' → X.xe e s') (hb : BindsTo s fd ⟨[.ref (G.ca c)], [(nm, u)]⟩ (ps.zip [.ref (G.ca c), u])) (r : RelV v u) (h : spV G n F [.ref (G.ca c), v] H Q E) :
    wpAny (model X.prog X.w) X.A (call (.ref q) [] [(nm, u)]) (EP X pins σ Q) X.xe s := by
  have z : wpAny (model X.prog X.w) X.A (call (.ref q) [] [(nm, u)]) (EP X ((q, PySem.W.methodObj (.ref g) (.ref (G.ca c))) :: pins) σ Q) X.xe s := by
    refine wpAny_call (PySem.W.method_call (pin_at I) (codeAny_mono (Vf.run X.A X.stack s H ⟨[.ref (G.ca c)], [(nm, u)]⟩ [.ref (G.ca c), u] [.ref (G.ca c), v] Q E hr hgd I.env0 hb (.cons rfl (.cons r .nil)) h) fun res s' hq => ?_))
    match res, hq with
    | .error e, hq => exact hx e s' hq
    | .ok (.ret u), hq => exact I.after hq
  exact thn z fun _ _ y => unpinE y
def eCMK (c : Nat) (F : List U → Store → R U) (f : EV) : EV := fun ρ τ => (f ρ τ).bind fun u τ1 => F [.d (.cls c), u] τ1
theorem v_cmK {y m nm : Str} {e : Expr} {f : EV} {pos apos p2 kpos : Pos} {pl : Sem Bool} (Vf : FnV X.prog X.w X.K X.mg X.base k g fd ps (spV G 2 F)) (hr : Room k X.A) (hgd : X.A.guards = some []) (tk : Takes X W) (hg : Gl X y) (hm : X.mg y = some (.ref (G.ca c))) (rd : CRead X.K (G.ca c) mc) (cm : CMet X.K (G.ca c) mc m p g)
    (hb : ∀ (s : Shared) (a b : Value), BindsTo s fd ⟨[a], [(nm, b)]⟩ (ps.zip [a, b])) (ha : PE X e (VE G W f)) (hdb : (y == ("__debug__" : Str)) = false := by decide)
    (hall : (backToKw pos (keywordEach [⟨some nm, e, kpos⟩] X.env)).all (·.1.isSome) = true := by rfl) (hks : (backToKw pos (keywordEach [⟨some nm, e, kpos⟩] X.env)).filterMap (·.1) = [nm] := by rfl)
    (hpl : ((backTo pos (starEach [] X.env)).any (·.1) || (backToKw pos (keywordEach [⟨some nm, e, kpos⟩] X.env)).any (·.1.isNone)) = false := by rfl)
    (ht : eval (.Call (.Attribute (.Name y p2) m apos) [] [⟨some nm, e, kpos⟩] pos) X.env = (do
      let ov ← eval (.Name y p2) X.env
      standAt apos.atName
      let (f, first) ← holding [ov] (getMethod ov m pl)
      callWith pos f first (backTo pos (starEach [] X.env)) (backToKw pos (keywordEach [⟨some nm, e, kpos⟩] X.env))) := by rfl) :
    PE X (.Call (.Attribute (.Name y p2) m apos) [] [⟨some nm, e, kpos⟩] pos) (VE G W (eCMK c F f)) := by
  refine ⟨fun pins s σ H Q I ⟨z, ρ, τ, hz, cc, en, q⟩ => ?_⟩
  refine PySem.W.methodCall_KW (pl := pl) (ld_glob I hg hm ?_ hdb) ht
  refine getmethcm_ok I rd cm fun s2 I2 => ?_
  have h1 := (vp_cons (nm := some nm) (kpos := kpos) ha vp_nil).run pos _ s2 σ H (fun vs H1 => ∃ v z1 u τ1, vs = [v] ∧ z1.H = H1 ∧ Cells G z1 τ1 ∧ RepU G z1 u v ∧ Run G (RepU G) (F [.d (.cls c), u] τ1) (fun c d H' => W c d σ H') z1 Q) I2 ⟨z, ρ, τ, hz, cc, en, by
    show Run G (RepUs G) ((elCons f elNil) ρ τ) _ z _
    unfold elCons elNil
    unfold eCMK at q
    cases ef : f ρ τ with
    | bad => rw [ef] at q; exact q.elim
    | exc e1 fs τ1 => rw [ef] at q; exact q
    | ok u τ1 =>
      rw [ef] at q
      intro z' b f' c' rb
      cases rb with
      | cons r1 rr =>
        cases rr
        exact ⟨_, z', u, τ1, rfl, rfl, c', r1, Run.pre q f'⟩⟩
  refine PySem.W.callWith_of hpl (PySem.W.keeps_M (q := s.heap.objs.size) (f := g) (self := .ref (G.ca c)) cm.fi) (evalArgs_kw2_nil hall (thn h1 fun us s3 hq => ?_))
  obtain ⟨vs, H2, I3, rv, v, z1, u, τ1, e1, e2, c1, r1, q1⟩ := hq
  subst e1
  subst e2
  cases rv with
  | cons ru rr =>
    cases rr
    refine ⟨⟨pin_at I3, I3.kIn⟩, ?_⟩
    rw [hks]
    exact run_cmK Vf hr hgd I3 (passAt tk σ _ _ _ · · I3) (hb s3 _ _) ru ⟨z1, [.d (.cls c), u], τ1, rfl, c1, .cons (.d (.cls c)) (.cons r1 .nil), rfl, q1⟩
end
end VL

/-! The value layer, P: a local name that holds a class, called. -/
namespace VL
open PySem PySem.Spec PyProof.Rows L2 LamX
def eMakeL (i c n m : Nat) (F : List U → Store → R U) (os : List Nat) (fs fk : EL) : EV := fun ρ τ => match ρ[i]? with
  | some (some (.d (.cls c'))) => if c' = c then eMake c n m F os fs fk ρ τ else .bad
  | _ => .bad
section
variable {X : Cx} {G : Gd} {W : WX} {k n : Nat} {f : Addr} {fd : FuncData} {ps ks : List Str} {F : List U → Store → R U} {os : List Nat} {c : Nat}
theorem v_makeL {i m a : Nat} {x : Str} {p pos : Pos} {e : Expr} {es : List Expr} {kws : List Keyword} {fs fk : EL} (M : Mk X.K (G.ca c) f) (V : FnV X.prog X.w X.K X.mg X.base k f fd ps (spV G n F)) (hr : Room (k + 1) X.A) (hgd : X.A.guards = some []) (tk : Takes X W) (hN : X.N[i]? = some x) (hv : Vis X.env.scope x)
    (hb : Bnd X.K fd ps (a + 1) ks [] os) (hps : ps.length = n) (hmk : ks.length = m) (hos : ∀ l : List U, l.length = a + 1 + m → (pickL os l).length = n)
    (ha : PA X (e :: es) (VA G W fs)) (hkw : PK X kws (VA G W fk)) (hall : (backToKw pos (keywordEach kws X.env)).all (·.1.isSome) = true := by rfl) (hks : (backToKw pos (keywordEach kws X.env)).filterMap (·.1) = ks := by rfl)
    (hdb : (x == ("__debug__" : Str)) = false := by decide) (hcd : (x == ("__classdict__" : Str)) = false := by decide) (he : starEach (e :: es) X.env = (false, eval e X.env) :: starEach es X.env := by rfl)
    (hpl : ((backTo pos (starEach (e :: es) X.env)).any (·.1) || (backToKw pos (keywordEach kws X.env)).any (·.1.isNone)) = false := by rfl) : PE X (.Call (.Name x p) (e :: es) kws pos) (VE G W (eMakeL i c a m F os fs fk)) := by
  refine ⟨fun pins s σ H Q I ⟨z, ρ, τ, hz, cc, en, q⟩ => ?_⟩
  unfold eMakeL at q
  cases e0 : ρ[i]? with
  | none => rw [e0] at q; exact q.elim
  | some o =>
    match o, e0, q with
    | none, e0, q => rw [e0] at q; exact q.elim
    | some (.loc _), e0, q => rw [e0] at q; exact q.elim
    | some (.d d), e0, q =>
      cases d with
      | cls c' =>
        rw [e0] at q
        simp only at q
        by_cases hc : c' = c
        · rw [if_pos hc] at q
          subst hc
          obtain ⟨v, hs, rv⟩ := en.at_ i _ e0
          have ev : v = .ref (G.ca c') := by
            cases rv with
            | d rv => cases rv; rfl
          subst ev
          refine wpAny_Call_Name_kw (thn ((pe_var (pos := p) hN hv hdb hcd).run pins s σ H (fun v H1 => v = .ref (G.ca c') ∧ H1 = H) I ⟨_, hs, rfl, rfl⟩) fun u s1 ⟨v, H1, I1, r1, q1⟩ => ?_)
          obtain ⟨rfl, rfl⟩ := q1
          cases r1
          have h1 := ha.run pos pins s1 σ H1 _ I1 ⟨z, ρ, τ, hz, cc, en, Run.bind q⟩
          refine PySem.W.callWith_KW (h₀ := X.base) I1.ok.mod.kin M.kp hall (thn h1 fun us s2 hq => ?_) hpl he
          obtain ⟨vs, H2, I2, r, z1, uu, τ1, e1, f1, c1, r1, q1⟩ := hq
          subst e1
          have h2 := hkw.run pos pins s2 σ z1.H _ I2 ⟨z1, ρ, τ1, rfl, c1, en.fut f1, Run.bind q1⟩
          refine thn h2 fun ws s3 hq2 => ?_
          obtain ⟨xs, H3, I3, r', z2, wu, τ2, e2, f2, c2, r2, q2⟩ := hq2
          subst e2
          refine ⟨I3.kIn, ?_⟩
          rw [hks]
          exact make_run M V hr hgd tk hb I3 r r' c2 (r1.fut f2) r2 hps hmk hos q2
        · rw [if_neg hc] at q; exact q.elim
      | _ => rw [e0] at q; exact q.elim
end
end VL

/-! The value layer, Q: x != y by the own __eq__. -/
namespace VX
open PySem PySem.W PySem.Calls PyProof.Rows
open Sem (wp)
section
variable {prog : Program} {w : World} {A : Around} {E : Value → Shared → Prop} {s : Shared} {K : Frag} {C x y f : Addr} {ox oy : Obj} {od od' : Option Obj}
theorem ne_entry (hu : A.units < cLine) (X : K.In s.heap) (I : InstAt s.heap x ox C od) (hs : findIn K (.ref C) "__eq__" = some (some (.ref f))) (hf : isFn K (.ref f) = true) {Q : Fin → Shared → Prop}
    (hcall : wpAny (model prog w) A (call (.ref f) [.ref x, .ref y]) (fun v s' => ∃ b, v = .bool b ∧ Q (.done (.ret (.bool (!b)))) s') E s) :
    wpAny (model prog w) A (Builtin.«object.__ne__» ⟨[.ref x, .ref y], []⟩) Q E s := by
  obtain ⟨h, g, d, t, os⟩ := s
  unfold Builtin.«object.__ne__»
  repeat (first
    | with_reducible refine wpAny_cRoomFor hu ?_
    | (refine wpAny_bind (m := callSpecialIfBound? (.ref x) (Str.ofString "__eq__") [.ref y])
        (ifBound_K X I hs hf (wpAny_mono hcall (fun r s' hr => by
          obtain ⟨b, rfl, hq⟩ := hr
          repeat (first | exact hq | exact wpAny_pure hq | exact wpAny_truthy_bool hq | (refine wpAny_bind (m := truthy (.bool _)) (wpAny_truthy_bool ?_)) | wp_step)) fun _ _ e => e)))
    | wp_step)
theorem ne_K (hu : A.units + 1 < cLine) (X : K.In s.heap) (I : InstAt s.heap x ox C od) (I' : InstAt s.heap y oy C od') (hn : findIn K (.ref C) "__ne__" = some (some (.builtin "object.__ne__"))) (hm : mroIn K C (.type "object") = some true)
    (hs : findIn K (.ref C) "__eq__" = some (some (.ref f))) (hf : isFn K (.ref f) = true) {Q : Value → Shared → Prop}
    (hcall : wpAny (model prog w) A.in1 (call (.ref f) [.ref x, .ref y]) (fun v s' => ∃ b, v = .bool b ∧ Q (.bool (!b)) s') E s) : wpAny (model prog w) A (richCompare .NotEq (.ref x) (.ref y)) Q E s := by
  have one : wpAny (model prog w) A (tryCompare (.ref x) "__ne__" (.ref y)) (fun r s' => ∃ v, r = some v ∧ Q v s') E s := by
    unfold tryCompare
    have sp : Looks (model prog w) s.heap (specialOf (.ref x) "__ne__") (some (.builtin "object.__ne__")) := I.type.andThen (looks_findIn X hn)
    have iv : Looks (model prog w) s.heap (isInstance (.ref x) (.type "object")) true := I.type.andThen (looks_mroIn X hm)
    refine wpAny_bind (NtL.csib sp (PySem.F.cmp_object.ne.bind _) (wpAny_call (codeAny_call_builtin PySem.F.cmp_object.ne.plain PySem.F.cmpEntry_ne (@check_slot (model prog w) _ _ _ "object.__ne__" "object" "__ne__" (.ref x) [.ref y] [] _ PySem.F.cmpKind_ne PySem.F.cmpSplit_ne iv (PySem.F.cmpArgs_ne _ _) ?_))))
    refine ne_entry (A := A.in1) hu X I hs hf (wpAny_mono hcall (fun v s' hv => ?_) fun _ _ e => e)
    obtain ⟨b, rfl, hq⟩ := hv
    first | exact ⟨b, rfl, wpAny_pure ⟨_, rfl, hq⟩⟩ | exact ⟨b, rfl, wpAny_pure (wpAny_pure ⟨_, rfl, hq⟩)⟩ | exact ⟨b, rfl, _, rfl, hq⟩
  unfold richCompare
  simp only [oneThing_ref]
  refine wpAny_holding (wpAny_bind (wpAny_cRoomFor (Nat.lt_of_succ_lt hu) ?_))
  rw [cmpInfo_NotEq]
  dsimp only
  refine wpAny_bind (I.type.here (wpAny_bind (I'.type.here ?_)))
  rw [show (Value.ref C != Value.ref C) = false from by simp]
  simp only [Bool.false_eq_true, if_false]
  refine wpAny_bind (wpAny_pure ?_)
  simp only [Bool.false_eq_true, if_false]
  refine wpAny_bind (wpAny_mono one (fun v s' hv => ?_) fun _ _ e => e)
  obtain ⟨v, rfl, hq⟩ := hv
  first | exact wpAny_pure hq | exact wpAny_pure (wpAny_pure hq)
end
end VX
namespace VL
open PySem PySem.Spec PyProof.Rows L2 LamX
/-- x != y by the own __eq__ -/
def gNeI (c : Nat) (F : List U → Store → R U) (u w : U) (τ : Store) : R U := match u, w with
  | .d (.ins c1 fs), .d (.ins c2 gs) => if c1 = c ∧ c2 = c then match F [.d (.ins c1 fs), .d (.ins c2 gs)] τ with
    | .ok (.d (.bl b)) τ1 => .ok (.d (.bl (!b))) τ1
    | _ => .bad
    else .bad
  | _, _ => .bad
def eNeI (c : Nat) (F : List U → Store → R U) (fa fb : EV) : EV := fun ρ τ => (fa ρ τ).bind fun u τ1 => (fb ρ τ1).bind fun w τ2 => gNeI c F u w τ2
structure NeI (K : PySem.W.Frag) (C f : Addr) : Prop where
  at_ : PySem.W.findIn K (.ref C) "__eq__" = some (some (.ref f))
  fn : PySem.W.isFn K (.ref f) = true
  ne : PySem.W.findIn K (.ref C) "__ne__" = some (some (.builtin "object.__ne__"))
  hm : PySem.W.mroIn K C (.type "object") = some true
def rNeI (G : Gd) (c : Nat) (F : List U → Store → R U) : R2 := fun x y H Q => ∃ z u w τ, z.H = H ∧ Cells G z τ ∧ RepU G z u x ∧ RepU G z w y ∧ Run G (RepU G) (gNeI c F u w τ) (fun _ _ _ => False) z Q
section
variable {X : Cx} {G : Gd} {W : WX} {a b : Expr} {fa fb : EV} {pos : Pos} {c k : Nat} {f : Addr} {fd : FuncData} {ps : List Str} {F : List U → Store → R U}
theorem op_neI (S : NeI X.K (G.ca c) f) (Vf : FnV X.prog X.w X.K X.mg X.base k f fd ps (spV G 2 F)) (hb : Bnd0 fd ps 2) (hr : Room (k + 1) X.A) (hgd : X.A.guards = some []) : OpR X (compareOp .NotEq) (rNeI G c F) := by
  intro pins s σ H x y vx vy Q I rx ry h
  obtain ⟨z, u, w, τ, hz, cc, r1, r2, q⟩ := h
  subst hz
  match u, w, r1, r2, q with
  | .d (.ins c1 fs), .d (.ins c2 gs), .d (.ins (a := x) (ps := p1) h1 h2), .d (.ins (a := y) (ps := p2) h3 h4), w0 =>
    unfold gNeI at w0
    by_cases hc : c1 = c ∧ c2 = c
    · simp only at w0
      rw [if_pos hc] at w0
      obtain ⟨rfl, rfl⟩ := hc
      cases rx
      cases ry
      have hx := cc.sub _ _ h1
      have hy := cc.sub _ _ h3
      obtain ⟨ox, od, J⟩ := ins_inst I hx
      obtain ⟨oy, od', J'⟩ := ins_inst I hy
      cases eF : F [.d (.ins c2 fs), .d (.ins c2 gs)] τ with
      | bad => rw [eF] at w0; exact w0.elim
      | exc _ _ _ => rw [eF] at w0; exact w0.elim
      | ok uo τ1 =>
        rw [eF] at w0
        match uo, eF, w0 with
        | .d (.bl b), eF, w1 =>
          show wpAny (model X.prog X.w) X.A (richCompare .NotEq (.ref x) (.ref y)) (EP X pins σ Q) X.xe s
          refine VX.ne_K (by have := hr.units; omega) I.kIn J J' S.ne S.hm S.at_ S.fn ?_
          refine wpAny_mono (run_sub (Q := fun v H' => v = .bl b ∧ Q (.bl (!b)) H') Vf hr.in1 rfl (by rw [in1_guards]; exact hgd) I (hb.to s [.ref x, .ref y] rfl) (vs := [.ref x, .ref y]) (.cons rfl (.cons rfl .nil)) ⟨z, [.d (.ins c2 fs), .d (.ins c2 gs)], τ, rfl, cc, .cons (.d (.ins h1 h2)) (.cons (.d (.ins h3 h4)) .nil), rfl, ?_⟩) (fun w s' hq => ?_) fun _ _ y => y
          · rw [eF]
            intro z' b f' c' rb
            cases rb with
            | d rb => cases rb; exact ⟨rfl, w1 z' _ f' c' (.d (.bl _))⟩
          · obtain ⟨v, H', I', rw', ev, q'⟩ := hq
            subst ev
            obtain rfl : w = Value.bool b := rw'
            exact ⟨b, rfl, .bl (!b), H', I', rfl, q'⟩
        | .loc _, eF, w1 => exact w1.elim
    · simp only at w0
      rw [if_neg hc] at w0
      exact w0.elim
theorem v_eqI (S : EqI X.K (G.ca c) f) (Vf : FnV X.prog X.w X.K X.mg X.base k f fd ps (spV G 2 F)) (hb : Bnd0 fd ps 2) (hr : Room k X.A) (hgd : X.A.guards = some []) (ha : PE X a (VE G W fa)) (hbb : PE X b (VE G W fb)) (hm : behindInMarks .Eq b = false := by rfl) :
    PE X (.Compare a [.Eq] [b] pos) (VE G W (eEqI c F fa fb)) :=
  ve_step2 (pe_cmpR (op_eqI S Vf hb hr hgd) ha hbb hm) (r := rEqI G c F) (fun _ _ _ h => h) fun z u w τ x y W Q cc r1 r2 q => ⟨z, u, w, τ, rfl, cc, r1, r2, by
    unfold gEqI at q ⊢
    split at q
    · split at q
      · rename_i h
        rw [if_pos h]
        split at q
        · exact q
        · exact q.elim
      · exact q.elim
    · exact q.elim⟩
theorem v_neI (S : NeI X.K (G.ca c) f) (Vf : FnV X.prog X.w X.K X.mg X.base k f fd ps (spV G 2 F)) (hb : Bnd0 fd ps 2) (hr : Room (k + 1) X.A) (hgd : X.A.guards = some []) (ha : PE X a (VE G W fa)) (hbb : PE X b (VE G W fb)) (hm : behindInMarks .NotEq b = false := by rfl) :
    PE X (.Compare a [.NotEq] [b] pos) (VE G W (eNeI c F fa fb)) :=
  ve_step2 (pe_cmpR (op_neI S Vf hb hr hgd) ha hbb hm) (r := rNeI G c F) (fun _ _ _ h => h) fun z u w τ x y W Q cc r1 r2 q => ⟨z, u, w, τ, rfl, cc, r1, r2, by
    unfold gNeI at q ⊢
    split at q
    · split at q
      · rename_i h
        rw [if_pos h]
        split at q
        · exact q
        · exact q.elim
      · exact q.elim
    · exact q.elim⟩
end
end VL

/-! The value layer, R: str(x). -/
namespace VL
open PySem PySem.Spec PyProof.Rows L2 LamX
section
variable {X : Cx} {G : Gd} {W : WX} {e : Expr} {fe : EV} {pos p : Pos} {c k : Nat} {f : Addr} {fd : FuncData} {ps : List Str} {F : List U → Store → R U}
theorem v_strI (S : StrI X.K (G.ca c) f) (Vf : FnV X.prog X.w X.K X.mg X.base k f fd ps (spV G 1 F)) (hb : Bnd0 fd ps 1) (hr : Room (k + 2) X.A) (hgd : X.A.guards = some []) (hg : Gl X "str") (hm : X.mg "str" = none) (he : PE X e (VE G W fe))
    (h1 : starEach [e] X.env = (false, eval e X.env) :: starEach [] X.env := by rfl) (hpl : (backTo pos (starEach [] X.env)).any (·.1) = false := by rfl) : PE X (.Call (.Name "str" p) [e] [] pos) (VE G W (eStrI c F fe)) := by
  refine pe_weak (pe_callTy (call_strI S Vf hb hr hgd) hg hm rfl (pa_cons he pa_nil h1) (by decide) (by decide) h1 hpl) fun σ H Q ⟨z, ρ, τ, hz, cc, en, q⟩ => ⟨z, ρ, τ, hz, cc, en, (Run.bind q).imp fun v H1 ⟨z1, u, τ1, e1, f1, c1, r1, q1⟩ => ?_⟩
  subst e1
  match u, r1, q1 with
  | .d (.ins c' fs), .d rv, w0 =>
    by_cases h : c' = c
    · subst h
      refine ⟨z1, fs, v, τ1, rfl, c1, rv, rfl, ?_⟩
      unfold gStrI at w0 ⊢
      simp only [if_true] at w0 ⊢
      split at w0
      · exact w0
      · exact w0.elim
    · unfold gStrI at w0
      simp only at w0
      rw [if_neg h] at w0
      exact w0.elim
end
end VL

/-! The value layer, S: str(i), int(text), f-strings. -/
namespace VL
open PySem PySem.Spec PyProof.Rows L2 LamX
/-- an int's text -/
def itx (i : Int) : T := (PySem.Str.ofString (toString i)).cps.toList
theorem itx_s (i : Int) : T.s (itx i) = PySem.Str.ofString (toString i) := T.of _
def fStr : D → Store → R U
  | .int i, τ => if i.natAbs.log2 < 1920 then .ok (.d (.str (itx i))) τ else .bad
  | .str t, τ => .ok (.d (.str t)) τ
  | _, _ => .bad
section
variable {X : Cx} {G : Gd} {W : WX} {e : Expr} {es : List Expr} {f : EV} {pos : Pos}
def rStr : List V → Hp → VK → Prop := fun xs H Q => (∃ i : Int, xs = [.int i] ∧ i.natAbs.log2 < 1920 ∧ Q (.str (PySem.Str.ofString (toString i))) H) ∨ ∃ a, xs = [.str a] ∧ Q (.str a) H
theorem call_strB : CallR X (.type "str") rStr := CallR.or call_str_int SkE.call_str_str
theorem c_str : CallS G (c1 fStr) rStr := c1_s fun z d τ v W Q c rh q => by
  cases d with
  | int i =>
    rw [rh.int_]
    have q : Run G (RepU G) (if i.natAbs.log2 < 1920 then .ok (.d (.str (itx i))) τ else .bad) W z Q := q
    by_cases h : i.natAbs.log2 < 1920
    · rw [if_pos h] at q
      exact .inl ⟨i, rfl, h, Run.ok (rep := RepU G) q c (.d (by rw [← itx_s]; exact .str _))⟩
    · rw [if_neg h] at q; exact q.elim
  | str t =>
    rw [rh.str_]
    exact .inr ⟨_, rfl, Run.ok (rep := RepU G) q c (.d (.str _))⟩
  | _ => exact q.elim
def fIntT : D → Store → R U
  | .str t, τ => match PySem.intText? t.s with
    | some n => if t.length ≤ 640 then .ok (.d (.int n)) τ else .bad
    | none => .bad
  | d, τ => fInt d τ
def rInt : List V → Hp → VK → Prop := fun xs H Q => ((∃ i, xs = [.int i] ∧ Q (.int i) H) ∨ ∃ k, xs = [.bl k] ∧ Q (.int (if k then 1 else 0)) H) ∨ ∃ a n, xs = [.str a] ∧ PySem.intText? a = some n ∧ a.length ≤ 640 ∧ Q (.int n) H
theorem call_intB : CallR X (.type "int") rInt := CallR.or call_int1 call_int_str
theorem c_intT : CallS G (c1 fIntT) rInt := c1_s fun z d τ v W Q c rh q => by
  have gen : Run G (RepU G) (fInt d τ) W z Q → rInt [v] z.H Q := fun q => .inl (c_int z [d] τ [v] W Q c (.cons rh .nil) q)
  cases d with
  | str t =>
    rw [rh.str_]
    have q : Run G (RepU G) (match PySem.intText? t.s with
      | some n => if t.length ≤ 640 then .ok (.d (.int n)) τ else .bad
      | none => .bad) W z Q := q
    cases e : PySem.intText? t.s with
    | none => rw [e] at q; exact q.elim
    | some n =>
      rw [e] at q
      simp only at q
      by_cases h : t.length ≤ 640
      · rw [if_pos h] at q
        exact .inr ⟨_, n, rfl, e, by rw [T.len]; exact h, Run.ok (rep := RepU G) q c (.d (.int _))⟩
      · rw [if_neg h] at q; exact q.elim
  | _ => exact gen q
/-- f'..{x}..' -/
def gFmt (u : U) (τ : Store) : R U := match u with
  | .d (.int i) => if i.natAbs.log2 < 1920 then .ok (.d (.str (itx i))) τ else .bad
  | .d (.str t) => if t.length ≤ sizeLine then .ok (.d (.str t)) τ else .bad
  | _ => .bad
def eFmt (f : EV) : EV := fun ρ τ => (f ρ τ).bind gFmt
theorem v_fmt (he : PE X e (VE G W f)) : PE X (.FormattedValue e (-1) none pos) (VE G W (eFmt f)) :=
  ve_step1 (pe_fmt he) (r := fun x H Q => (∃ y : Str, x = .str y ∧ y.length ≤ sizeLine ∧ Q (.str y) H) ∨ ∃ i : Int, x = .int i ∧ i.natAbs.log2 < 1920 ∧ Q (.str (PySem.Str.ofString (toString i))) H) (fun _ _ _ h => h) fun z u τ v W Q c r q => by
    match u, r, q with
    | .d (.int i), .d r, q =>
      cases r
      unfold gFmt at q
      simp only at q
      by_cases h : i.natAbs.log2 < 1920
      · rw [if_pos h] at q
        exact .inr ⟨i, rfl, h, Run.ok (rep := RepU G) q c (.d (by rw [← itx_s]; exact .str _))⟩
      · rw [if_neg h] at q; exact q.elim
    | .d (.str t), .d r, q =>
      cases r
      unfold gFmt at q
      simp only at q
      by_cases h : t.length ≤ sizeLine
      · rw [if_pos h] at q
        exact .inl ⟨_, rfl, by rw [T.len]; exact h, Run.ok (rep := RepU G) q c (.d (.str _))⟩
      · rw [if_neg h] at q; exact q.elim
/-- the parts' texts one behind the other -/
def jsGo : List EV → T → Env → Store → R U
  | [], acc, _, τ => .ok (.d (.str acc)) τ
  | f :: fs, acc, ρ, τ => (f ρ τ).bind fun u τ1 => match u with
    | .d (.str t) => if (acc ++ t).length ≤ sizeLine then jsGo fs (acc ++ t) ρ τ1 else .bad
    | _ => .bad
def eJs (fs : List EV) : EV := fun ρ τ => jsGo fs [] ρ τ
inductive VJ (X : Cx) (G : Gd) (W : WX) : List Expr → List EV → Prop
  | nil : VJ X G W [] []
  | cons {e : Expr} {f : EV} {es : List Expr} {fs : List EV} (h : PE X e (VE G W f)) (r : VJ X G W es fs) : VJ X G W (e :: es) (f :: fs)
theorem VJ.pj {fs : List EV} (h : VJ X G W es fs) : PJ X es (fs.map fun f => VE G W f) := by
  induction h with
  | nil => exact .nil
  | cons h r ih => exact .cons h ih
theorem T.app (a b : T) : T.s a ++ T.s b = T.s (a ++ b) := by
  first
  | rfl
  | (show (⟨_⟩ : Str) = ⟨_⟩; simp [T.s])
theorem js_run : ∀ (fs : List EV) (acc : T) {σ : L2.St} {z : Z} {ρ : Env} {τ : Store} {Q : VK}, Cells G z τ → EnvR G z ρ σ → Run G (RepU G) (jsGo fs acc ρ τ) (fun c d H' => W c d σ H') z Q →
    tJs (fs.map fun f => VE G W f) acc.s σ z.H (fun out H1 => Q (.str out) H1)
  | [], acc, σ, z, ρ, τ, Q, c, en, q => Run.ok (rep := RepU G) q c (.d (.str _))
  | f :: fs, acc, σ, z, ρ, τ, Q, c, en, q => by
    refine ⟨z, ρ, τ, rfl, c, en, (Run.bind q).imp fun v H1 ⟨z1, u, τ1, e1, f1, c1, r1, q1⟩ => ?_⟩
    subst e1
    match u, r1, q1 with
    | .d (.str t), .d r, q1 =>
      cases r
      simp only at q1
      by_cases h : (acc ++ t).length ≤ sizeLine
      · rw [if_pos h] at q1
        refine ⟨_, rfl, by rw [T.app, T.len]; exact h, ?_⟩
        rw [T.app]
        exact js_run fs (acc ++ t) c1 (en.fut f1) q1
      · rw [if_neg h] at q1; exact q1.elim
theorem v_js {v1 v2 : Expr} {rest : List Expr} {fs : List EV} (h : VJ X G W (v1 :: v2 :: rest) fs) : PE X (.JoinedStr (v1 :: v2 :: rest) pos) (VE G W (eJs fs)) :=
  pe_weak (pe_joined h.pj) fun σ H Q ⟨z, ρ, τ, hz, c, en, q⟩ => by
    subst hz
    exact js_run fs [] c en q
end
end VL

/-! The value layer, T: try .. except X as n: y = n; the error is kept. -/
namespace VL
open PySem PySem.Spec PyProof.Rows L2 LamX
section
variable {X : Cx} {pins : List (Addr × Obj)} {σ : L2.St} {H : Hp} {s : Shared}
/-- a pinned error is tracked -/
theorem keep_exn {a C dd : Addr} {oe : Obj} {vs : Array Value} (I : Inv X ((a, oe) :: pins) σ H s) (hc : oe.cls = .ref C) (hd : oe.dict = some dd) (hf : oe.data = .fields vs) (new0 : ∀ o, X.s_0.heap.get? a ≠ some o) (np : ∀ p ∈ X.pn ++ pins, p.1 ≠ a) :
    Inv X pins σ (upd H a (exnO C a dd)) s := by
  obtain ⟨ha, hn, nL, nF, ncell⟩ := I.pin (a, oe) (List.mem_append_right _ List.mem_cons_self)
  have ne : ∀ b o, H b = some o → b ≠ a := fun b o e q => by rw [q, hn] at e; cases e
  refine ⟨I.ok, I.os, I.bare, ⟨I.base.keep, I.base.slot, fun b o e n hx => ?_, I.base.there, fun b xs e => ?_, fun b o u e => ?_, fun b qs e => ?_⟩, I.loc, I.cell, ?_, fun y c e => ?_, fun p hp => ?_, fun b o e => ?_, I.len⟩
  · rw [upd_ne fun q => new0 o (by rw [← q]; exact e)]
    exact I.base.free b o e n hx
  · have q := I.base.tups b xs e
    exact (upd_ne (ne b _ q)).trans q
  · have q := I.base.frzs b o u e
    exact (upd_ne (ne b _ q)).trans q
  · obtain ⟨m, q⟩ := I.base.tbls b qs e
    exact ⟨m, (upd_ne (ne b _ q)).trans q⟩
  · exact (upd_ne (Ne.symm nL)).trans I.free
  · refine (upd_ne fun q => ?_).trans (I.freeC y c e)
    obtain ⟨v, w⟩ := I.cell y c e
    rw [q] at w
    obtain ⟨o, h1, h2⟩ := w
    have h3 : some oe = some o := ha.symm.trans h1
    cases h3
    exact ncell v h2
  · obtain ⟨e1, e2, e3⟩ := I.pin p (by
      rcases List.mem_append.mp hp with m | m
      · exact List.mem_append_left _ m
      · exact List.mem_append_right _ (List.mem_cons_of_mem _ m))
    exact ⟨e1, (upd_ne (np p hp)).trans e2, e3⟩
  · by_cases hb : b = a
    · rw [hb, upd_same] at e
      cases e
      rw [hb]
      exact ⟨⟨oe, vs, ha, hc, hd, hf⟩, ⟨oe, ha⟩, fun h1 h2 ⟨o1, v1, q1, q2⟩ k => ⟨o1, v1, k _ q1, q2⟩⟩
    · rw [upd_ne hb] at e
      refine (I.hok b o e).stay (fun c w hcc q => q) (fun c q => ?_) fun c xs q => ?_
      · exact (upd_ne (ne c _ q)).trans q
      · exact (upd_ne (ne c _ q)).trans q
end
/-- what the clause wishes: the suite ends, and the error stays -/
def wKeep (K : PySem.W.Frag) (cl : Value) (i : Nat) (ts : Addr → Value → Option Addr → TS) (Wo : WX) (D : Ends) : WX := fun cls d σ H =>
  ∃ b, PySem.W.exmOne K cls cl = some b ∧ (b = false → Wo cls d σ H) ∧
    (b = true → ∃ C dd, cls = .ref C ∧ d = some dd ∧ ∀ a, H a = none → ts a cls d { nx := fun σ1 H1 => D.nx (σ1.set i none) (upd H1 a (exnO C a dd)), rt := fun _ _ => False, bk := fun _ _ => False, ct := fun _ _ => False } (σ.set i (some (.ref a))) H)
section
variable {X : Cx} {x n : Str} {cl : Value} {i : Nat} {body sui : List Stmt} {b0 : Stmt} {np pos pos1 : Pos} {tb : WX → TS} {ts : Addr → Value → Option Addr → TS} {Wo : WX}
theorem ps_try_keep (hex : X.ex = []) (hs : X.stack = X.env :: X.outer) (hf : X.env.frame = some X.env.locals) (hN : X.N.Nodup) (hi : X.N[i]? = some n) (hln : X.env.kindOf n = some .local) (hc : Names X x cl) (tk : Takes X Wo)
    (hb : ∀ (W : WX) (pn : List (Addr × Obj)) (xe : Value → Shared → Prop), Takes (X.tr pn xe) W → PassesOwn (model X.prog X.w) X.A X.env xe → PSs (X.tr pn xe) body (tb W))
    (hsu : ∀ (a : Addr) (oe : Obj) (cls : Value) (d : Option Addr) (pn : List (Addr × Obj)), Zc cls d oe → (∃ vs, oe.data = .fields vs) → PSs (X.suite a ((a, oe) :: pn)) (b0 :: sui) (ts a cls d)) :
    PS X (.Try body [.ExceptHandler (some (.Name x np)) (some n) (b0 :: sui) pos1] [] [] pos) (fun D σ H => tb (wKeep X.K cl i ts Wo D) D σ H) := by
  refine ⟨fun pins s σ H D I hw => ?_⟩
  have okX := I.ok
  have frX : X.A.frames = some (X.env :: X.outer) := by rw [okX.frames, hs]
  have locN : Loc X.env.scope n := .inl hln
  refine wpAny_Try_except ?_
  refine wpAny_mono ((hb (wKeep X.K cl i ts Wo D) (X.pn ++ pins) (fun ev sv => wpAny (model X.prog X.w) X.A (noteFrame ev X.env) (fun _ sw => wpAny (model X.prog X.w) X.A (setFlight ev none) (fun _ sx => wpAny (model X.prog X.w) X.A (handleBy ev X.env [.ExceptHandler (some (.Name x np)) (some n) (b0 :: sui) pos1]) (SP X pins D) X.xe sx) X.xe sw) X.xe sv) (fun u sv xx => ?_) PassesOwn.looking).run [] s σ H D (I.toTry _) hw) (fun fl sv hsp => ?_) (fun ev sv he => he)
  · obtain ⟨a, B, sI, pins', σ1, H1, cls, d, rfl, J0, nb, up, sky, na, hos, hag, b, hb1, hno, hyes⟩ := xx
    have J : Inv X pins σ1 H1 sI := J0.ofTry okX
    have skyX : Sky B (X.env :: X.outer) a (Zc cls d) X.env.locals sv.heap := by rw [← hs]; exact sky
    show wpAny (model X.prog X.w) X.A (noteFrame (.ref a) X.env) _ _ _
    refine Sky.land Zc.steady frX hf skyX fun h3 fl3 up3 => ?_
    have J3 : Inv X pins σ1 H1 { sv with heap := h3 } := J.landed nb fl3.1 (up.trans up3) hos hag
    obtain ⟨oe3, vs3, he3, hz3, hd3⟩ := fl3.there
    have nfr : a ∉ frs (X.env :: X.outer) := fun hm => by
      obtain ⟨_, o2, e2, hnf⟩ := fl3.2.2.1.mem hm
      rw [he3] at e2
      cases e2
      exact hnf _ hd3
    have nL : a ≠ X.env.locals := fun z => nfr (List.mem_filterMap.mpr ⟨X.env, List.mem_cons_self, by rw [hf, z]⟩)
    have nF : a ∉ X.fs := fun hm => by
      obtain ⟨ev, hev, q⟩ := List.mem_filterMap.mp hm
      exact nfr (List.mem_filterMap.mpr ⟨ev, List.mem_cons_of_mem _ hev, q⟩)
    have newI : ∀ o, sI.heap.get? a ≠ some o := fun o e => by
      have q := nb a o e (by rw [hs]; exact nfr)
      rw [fl3.2.1] at q
      cases q
    have S3 := J3.suite he3 hd3 na nL nF
    refine wpAny_handleBy_cons (codeAny_handlers_test ?_) (by intro q; cases q)
    have LT : PySem.W.Looks (model X.prog X.w) h3 (typeOf (.ref a)) cls := fun A Q E s k q => wpAny_typeOf_ref (k _ _ he3) (by rw [hz3.1]; exact q)
    have LM := PySem.W.exm_one (M := model X.prog X.w) (J3.kIn) LT hb1
    have named : ∀ {Q E : Value → Shared → Prop}, Q cl { sv with heap := h3 } → wpAny (model X.prog X.w) (X.A.mark (some (.ref a))) (eval (.Name x np) X.env) Q E { sv with heap := h3 } := fun {Q E} q => by
      obtain ⟨hg, hdbg, hm | ⟨hm, hv, hnn⟩⟩ := hc
      · exact ld_glob (X := X.suite a ((a, oe3) :: (X.pn ++ pins))) S3 hg hm q hdbg
      · exact ld_blt (X := X.suite a ((a, oe3) :: (X.pn ++ pins))) S3 hg hm hv q hnn hdbg
    refine named (LM.here ?_)
    cases b with
    | true =>
      obtain ⟨C, dd, eC, ed, hts⟩ := hyes rfl
      refine codeAny_handlers_suite_as ?_
      refine HandSPX.lands_againZ fl3 fun h4 fl4 up4 => ?_
      have J4 : Inv X pins σ1 H1 { sv with heap := h4 } := J.landed nb fl4.1 ((up.trans up3).trans up4) hos hag
      obtain ⟨oe4, vs4, he4, hz4, hd4⟩ := fl4.there
      have S4 := J4.suite he4 hd4 na nL nF
      refine store_ok (X := X.suite a ((a, oe4) :: (X.pn ++ pins))) (v := .ref a) S4 hN hi locN rfl (fun s5 S5 => ?_) (.inr hln)
      refine wpAny_mono ((hsu a oe4 cls d (X.pn ++ pins) hz4 ⟨_, hd4⟩).run [] s5 _ H1 _ S5 (hts a na)) (fun fl s6 hsp => ?_) (fun _ _ z => False.elim z)
      cases fl with
      | next =>
        obtain ⟨σ6, H6, S6, q6⟩ := hsp
        have T6 : Inv X ((a, oe4) :: pins) σ6 H6 s6 := by
          refine ⟨okX, S6.os, S6.bare, S6.base, S6.loc, S6.cell, S6.free, S6.freeC, fun p hp => S6.pin p ?_, S6.hok, S6.len⟩
          refine List.mem_append_left _ ?_
          rcases List.mem_append.mp hp with m | m
          · exact List.mem_cons_of_mem _ (List.mem_append_left _ m)
          · rcases List.mem_cons.mp m with m | m
            · rw [m]; exact List.mem_cons_self
            · exact List.mem_cons_of_mem _ (List.mem_append_right _ m)
        refine gone_ok T6 hN hi hln fun s7 J7 => ⟨_, _, keep_exn J7 (by rw [← eC]; exact hz4.1) (by rw [← ed]; exact hz4.2) hd4 (fun o e => ?_) (fun p hp z => ?_), q6⟩
        · obtain ⟨o2, q2⟩ := J.base.there a o e (fun m => by rw [hex] at m; cases m)
          exact newI _ q2
        · exact newI _ (by rw [← z]; exact (J.pin p hp).1)
      | brk =>
        obtain ⟨σ6, H6, S6, q6⟩ := hsp
        exact q6.elim
      | cont =>
        obtain ⟨σ6, H6, S6, q6⟩ := hsp
        exact q6.elim
      | ret u =>
        obtain ⟨v6, σ6, H6, S6, r6, q6⟩ := hsp
        exact q6.elim
    | false =>
      show wpAny _ X.A (handleBy (.ref a) X.env []) _ _ _
      refine wpAny_handleBy_nil ?_
      obtain ⟨k1, k2, k3, oeF, vsF, TF, oTF, tsF, heF, hzF, hdF, h1F, hrF⟩ := id fl3
      unfold PySem.passOn
      refine wpAny_bind (wpAny_field heF hdF h1F ?_)
      rw [if_neg (show ¬ ((Value.ref TF == Value.none) = true) from by simp)]
      have goOn : wpAny (model X.prog X.w) X.A (setFlight (.ref a) X.env.frame) (fun _ s4 => wpAny (model X.prog X.w) X.A (throw (.ref a) : Sem Flow) (SP X pins D) X.xe s4) X.xe { sv with heap := h3 } := by
        rw [hf]
        refine HandSPX.setFlight_upZ fl3 fun h4 hh4 up4 => wpAny_throw (tk _ _ ?_)
        exact ⟨a, B, sI, pins, σ1, H1, cls, d, rfl, J, nb, (up.trans up3).trans up4, .inr (.inr (by rw [hs]; exact hh4)), na, hos, hag, hno rfl⟩
      first
      | exact wpAny_bind (wpAny_pure (wpAny_bind goOn))
      | exact wpAny_bind goOn
  · cases fl with
    | next =>
      obtain ⟨σ2, H2, J2, q⟩ := hsp
      exact wpAny_execs_nil ⟨σ2, H2, J2.ofTry okX, q⟩
    | brk =>
      obtain ⟨σ2, H2, J2, q⟩ := hsp
      exact ⟨σ2, H2, J2.ofTry okX, q⟩
    | cont =>
      obtain ⟨σ2, H2, J2, q⟩ := hsp
      exact ⟨σ2, H2, J2.ofTry okX, q⟩
    | ret u =>
      obtain ⟨v, σ2, H2, J2, r, q⟩ := hsp
      exact ⟨v, σ2, H2, J2.ofTry okX, r, q⟩
end
end VL

/-! The value layer, U: errors kept: try .. except X as n: y = n; y.f; isinstance(y, X); y = (n.f, n.g). -/
namespace VL
open PySem PySem.Spec PyProof.Rows L2 LamX
/-- try: body / except X as n: y = n, all errors of the body are caught -/
def gTryK (c i j : Nat) (g : GS) : GS := fun ρ τ => match g ρ τ with
  | .exc c' fs ρ1 τ1 => if c' = c ∧ i < ρ1.length then .nx ((ρ1.set j (some (.d (.exn c fs)))).set i none) τ1 else .bad
  | r => r
/-- try: body / except X as n: y = (n.f, n.g) -/
def gTryT (c i j : Nat) (f1 f2 : T) (g : GS) : GS := fun ρ τ => match g ρ τ with
  | .exc c' fs ρ1 τ1 => match fs.lookup f1, fs.lookup f2 with
    | some d1, some d2 => if c' = c ∧ i < ρ1.length then .nx ((ρ1.set j (some (.d (.tup [d1, d2])))).set i none) τ1 else .bad
    | _, _ => .bad
  | r => r
theorem nt_exn {C a dd : Addr} : notTbl (exnO C a dd) := fun ps e => by unfold exnO at e; cases e
section
variable {X : Cx} {G : Gd} {W : WX} {x n y : Str} {cl : Value} {c i j : Nat} {g : GS} {body : List Stmt} {np pos pos' p1 p2 p3 : Pos}
theorem s_tryK (hex : X.ex = []) (hs : X.stack = X.env :: X.outer) (hf : X.env.frame = some X.env.locals) (hN : X.N.Nodup) (hi : X.N[i]? = some n) (hj : X.N[j]? = some y) (hij : i ≠ j) (hln : X.env.kindOf n = some .local) (hly : X.env.scope.names.lookup y = some .local)
    (hv : Vis X.env.scope n) (hc : Names X x cl) (tk : Takes X W) (te : PySem.W.exmOne X.K (.ref (G.ca c)) cl = some true)
    (hb : ∀ (W : WX) (pn : List (Addr × Obj)) (xe : Value → Shared → Prop), Takes (X.tr pn xe) W → PassesOwn (model X.prog X.w) X.A X.env xe → PSs (X.tr pn xe) body (VS G W g))
    (hdb : (n == ("__debug__" : Str)) = false := by decide) (hcd : (n == ("__classdict__" : Str)) = false := by decide) (hsw : swapsWith (.Name n p1) (some (.Name y p2)) p3.line X.env = pure false := by rfl) :
    PS X (.Try body [.ExceptHandler (some (.Name x np)) (some n) [.Assign [.Name y p2] (.Name n p1) p3] pos'] [] [] pos) (VS G W (gTryK c i j g)) := by
  refine ps_weak (ps_try_keep (tb := fun W' => VS G W' g) (ts := fun a cls d => tAsg (tVar i) (gName j)) (Wo := W) hex hs hf hN hi hln hc tk hb fun a oe cls d pn hz hd => ?_) ?_
  · exact pss_one (ps_set (X := X.suite a ((a, oe) :: pn)) hN hj (.inl hly) (pe_var (X := X.suite a ((a, oe) :: pn)) hi hv hdb hcd) hsw (.inr hly))
  · intro D σ H ⟨z, ρ, τ, hz, cc, en, q⟩
    refine ⟨z, ρ, τ, hz, cc, en, ?_⟩
    unfold gTryK at q
    cases e : g ρ τ with
    | nx ρ' τ' => rw [e] at q; exact q
    | rt u τ' => rw [e] at q; exact q
    | bk ρ' τ' => rw [e] at q; exact q
    | ct ρ' τ' => rw [e] at q; exact q
    | bad => rw [e] at q; exact q
    | exc c' fs ρ1 τ1 =>
      rw [e] at q
      simp only at q
      by_cases h : c' = c ∧ i < ρ1.length
      · rw [if_pos h] at q
        obtain ⟨rfl, hl⟩ := h
        intro z' dd vs σ' ff c1 en' s' r'
        refine ⟨true, te, (fun z => Bool.noConfusion z), fun _ => ⟨_, dd, rfl, rfl, fun a ha => ?_⟩⟩
        have hsl : (σ'.set i (some (.ref a)))[i]? = some (some (V.ref a)) := List.getElem?_set_self (by rw [en'.len]; exact hl)
        refine ⟨_, hsl, ?_⟩
        show D.nx (((σ'.set i (some (V.ref a))).set j (some (V.ref a))).set i none) (upd z'.H a (exnO (G.ca c') a dd))
        rw [List.set_comm _ _ hij, List.set_set]
        have f2 : Fut z' ⟨upd z'.S a (exnO (G.ca c') a dd), upd z'.H a (exnO (G.ca c') a dd), z'.ms⟩ := fut_sh (c1.none_ ha) ha
        have c2 := cells_sh (o := exnO (G.ca c') a dd) c1 ha nt_exn
        refine q _ _ (ff.trans f2) c2 (EnvR.unset (EnvR.set (en'.fut f2) (.d (.exn upd_same (f2.ss _ _ s') (RepF.mono f2.ss _ _ r')))))
      · rw [if_neg h] at q; exact q.elim
theorem s_tryT {f1 f2 : T} {a1 a2 : Str} {pt q1 q2 q3 q4 : Pos} {k : Nat} (e1 : a1 = f1.s) (e2 : a2 = f2.s) (hs : X.stack = X.env :: X.outer) (hf : X.env.frame = some X.env.locals) (hN : X.N.Nodup) (hi : X.N[i]? = some n) (hj : X.N[j]? = some y) (hij : i ≠ j) (hln : X.env.kindOf n = some .local) (hly : X.env.scope.names.lookup y = some .local)
    (hv : Vis X.env.scope n) (hc : Names X x cl) (tk : Takes X W) (te : PySem.W.exmOne X.K (.ref (G.ca c)) cl = some true) (xf : XfC X.K (G.ca c)) (hn1 : PySem.W.findIn X.K (.ref (G.ca c)) a1 = some none) (hn2 : PySem.W.findIn X.K (.ref (G.ca c)) a2 = some none)
    (hb : ∀ (W : WX) (pn : List (Addr × Obj)) (xe : Value → Shared → Prop), Takes (X.tr pn xe) W → PassesOwn (model X.prog X.w) X.A X.env xe → PSs (X.tr pn xe) body (VS G W g))
    (hdb : (n == ("__debug__" : Str)) = false := by decide) (hcd : (n == ("__classdict__" : Str)) = false := by decide)
    (hb1 : attributeBase (.Name n q1) a1 X.env (eval (.Name n q1) X.env) = eval (.Name n q1) X.env := by rfl) (hb2 : attributeBase (.Name n q3) a2 X.env (eval (.Name n q3) X.env) = eval (.Name n q3) X.env := by rfl)
    (hs1 : starEach [.Attribute (.Name n q1) a1 q2, .Attribute (.Name n q3) a2 q4] X.env = (false, eval (.Attribute (.Name n q1) a1 q2) X.env) :: starEach [.Attribute (.Name n q3) a2 q4] X.env := by rfl) (hs2 : starEach [.Attribute (.Name n q3) a2 q4] X.env = (false, eval (.Attribute (.Name n q3) a2 q4) X.env) :: starEach [] X.env := by rfl)
    (hsw : swapsWith (.Tuple [.Attribute (.Name n q1) a1 q2, .Attribute (.Name n q3) a2 q4] k pt) (some (.Name y p2)) p3.line X.env = pure false := by rfl) :
    PS X (.Try body [.ExceptHandler (some (.Name x np)) (some n) [.Assign [.Name y p2] (.Tuple [.Attribute (.Name n q1) a1 q2, .Attribute (.Name n q3) a2 q4] k pt) p3] pos'] [] [] pos) (VS G W (gTryT c i j f1 f2 g)) := by
  refine ps_weak (ps_try_as (tb := fun W' => VS G W' g) (ts := fun a cls d => tAsg (tTup (tCons (tXf a cls d (G.ca c) a1 (tVar i)) (tCons (tXf a cls d (G.ca c) a2 (tVar i)) tNil))) (gName j)) (Wout := W) hs hf hN hi hln hc tk hb fun a oe cls d pn hz hd => ?_) ?_
  · have pv : ∀ q, PE (X.suite a ((a, oe) :: pn)) (.Name n q) (tVar i) := fun q => pe_var (X := X.suite a ((a, oe) :: pn)) hi hv hdb hcd
    exact pss_one (ps_set (X := X.suite a ((a, oe) :: pn)) hN hj (.inl hly) (pe_tup (pa_cons (pe_xf xf hn1 hz hd (pv _) hb1) (pa_cons (pe_xf xf hn2 hz hd (pv _) hb2) pa_nil hs2) hs1)) hsw (.inr hly))
  · intro D σ H ⟨z, ρ, τ, hz, cc, en, q⟩
    refine ⟨z, ρ, τ, hz, cc, en, ?_⟩
    unfold gTryT at q
    cases e : g ρ τ with
    | nx ρ' τ' => rw [e] at q; exact q
    | rt u τ' => rw [e] at q; exact q
    | bk ρ' τ' => rw [e] at q; exact q
    | ct ρ' τ' => rw [e] at q; exact q
    | bad => rw [e] at q; exact q
    | exc c' fs ρ1 τ1 =>
      rw [e] at q
      simp only at q
      cases l1 : fs.lookup f1 with
      | none => rw [l1] at q; exact q.elim
      | some d1 =>
        cases l2 : fs.lookup f2 with
        | none => rw [l1, l2] at q; exact q.elim
        | some d2 =>
          rw [l1, l2] at q
          simp only at q
          by_cases h : c' = c ∧ i < ρ1.length
          · rw [if_pos h] at q
            obtain ⟨rfl, hl⟩ := h
            intro z' dd vs σ' ff c' en' s' r'
            refine ⟨true, te, fun _ a ha => ?_, fun z => Bool.noConfusion z⟩
            have hx : z'.H dd = some (.xd vs) := c'.sub _ _ s'
            obtain ⟨v1, m1, r1⟩ := r'.look l1
            obtain ⟨v2, m2, r2⟩ := r'.look l2
            have hsl : (σ'.set i (some (.ref a)))[i]? = some (some (V.ref a)) := List.getElem?_set_self (by rw [en'.len]; exact hl)
            rw [← e1] at m1
            rw [← e2] at m2
            refine ⟨_, hsl, rfl, rfl, dd, vs, v1, rfl, hx, m1, _, hsl, rfl, rfl, dd, vs, v2, rfl, hx, m2, ?_⟩
            refine ⟨by show 2 ≤ sizeLine; decide, fun p hp => ?_⟩
            show D.nx (((σ'.set i (some (V.ref a))).set j (some (V.ref p))).set i none) _
            rw [List.set_comm _ _ hij, List.set_set]
            have f2 : Fut z' ⟨upd z'.S p (.tup [v1, v2]), upd z'.H p (.tup [v1, v2]), z'.ms⟩ := fut_sh (c'.none_ hp) hp
            have c2 := cells_sh (o := .tup [v1, v2]) c' hp
            exact q _ _ (ff.trans f2) c2 (EnvR.unset (EnvR.set (en'.fut f2) (.d (.tup (SqT.of upd_same) (.cons (Rep.mono f2.ss _ _ r1) (.cons (Rep.mono f2.ss _ _ r2) .nil))))))
          · rw [if_neg h] at q; exact q.elim
end
/-! ### y.f and isinstance(y, X), y an error kept -/
def gExF (c : Nat) (f : T) (u : U) (τ : Store) : R U := match u with
  | .d (.exn c' fs) => if c' = c then match fs.lookup f with
    | some x => .ok (.d x) τ
    | none => .bad
    else .bad
  | _ => .bad
def eExF (c : Nat) (f : T) (fo : EV) : EV := fun ρ τ => (fo ρ τ).bind (gExF c f)
section
variable {X : Cx} {G : Gd} {W : WX} {e : Expr} {fo : EV} {pos p p2 : Pos} {c : Nat} {f y : Str} {ft : T}
def tExF (te : TE) (C : Addr) (f : Str) : TE := fun σ H Q => te σ H fun x H1 => ∃ a dd ps v, x = .ref a ∧ H1 a = some (exnO C a dd) ∧ H1 dd = some (.xd ps) ∧ ps.lookup f = some v ∧ Q v H1
theorem pe_exF {C : Addr} {te : TE} (T : XfC X.K C) (hno : PySem.W.findIn X.K (.ref C) f = some none) (he : PE X e te) (hb : attributeBase e f X.env (eval e X.env) = eval e X.env := by rfl) : PE X (.Attribute e f pos) (tExF te C f) := by
  refine ⟨fun pins s σ H Q I h => ?_⟩
  refine attr_of hb (thn (he.run pins s σ H _ I h) fun u s1 hh => ?_)
  obtain ⟨x, H1, I1, rx, a, dd, ps, v, ex, ha, hd, l, q⟩ := hh
  subst ex
  obtain rfl : u = Value.ref a := rx
  obtain ⟨⟨oe, vs, g1, g2, g3, g4⟩, _⟩ := I1.hok a _ ha
  obtain ⟨mA, hns, hr⟩ := I1.hok dd _ hd
  obtain ⟨od, ho, hl⟩ := lookIn_ns hns
  obtain ⟨w, hu, ru⟩ := RelO.some_of (v := v) (o := mA f) (by rw [← l]; exact hr f)
  have J : PySem.W.InstAt s1.heap a oe C (some od) := ⟨g1, g2, by unfold PySem.W.notCls; rw [g4] <;> rfl, by rw [g3]; exact ho⟩
  exact HandSPX.exc_get I1.kIn J T.ga T.gg T.exC (PySem.W.findObj_own T.hdC hno rfl (by rw [hl, hu])) (handed_of ru) ⟨v, H1, I1.tok _, ru, q⟩
theorem v_exF (hK : X.K = G.K) (T : XfC G.K (G.ca c)) (hno : PySem.W.findIn G.K (.ref (G.ca c)) f = some none) (hf : f = ft.s) (he : PE X e (VE G W fo)) (hb : attributeBase e f X.env (eval e X.env) = eval e X.env := by rfl) : PE X (.Attribute e f pos) (VE G W (eExF c ft fo)) :=
  ve_step1 (pe_exF (by rw [hK]; exact T) (by rw [hK]; exact hno) he hb) (r := fun x H Q => ∃ a dd ps v, x = .ref a ∧ H a = some (exnO (G.ca c) a dd) ∧ H dd = some (.xd ps) ∧ ps.lookup f = some v ∧ Q v H) (fun _ _ _ h => h) fun z u τ v W Q cc r q => by
    match u, r, q with
    | .d (.exn c' fs), .d (.exn (a := a) (dd := dd) (ps := ps) h1 h2 h3), w0 =>
      unfold gExF at w0
      by_cases h : c' = c
      · simp only at w0
        rw [if_pos h] at w0
        subst h
        cases e2 : fs.lookup ft with
        | none => rw [e2] at w0; exact w0.elim
        | some x =>
          rw [e2] at w0
          obtain ⟨v, h4, h5⟩ := h3.look e2
          exact ⟨a, dd, ps, v, rfl, cc.sub _ _ h1, cc.sub _ _ h2, by rw [hf]; exact h4, Run.ok (rep := RepU G) w0 cc (.d h5)⟩
      · simp only at w0
        rw [if_neg h] at w0; exact w0.elim
def gIsX (c : Nat) (u : U) (τ : Store) : R U := match u with
  | .d (.exn c' _) => if c' = c then .ok (.d (.bl true)) τ else .bad
  | _ => .bad
def eIsX (c : Nat) (f : EV) : EV := fun ρ τ => (f ρ τ).bind (gIsX c)
/-- what isinstance asks of an own class of errors -/
structure InsX (K : PySem.W.Frag) (C : Addr) : Prop where
  xf : XfC K C
  ha : PySem.W.findIn K (.ref C) "__class__" = some (some (.builtin "object.__class__"))
  hn : PySem.W.specialIn K (.builtin "object.__class__") "__get__" = some (some (.builtin "getset_descriptor.__get__"))
  htk : PySem.W.takesIn K (.builtin "object.__class__") = some true
  hm : PySem.W.mroIn K C (.type "object") = some true
  cl : (PySem.W.clsIn K C).isSome = true
  me : PySem.W.kitOne K (.ref C) (.ref C) = some true
theorem call_isX {C : Addr} (c : InsX X.K C) : CallR X (.builtin "isinstance") (fun xs H Q => ∃ a dd ps, xs = [.ref a, .ref C] ∧ H a = some (exnO C a dd) ∧ H dd = some (.xd ps) ∧ Q (.bl true) H) := by
  intro pins s σ H xs us Q I r h
  obtain ⟨a, dd, ps, rfl, ha, hd, q⟩ := h
  obtain ⟨u, w', rfl, ru, rw'⟩ := vals2 r
  cases rw'
  obtain rfl : u = Value.ref a := ru
  obtain ⟨⟨oe, vs, g1, g2, g3, g4⟩, _⟩ := I.hok a _ ha
  obtain ⟨mA, hns, hr⟩ := I.hok dd _ hd
  obtain ⟨od, ho, hl⟩ := lookIn_ns hns
  have J : PySem.W.InstAt s.heap a oe C (some od) := ⟨g1, g2, by unfold PySem.W.notCls; rw [g4] <;> rfl, by rw [g3]; exact ho⟩
  exact PySem.W.kia_one (PySem.W.kitx_exc c.cl c.xf.ga c.xf.gg c.xf.exC c.ha c.hn c.htk c.hm) I.kIn J c.me (fun z => nomatch z) fun tk => ⟨.bl true, H, I.kept (t' := tk) fun _ _ z => z, rfl, q⟩
theorem v_isX (hK : X.K = G.K) (C : InsX X.K (G.ca c)) (hg : Gl X "isinstance") (hm : X.mg "isinstance" = none) (hg2 : Gl X y) (hm2 : X.mg y = some (.ref (G.ca c))) (he : PE X e (VE G W fo)) (hdb : (y == ("__debug__" : Str)) = false := by decide)
    (h1 : starEach [e, .Name y p2] X.env = (false, eval e X.env) :: starEach [.Name y p2] X.env := by rfl) (h2 : starEach [.Name y p2] X.env = (false, eval (.Name y p2) X.env) :: starEach [] X.env := by rfl) (hpl : (backTo pos (starEach [.Name y p2] X.env)).any (·.1) = false := by rfl) :
    PE X (.Call (.Name "isinstance" p) [e, .Name y p2] [] pos) (VE G W (eIsX c fo)) := by
  have hy2 : PE X (.Name y p2) (tC (.ref (G.ca c))) := pe_glob hg2 hm2 rfl hdb
  refine pe_weak (pe_callB (call_isX C) hg hm rfl (pa_cons he (pa_cons hy2 pa_nil h2) h1) (by decide) (by decide) h1 hpl) fun σ H Q ⟨z, ρ, τ, hz, cc, en, q⟩ => ⟨z, ρ, τ, hz, cc, en, (Run.bind q).imp fun v H1 ⟨z1, u, τ1, e1, f1, c1, r1, q1⟩ => ?_⟩
  subst e1
  match u, r1, q1 with
  | .d (.exn c' fs), .d (.exn (a := a) (dd := dd) (ps := ps) h3 h4 h5), w0 =>
    unfold gIsX at w0
    by_cases h : c' = c
    · simp only at w0
      rw [if_pos h] at w0
      subst h
      exact ⟨a, dd, ps, rfl, c1.sub _ _ h3, c1.sub _ _ h4, Run.ok (rep := RepU G) w0 c1 (.d (.bl _))⟩
    · simp only at w0
      rw [if_neg h] at w0
      exact w0.elim
/-! ### isinstance(x, T), x an instance too -/
def eIsiI (T : String) (c : Nat) (f : EV) : EV := fun ρ τ => (f ρ τ).bind fun u τ1 => match vw τ1 u with
  | some (.ins c' fs) => if c' = c then .ok (.d (.bl false)) τ1 else .bad
  | some d => match d.ty with
    | some a => .ok (.d (.bl (isTy a T))) τ1
    | none => .bad
  | none => .bad
theorem v_isiI {T : String} (hT : KitT T) (hK : X.K = G.K) (C : C8.InsC G.K (G.ca c)) (no : PySem.W.kitOne G.K (.ref (G.ca c)) (.type T) = some false) (hg : Gl X "isinstance") (hm : X.mg "isinstance" = none) (hg2 : Gl X y) (hm2 : X.mg y = none) (hy : bootBuiltins y = some (.type T)) (he : PE X e (VE G W fo)) (hn : y ≠ "__name__" := by decide) (hdb : (y == ("__debug__" : Str)) = false := by decide)
    (h1 : starEach (e :: [.Name y p2]) X.env = (false, eval e X.env) :: starEach [.Name y p2] X.env := by rfl) (hpl : (backTo pos (starEach [.Name y p2] X.env)).any (·.1) = false := by rfl) (h2 : starEach [.Name y p2] X.env = (false, eval (.Name y p2) X.env) :: starEach [] X.env := by rfl) :
    PE X (.Call (.Name "isinstance" p) [e, .Name y p2] [] pos) (VE G W (eIsiI T c fo)) := by
  have hy2 : PE X (.Name y p2) (tC (.ty T)) := pe_bty hg2 hm2 hy hn hdb
  refine pe_weak (pe_callB (r := rIsi X.K) call_isi hg hm rfl (pa_cons he (pa_cons hy2 pa_nil h2) h1) (by decide) (by decide) h1 hpl) fun σ H Q ⟨z, ρ, τ, hz, cc, en, q⟩ => ⟨z, ρ, τ, hz, cc, en, (Run.bind q).imp fun v H1 ⟨z1, u, τ1, e1, f1, c1, r1, q1⟩ => ?_⟩
  subst e1
  have gen : ∀ (d : D) (a : String), vw τ1 u = some d → d.ty = some a → Run G (RepU G) (.ok (.d (.bl (isTy a T))) τ1) (fun c d H' => W c d σ H') z1 Q → rIsi X.K [v, .ty T] z1.H Q := fun d a e2 e3 q2 => by
    obtain ⟨t1, t2⟩ := ty_v c1 (vw_rep c1 r1 e2) e3
    exact ⟨v, .ty T, _, _, isTy a T, rfl, .ty T, hK ▸ t1, kit_ty (hT a t2), Run.ok (rep := RepU G) q2 c1 (.d (.bl _))⟩
  cases e2 : vw τ1 u with
  | none => rw [e2] at q1; exact q1.elim
  | some d =>
    rw [e2] at q1
    cases d with
    | ins c' fs =>
      simp only at q1
      by_cases h : c' = c
      · rw [if_pos h] at q1
        subst h
        obtain ⟨a, dx, ps, rfl, h3, h4⟩ := (vw_rep c1 r1 e2).ins_ c1
        exact ⟨_, .ty T, _, _, false, rfl, .ty T, hK ▸ .base (.ins h3 C.cl C.ha C.hn C.htk C.hm), hK ▸ no, Run.ok (rep := RepU G) q1 c1 (.d (.bl _))⟩
      · rw [if_neg h] at q1; exact q1.elim
    | dcu _ => exact q1.elim
    | cls _ => exact q1.elim
    | exn _ _ => exact q1.elim
    | non => exact gen _ _ e2 rfl q1
    | bl _ => exact gen _ _ e2 rfl q1
    | int _ => exact gen _ _ e2 rfl q1
    | str _ => exact gen _ _ e2 rfl q1
    | tup _ => exact gen _ _ e2 rfl q1
    | lst _ => exact gen _ _ e2 rfl q1
    | fl _ => exact gen _ _ e2 rfl q1
    | dct _ => exact gen _ _ e2 rfl q1
end
end VL

/-! The value layer, V: min, unpacked lists, [*a, b], o[i], o[j] = x, y, o.pop(i), text * int. -/
namespace VL
open PySem PySem.Spec PyProof.Rows L2 LamX
section
variable {X : Cx} {G : Gd} {W : WX}
def fMin : D → D → Store → R U
  | .int i, .int j, τ => .ok (.d (.int (if j < i then j else i))) τ
  | _, _, _ => .bad
theorem c_min : CallS G (c2 fMin) (fun xs H Q => ∃ i j, xs = [.int i, .int j] ∧ Q (.int (if j < i then j else i)) H) := c2_s fun z d e τ v w W Q c r1 r2 q => by
  match d, e, r1, r2, q with
  | .int i, .int j, r1, r2, q =>
    rw [r1.int_, r2.int_]
    exact ⟨i, j, rfl, Run.ok (rep := RepU G) q c (.d (.int _))⟩
/-- a list's items to names -/
def tLstN (is : List Nat) : TGv := fun x ρ => match x with
  | .lst ds => tNames is ds ρ
  | _ => none
theorem tg_lst {g : TGs} {is : List Nat} (h : TgsS G g is) {n : Nat} (hn : n = is.length) : TgS G (L2.gLst G.K n g) (tLstN is) is := fun z τ x v ρ ρ' σ Q c r en e k => by
  cases x with
  | lst ds =>
    cases r with
    | lst h1 h2 =>
      have e : tNames is ds ρ = some ρ' := e
      exact ⟨_, _, rfl, SqL.of (c.sub _ _ h1), by rw [← h2.length, tNames_len e, hn], h z τ ds _ ρ ρ' σ Q c h2 en e k⟩
  | _ => cases e
/-- *e at the head of a display -/
def elStar (fa : EV) (fr : EL) : EL := fun ρ τ => (fa ρ τ).bind fun u τ1 => match u with
  | .d (.lst ds) => (fr ρ τ1).bind fun us τ2 => .ok (ds.map U.d ++ us) τ2
  | _ => .bad
theorem repUs_map {z : Z} : ∀ {ds : List D} {vs : List V}, Reps G z.S ds vs → RepUs G z (ds.map U.d) vs
  | [], _, h => by cases h; exact .nil
  | d :: ds, _, h => by
    cases h with
    | cons a b => exact .cons (.d a) (repUs_map b)
theorem va_star {e : Expr} {es : List Expr} {fa : EV} {fr : EL} {p : Pos} (hK : X.K = G.K) (ha : PE X e (VE G W fa)) (hr : PA X es (VA G W fr)) (hs : starEach (.Starred e p :: es) X.env = (true, eval e X.env) :: starEach es X.env := by rfl) : PA X (.Starred e p :: es) (VA G W (elStar fa fr)) := by
  refine pa_weak (StX.pa_star ha hr hs) fun σ H Q ⟨z, ρ, τ, hz, c, en, q⟩ => ⟨z, ρ, τ, hz, c, en, (Run.bind q).imp fun v H1 ⟨z1, u, τ1, e1, f1, c1, r1, q1⟩ => ?_⟩
  subst e1
  match u, r1, q1 with
  | .d (.lst ds), .d (.lst (a := a) (vs := vs) h1 h2), q1 =>
    refine ⟨a, vs, rfl, .inr (SqL.of (c1.sub _ _ h1)), z1, ρ, τ1, rfl, c1, en.fut f1, (Run.bind q1).imp fun ws H2 ⟨z2, us, τ2, e2, f2, c2, r2, q2⟩ => ?_⟩
    subst e2
    exact Run.ok (rep := RepUs G) q2 c2 ((repUs_map (h2.mono f2.ss _ _)).append r2)
/-! ### o[i], o[j] = x, y -/
theorem RunS.seqF {D' : Ends} {z : Z} {r : RS} {g : GS} (h : RunS G (r.seq g) W D' z) : RunS G r W { D' with nx := fun σ' H' => ∃ z1 ρ1 τ1, z1.H = H' ∧ Fut z z1 ∧ Cells G z1 τ1 ∧ EnvR G z1 ρ1 σ' ∧ RunS G (g ρ1 τ1) W D' z1 } z := by
  cases r with
  | nx ρ τ => exact fun z' σ' f c en => ⟨z', ρ, τ, rfl, f, c, en, RunS.pre (r := g ρ τ) h f⟩
  | rt u τ => exact h
  | bk ρ τ => exact h
  | ct ρ τ => exact h
  | exc c fs ρ τ => exact h
  | bad => exact h
theorem RunS.nxw {D' : Ends} {z : Z} {r : RS} {Qn : L2.St → Hp → Prop} (h : RunS G r W D' z) (w : ∀ σ' H', D'.nx σ' H' → Qn σ' H') : RunS G r W { D' with nx := Qn } z := by
  cases r with
  | nx ρ τ => exact fun z' σ' f c en => w _ _ (h z' σ' f c en)
  | rt u τ => exact h
  | bk ρ τ => exact h
  | ct ρ τ => exact h
  | exc c fs ρ τ => exact h
  | bad => exact h
section
variable {o i : Expr} {fo fi : EV} {pos p2 : Pos}
theorem sub_read {z : Z} {ρ : Env} {τ : Store} {σ : L2.St} {x : D} {v : V} {D' : Ends} {Qn : L2.St → Hp → Prop} (c : Cells G z τ) (en : EnvR G z ρ σ) (rx : Rep G z.S x v)
    (q : RunS G (liftE (fo ρ τ) ρ fun o τ3 => liftE (fi ρ τ3) ρ fun i τ4 => setAt x o i ρ τ4) W { D' with nx := Qn } z) : gSub (VE G W fo) (VE G W fi) rSetL v σ z.H Qn := by
  refine ⟨z, ρ, τ, rfl, c, en, (RunS.lift (rep := RepU G) en q).imp fun vo H3 ⟨z3, uo, τ3, e3, f3, c3, r3, q3⟩ => ?_⟩
  subst e3
  have en3 := en.fut f3
  refine ⟨z3, ρ, τ3, rfl, c3, en3, (RunS.lift (rep := RepU G) en3 q3).imp fun vi H4 ⟨z4, ui, τ4, e4, f4, c4, r4, q4⟩ => ?_⟩
  subst e4
  have r3 := r3.fut f4
  have en4 := en3.fut f4
  match uo, ui, r3, r4, q4 with
  | .loc n, .d (.int k), .loc hm, .d hk, q4 =>
    rename_i a
    cases hk
    simp only [setAt] at q4
    cases e5 : τ4[n]? with
    | none => rw [e5] at q4; exact q4.elim
    | some cl =>
      rw [e5] at q4
      cases cl with
      | lst ds =>
        simp only at q4
        cases e6 : ixN ds.length k with
        | none => rw [e6] at q4; exact q4.elim
        | some j =>
          rw [e6] at q4
          obtain ⟨s5, ws, t5, t6⟩ := c4.at_ n _ _ hm e5
          have rx4 := Rep.mono (f3.trans f4).ss _ _ rx
          refine ⟨_, ws, k, j, rfl, rfl, t5, by rw [← t6.length]; exact e6, ?_⟩
          have ff := fut_set (o' := .lst (ws.set j v)) t5 (List.mem_of_getElem? hm) trivial
          exact q4 _ σ ff (cells_set c4 hm t5 s5 trivial ⟨s5, _, upd_same, t6.set rx4 j⟩) (en4.fut ff)
      | _ => exact q4.elim
def gSet2 (fo1 fi1 fo2 fi2 : EV) (fs : EL) : GS := fun ρ τ => liftE (fs ρ τ) ρ fun us τ1 => match frzs τ1 us with
  | some ([x, y], τ2) => (liftE (fo1 ρ τ2) ρ fun o τ3 => liftE (fi1 ρ τ3) ρ fun i τ4 => setAt x o i ρ τ4).seq fun ρ2 τ5 => liftE (fo2 ρ2 τ5) ρ2 fun o2 τ6 => liftE (fi2 ρ2 τ6) ρ2 fun i2 τ7 => setAt y o2 i2 ρ2 τ7
  | _ => .bad
theorem s_set2 {o1 i1 o2 i2 : Expr} {es : List Expr} {fo1 fi1 fo2 fi2 : EV} {fs : EL} {q1 q2 pt pt2 : Pos} {kt k2 : Nat} (hc : X.calm = true) (hK : X.K = G.K) (ha : PA X es (VA G W fs)) (ho1 : PE X o1 (VE G W fo1)) (hi1 : PE X i1 (VE G W fi1)) (ho2 : PE X o2 (VE G W fo2)) (hi2 : PE X i2 (VE G W fi2))
    (hn : (assignEach [.Subscript o1 i1 q1, .Subscript o2 i2 q2] X.env).length = 2 := by rfl) (hst : (assignEach [.Subscript o1 i1 q1, .Subscript o2 i2 q2] X.env).findIdx? (·.1) = none := by rfl)
    (hs : swapsWithSole [.Tuple [.Subscript o1 i1 q1, .Subscript o2 i2 q2] kt pt] (.Tuple es k2 pt2) pos.line X.env = pure false := by rfl) (hw : swappedStores [.Tuple [.Subscript o1 i1 q1, .Subscript o2 i2 q2] kt pt] (.Tuple es k2 pt2) X.env = pure none := by rfl)
    (h1 : (assignEach [.Tuple [.Subscript o1 i1 q1, .Subscript o2 i2 q2] kt pt] X.env).map (·.2) = [assign (.Tuple [.Subscript o1 i1 q1, .Subscript o2 i2 q2] kt pt) X.env] := by rfl)
    (hc1 : (assignEach [.Subscript o1 i1 q1, .Subscript o2 i2 q2] X.env).map (·.2) = assign (.Subscript o1 i1 q1) X.env :: (assignEach [.Subscript o2 i2 q2] X.env).map (·.2) := by rfl) (hc2 : (assignEach [.Subscript o2 i2 q2] X.env).map (·.2) = assign (.Subscript o2 i2 q2) X.env :: (assignEach [] X.env).map (·.2) := by rfl)
    (a1 : ∀ v, assign (.Subscript o1 i1 q1) X.env v = (do
      let ov ← holding [v] (eval o1 X.env)
      let iv ← holding [v, ov] (eval i1 X.env)
      standAt q1
      holding [v, ov, iv] (setItem ov iv v)
      release [v, ov, iv] []) := by intro _; rfl) (a2 : ∀ v, assign (.Subscript o2 i2 q2) X.env v = (do
      let ov ← holding [v] (eval o2 X.env)
      let iv ← holding [v, ov] (eval i2 X.env)
      standAt q2
      holding [v, ov, iv] (setItem ov iv v)
      release [v, ov, iv] []) := by intro _; rfl) :
    PS X (.Assign [.Tuple [.Subscript o1 i1 q1, .Subscript o2 i2 q2] kt pt] (.Tuple es k2 pt2) pos) (VS G W (gSet2 fo1 fi1 fo2 fi2 fs)) :=
  ps_weak (ps_asg (pe_tup ha) (pg_tup hc (pgs_cons (pg_sub ho1 hi1 set_list a1) (pgs_cons (pg_sub ho2 hi2 set_list a2) pgs_nil hc2) hc1) hn hst) hs hw h1) fun D' σ H ⟨z, ρ, τ, hz, c, en, q⟩ => ⟨z, ρ, τ, hz, c, en, (RunS.lift (rep := RepUs G) en q).imp fun vs H1 ⟨z1, us, τ1, e1, f1, c1, r1, q1⟩ => by
    subst e1
    cases e2 : frzs τ1 us with
    | none => rw [e2] at q1; exact q1.elim
    | some pr =>
      obtain ⟨xs, τ2⟩ := pr
      rw [e2] at q1
      obtain ⟨z2, h2, f2, c2, rs, m2⟩ := frzs_ok c1 r1 e2
      match xs, rs, q1 with
      | [], _, q1 => exact q1.elim
      | [_], _, q1 => exact q1.elim
      | _ :: _ :: _ :: _, _, q1 => exact q1.elim
      | [x, y], .cons (v := v) rx (.cons (v := w) ry .nil), q1 =>
        refine ⟨by show 2 ≤ sizeLine; decide, fun p hp => ?_⟩
        rw [← h2] at hp ⊢
        have ff : Fut z2 ⟨upd z2.S p (.tup [v, w]), upd z2.H p (.tup [v, w]), z2.ms⟩ := fut_sh (c2.none_ hp) hp
        have c3 := cells_sh (o := .tup [v, w]) c2 hp
        have en3 := en.fut ((f1.trans f2).trans ff)
        refine ⟨p, [v, w], rfl, SqT.of upd_same, rfl, v, [w], rfl, ?_⟩
        have q2 := RunS.seqF (RunS.pre q1 (f2.trans ff))
        refine sub_read (D' := D') c3 en3 (Rep.mono ff.ss _ _ rx) ?_
        have q3 := @RunS.nxw G W _ _ _ (fun σ' H' => gCons (gSub (VE G W fo2) (VE G W fi2) rSetL) L2.gNil [w] σ' H' D'.nx) q2 (fun σ4 H4 h => ?_)
        · exact q3
        obtain ⟨z5, ρ5, τ5, e5, f5, c5, en5, q5⟩ := h
        subst e5
        refine ⟨w, [], rfl, ?_⟩
        have := sub_read (D' := D') (Qn := fun σ' H' => [] = ([] : List V) ∧ D'.nx σ' H') c5 en5 (Rep.mono (ff.trans f5).ss _ _ ry) (RunS.nxw q5 fun σ' H' h => ⟨rfl, h⟩)
        exact this⟩
end
/-! ### o.pop(i) -/
def gPopA (u w : U) (τ : Store) : R U := match u, w with
  | .loc n, .d (.int k) => match τ[n]? with
    | some (.lst ds) => match ixN ds.length k with
      | some j => match ds[j]? with
        | some x => if ds.length ≤ sizeLine then .ok (.d x) (τ.set n (.lst (ds.eraseIdx j))) else .bad
        | none => .bad
      | none => .bad
    | _ => .bad
  | _, _ => .bad
def ePopA (fo fi : EV) : EV := fun ρ τ => (fo ρ τ).bind fun u τ1 => match u with
  | .loc n => match τ1[n]? with
    | some (.lst _) => (fi ρ τ1).bind fun w τ2 => gPopA u w τ2
    | _ => .bad
  | _ => .bad
theorem v_popA {o e : Expr} {fo fi : EV} {apos cpos : Pos} (hK : X.K = G.K) (ho : PE X o (VE G W fo)) (he : PE X e (VE G W fi)) (hbase : attributeBase o "pop" X.env (eval o X.env) = eval o X.env := by rfl)
    (hfew : ((backTo cpos (starEach [e] X.env)).all (fun x => !x.1) && (backToKw cpos (keywordEach [] X.env)).all (fun x => x.1.isSome)
      && decide ([e].length + ([] : List Keyword).length + (if ([] : List Keyword).isEmpty then 0 else 1) < 30)) = true := by rfl)
    (hline : (apos.endLine == cpos.line) = true := by rfl) (h1 : starEach [e] X.env = (false, eval e X.env) :: starEach [] X.env := by rfl) (hpl : (backTo cpos (starEach [] X.env)).any (·.1) = false := by rfl) :
    PE X (.Call (.Attribute o "pop" apos) [e] [] cpos) (VE G W (ePopA fo fi)) := by
  have hm : MtR X "list.pop" rPopAt := fun pins s σ H x xs v us Q I rx rs h => mt_popAt pins s σ H x xs v us Q I rx rs h
  refine pe_weak (pe_bm F.plainAttrs_list F.slot_list_pop F.type_list_pop hm ho (va_cons he va_nil h1) hbase hfew hline h1 hpl) fun σ H Q ⟨z, ρ, τ, hz, c, en, q⟩ => ⟨z, ρ, τ, hz, c, en, (Run.bind q).imp fun v H1 ⟨z1, u, τ1, e1, f1, c1, r1, q1⟩ => ?_⟩
  subst e1
  cases u with
  | d x => exact q1.elim
  | loc n =>
    cases r1 with
    | @loc _ a hm1 =>
      simp only at q1
      cases e2 : τ1[n]? with
      | none => rw [e2] at q1; exact q1.elim
      | some cl =>
        rw [e2] at q1
        cases cl with
        | lst ds0 =>
          obtain ⟨s0, vs0, t1, t2⟩ := c1.at_ n a _ hm1 e2
          refine ⟨.inl ⟨rfl, vs0, SqL.of t1⟩, z1, ρ, τ1, rfl, c1, en.fut f1, ?_⟩
          have qb := Run.bind (rep := RepU G) q1
          have q2 : Run G (RepUs G) ((elCons fi elNil) ρ τ1) (fun c d H' => W c d σ H') z1 (fun vs H2 => ∃ z2 w τ2 y, vs = [y] ∧ z2.H = H2 ∧ Fut z1 z2 ∧ Cells G z2 τ2 ∧ RepU G z2 w y ∧ Run G (RepU G) (gPopA (.loc n) w τ2) (fun c d H' => W c d σ H') z2 Q) := by
            unfold elCons elNil
            cases ef : fi ρ τ1 with
            | bad => rw [ef] at qb; exact qb.elim
            | exc c' fs' τ' => rw [ef] at qb; exact qb
            | ok w τ' =>
              rw [ef] at qb
              intro z' vs f' c' rs
              cases rs with
              | @cons _ y _ _ ry rn =>
                cases rn
                obtain ⟨z2, w2, τ2, e3, f2, c2, r2, q3⟩ := qb z' y f' c' ry
                rw [ef] at q1
                exact ⟨z', w, τ', y, rfl, rfl, f', c', ry, Run.pre q1 f'⟩
          refine q2.imp fun vs H2 ⟨z2, w, τ2, y, ev, e3, f2, c2, r2, q3⟩ => ?_
          subst ev
          subst e3
          unfold gPopA at q3
          match w, r2, q3 with
          | .loc _, _, q3 => exact q3.elim
          | .d (.int k), .d rk, q3 =>
            cases rk
            simp only at q3
            cases e5 : τ2[n]? with
            | none => rw [e5] at q3; exact q3.elim
            | some cl =>
              rw [e5] at q3
              cases cl with
              | lst ds =>
                simp only at q3
                cases e6 : ixN ds.length k with
                | none => rw [e6] at q3; exact q3.elim
                | some j =>
                  rw [e6] at q3
                  simp only at q3
                  cases e7 : ds[j]? with
                  | none => rw [e7] at q3; exact q3.elim
                  | some x =>
                    rw [e7] at q3
                    simp only at q3
                    by_cases hl : ds.length ≤ sizeLine
                    · rw [if_pos hl] at q3
                      have hm2 : z2.ms[n]? = some a := pre_get f2.pre hm1
                      obtain ⟨s5, ws, t5, t6⟩ := c2.at_ n a _ hm2 e5
                      obtain ⟨y, y1, y2⟩ := t6.get e7
                      obtain ⟨b1, b2, b3, b4⟩ := ixN_seq e6
                      rw [sizeLine_eq] at hl
                      refine ⟨a, ws, k, j, y, rfl, rfl, t5, by omega, by omega, by rw [← t6.length]; exact b1, y1, ?_⟩
                      have ff := fut_set (o' := .lst (ws.eraseIdx j)) t5 (List.mem_of_getElem? hm2) trivial
                      exact Run.ok (rep := RepU G) (Run.pre q3 ff) (cells_set c2 hm2 t5 s5 trivial ⟨s5, _, upd_same, t6.eraseIdx j⟩) (.d (Rep.mono ff.ss _ _ y2))
                    · rw [if_neg hl] at q3; exact q3.elim
              | _ => exact q3.elim
        | _ => exact q1.elim
/-! ### text * int -/
def oRepT : D → D → Store → R U
  | .str t, .int k, τ => if 2 ≤ k ∧ k ≤ 1000 ∧ 1 ≤ t.length ∧ t.length ≤ 1000 then .ok (.d (.str (List.replicate k.toNat t).flatten)) τ else .bad
  | _, _, _ => .bad
def rMulS : R2 := fun x y H Q => ∃ (i : Str) (k : Int), x = .str i ∧ y = .int k ∧ 2 ≤ k ∧ k ≤ 1000 ∧ 1 ≤ i.length ∧ i.length ≤ 1000 ∧ Q (.str ⟨(List.replicate k.toNat i.cps).foldl (· ++ ·) #[]⟩) H
theorem op_mulS : OpR X (binaryOp .Mult) rMulS := by
  intro pins s σ H x y v u Q I rx ry h
  obtain ⟨i, k, rfl, rfl, h1, h2, h3, h4, q⟩ := h
  obtain ⟨t, rfl⟩ : ∃ t, v = Value.str i t := rx
  obtain ⟨t2, rfl⟩ := ry
  have hm : i.length * k.toNat ≤ 1000 * 1000 := Nat.mul_le_mul h4 (by omega)
  have hT : Builtin.Str.tooLong (i.length * k.toNat) = false := by
    unfold Builtin.Str.tooLong
    have := sizeLine_eq
    first
    | (apply decide_eq_false; omega)
    | (simp; omega)
  refine PySem.P.mul_str ?_ (fun _ _ => ?_) (fun _ _ => hT) ?_
  · rw [decide_eq_false (by omega), decide_eq_false (by omega)]; rfl
  · have : (2 ^ 63 - 1) / 1000 ≤ (2 ^ 63 - 1) / k := by
      first
      | exact Int.ediv_le_ediv_left (by omega) (by omega) (by omega)
      | (apply Int.le_ediv_of_mul_le (by omega)
         omega)
    omega
  · rw [if_neg (by omega), if_neg (by simp; omega)]
    refine ⟨fits_reps hT, .str _, H, I.tok _, ⟨_, rfl⟩, q⟩
theorem s_repT : OpS G oRepT rMulS := by
  intro z a b τ x y W Q c ra rb q
  match a, b, ra, rb, q with
  | .str t, .int k, ra, rb, q =>
    rw [ra.str_, rb.int_]
    have q : Run G (RepU G) (if 2 ≤ k ∧ k ≤ 1000 ∧ 1 ≤ t.length ∧ t.length ≤ 1000 then .ok (.d (.str (List.replicate k.toNat t).flatten)) τ else .bad) W z Q := q
    by_cases h : 2 ≤ k ∧ k ≤ 1000 ∧ 1 ≤ t.length ∧ t.length ≤ 1000
    · rw [if_pos h] at q
      refine ⟨t.s, k, rfl, rfl, h.1, h.2.1, by rw [T.len]; exact h.2.2.1, by rw [T.len]; exact h.2.2.2, ?_⟩
      have e : (⟨(List.replicate k.toNat t.s.cps).foldl (· ++ ·) #[]⟩ : Str) = T.s (List.replicate k.toNat t).flatten := by
        have g : ∀ (n : Nat) (acc : T), (List.replicate n (List.toArray t)).foldl (· ++ ·) acc.toArray = (acc ++ (List.replicate n t).flatten).toArray := fun n => by
          induction n with
          | zero => intro acc; simp
          | succ n ih => intro acc; rw [List.replicate_succ, List.foldl_cons, List.replicate_succ, List.flatten_cons, ← List.append_assoc, ← ih (acc ++ t)]; simp
        have := g k.toNat []
        unfold T.s
        simpa using this
      rw [e]
      exact Run.ok (rep := RepU G) q c (.d (.str _))
    · rw [if_neg h] at q; exact q.elim
end
end VL

/-! The value layer, W: sorted(d.items()). -/
namespace VL
open PySem PySem.Spec PyProof.Rows L2 LamX
section
variable {G : Gd} {τ : Store}
theorem cells_putT : ∀ (ts : List Addr) (ps : List (Key × V)) {z : Z}, Cells G z τ → (∀ t ∈ ts, z.H t = none) → ts.Nodup → Cells G ⟨LiI.putT z.S ts ps, LiI.putT z.H ts ps, z.ms⟩ τ ∧ Fut z ⟨LiI.putT z.S ts ps, LiI.putT z.H ts ps, z.ms⟩
  | [], ps, z, c, _, _ => by
    have e : ∀ H : Hp, LiI.putT H [] ps = H := fun H => by unfold LiI.putT; rfl
    rw [e, e]
    exact ⟨c, Fut.refl z⟩
  | t :: ts, [], z, c, _, _ => ⟨c, Fut.refl z⟩
  | t :: ts, p :: ps, z, c, h, nd => by
    have h0 := h t List.mem_cons_self
    have n1 := List.nodup_cons.mp nd
    have c1 := cells_sh (o := .tup [kV p.1, p.2]) c h0
    have f1 := fut_sh (o := .tup [kV p.1, p.2]) (c.none_ h0) h0
    obtain ⟨c2, f2⟩ := cells_putT ts ps (z := ⟨upd z.S t (.tup [kV p.1, p.2]), upd z.H t (.tup [kV p.1, p.2]), z.ms⟩) c1 (fun u hu => (upd_ne fun (e : u = t) => n1.1 (by rw [← e]; exact hu)).trans (h u (List.mem_cons_of_mem _ hu))) n1.2
    exact ⟨c2, f1.trans f2⟩
end
section
variable {X : Cx} {pins : List (Addr × Obj)} {σ : L2.St} {H : Hp} {s : Shared}
theorem tups_laid {h' : Heap} {tk : Nat} {kvs : List (Key × V)} {vs : List (Key × Value)} {ts : List Addr} (I : Inv X pins σ H s) (kv : KV kvs vs) (hk : ∀ b o, s.heap.get? b = some o → h'.get? b = some o) (hl : ts.length = vs.length) (g : PySem.W.KdxG (mixKind X.prog X.w) vs s.heap.objs.size h' ts) :
    (∀ t ∈ ts, H t = none) ∧ ts.Nodup ∧ Paired (fun (t : Addr) (q : Key × V) => LiI.putT H ts kvs t = some (.tup [kV q.1, q.2])) ts kvs ∧ Inv X pins σ (LiI.putT H ts kvs) { s with heap := h', toks := tk } := by
  have lk : kvs.length = vs.length := Paired.length kv
  have nd : ts.Nodup := List.Pairwise.imp (fun {a b} (h : a < b) => Nat.ne_of_lt h) g.rise
  have fresh : ∀ t ∈ ts, H t = none := fun t ht => I.hok.fresh (Nat.le_of_lt (g.above t ht))
  have pr := LiI.putT_at ts kvs H (by omega) nd
  have rest : ∀ b, b ∉ ts → LiI.putT H ts kvs b = H b := fun b hb => LiI.putT_off ts kvs H hb
  have old : ∀ b o, s.heap.get? b = some o → b ∉ ts := fun b o e m => absurd (Heap.lt_size e) (Nat.not_lt.mpr (Nat.le_of_lt (g.above b m)))
  have stay : ∀ b u, H b = some u → LiI.putT H ts kvs b = some u := fun b u e => by
    rw [rest b fun m => by rw [fresh b m] at e; cases e]
    exact e
  refine ⟨fresh, nd, pr, I.call' (ch := []) rfl ⟨fun b o q _ _ _ => hk b o q, fun b o q _ _ _ => ⟨o.slots, hk b o q⟩, fun b o q n _ => (rest b (old b o q)).trans n, fun b o q _ => ⟨o, hk b o q⟩, fun b xs q => stay b _ q, fun b o u q => stay b _ q, fun b ps q => ⟨#[], by rw [stay b _ q]; simp⟩⟩ (fun b u q => ?_) I.bare fun b m => by simp at m⟩
  by_cases hb : b ∈ ts
  · obtain ⟨j, pk, e1, e2, e3⟩ := LiI.paired_ix pr hb
    rw [e3] at q
    cases q
    obtain ⟨key, k, x, f1, f2, f3⟩ := g.pairs j b e1
    obtain ⟨qv, g1, g2, g3⟩ := LiI.paired_get kv e2
    rw [f1] at g1
    cases g1
    have rk : RelV (kV pk.1) key := by
      rw [g2]
      exact relV_key (show keyIs k key = true from f2)
    exact ⟨by show 2 ≤ sizeLine; decide, [key, x], .cons rk (.cons g3 .nil), ⟨_, f3, rfl, _, rfl⟩⟩
  · rw [rest b hb] at q
    exact (I.hok b u q).stay (fun d v _ y => hk d v y) (fun d y => stay d _ y) fun d xs y => stay d _ y
theorem tk_all (I : Inv X pins σ H s) : ∀ {xs : List V} {its : List Value} {ks : List (List Ky)}, Vals xs its → Paired (fun x k => ∃ t, x = V.ref t ∧ SqT X.K H t (k.map fun k => kV k.k)) xs ks →
    (∀ v ∈ its, ∃ k ∈ ks, IsTK s.heap v k) ∧ its.map (fun u => (bkV u, keyAt s.heap u)) = xs.zip ks
  | _, _, _, .nil, .nil => ⟨fun v m => by simp at m, rfl⟩
  | _, _, _, .cons r1 r2, .cons h1 h2 => by
    obtain ⟨t, rfl, ht⟩ := h1
    cases r1
    obtain ⟨i1, i2⟩ := tk_all I r2 h2
    have k1 := tk_of I ht
    refine ⟨fun v m => ?_, ?_⟩
    · rcases List.mem_cons.mp m with e | m
      · exact ⟨_, List.mem_cons_self, e ▸ k1⟩
      · obtain ⟨k, m1, m2⟩ := i1 v m
        exact ⟨k, List.mem_cons_of_mem _ m1, m2⟩
    · rw [List.map_cons, i2, keyAt_eq k1]
      rfl
end
theorem paired_wk {α β : Type} {R R' : α → β → Prop} (w : ∀ x y, R x y → R' x y) : ∀ {xs : List α} {ys : List β}, Paired R xs ys → Paired R' xs ys
  | _, _, .nil => .nil
  | _, _, .cons h t => .cons (w _ _ h) (paired_wk w t)
/-- the rows of a dict with such values -/
def itKs : List (Ky × D) → Option (List (List Ky))
  | [] => some []
  | (k, d) :: r => match d.ky, itKs r with
    | some y, some ks => some ([k, y] :: ks)
    | _, _ => none
def fSortIt (own : Bool) (f : List Bool) (kvs : List (Ky × D)) (τ : Store) : R U := match itKs kvs with
  | some ks => if kvs.length ≤ sizeLine ∧ ks.all (fun k => form k == f) = true then allocL own ((srt ks).map fun k => .tup (k.map Ky.d)) τ else .bad
  | none => .bad
def eSortIt (own : Bool) (f : List Bool) (fe : EV) : EV := fun ρ τ => (fe ρ τ).bind fun u τ1 => match vw τ1 u with
  | some (.dct kvs) => fSortIt own f kvs τ1
  | _ => .bad
section
variable {G : Gd} {z : Z}
theorem itKs_len : ∀ {kvs : List (Ky × D)} {ks : List (List Ky)}, itKs kvs = some ks → ks.length = kvs.length
  | [], _, e => by cases e; rfl
  | (k, d) :: r, ks, e => by
    unfold itKs at e
    cases e1 : d.ky with
    | none => rw [e1] at e; simp at e
    | some y =>
      cases e2 : itKs r with
      | none => rw [e1, e2] at e; cases e
      | some ks' =>
        rw [e1, e2] at e
        cases e
        simp [itKs_len e2]
theorem it_paired {S : Hp} : ∀ {kvs : List (Ky × D)} {ps : List (Key × V)} {ks : List (List Ky)} {ts : List Addr}, RepK G S kvs ps → itKs kvs = some ks → Paired (fun (t : Addr) (q : Key × V) => S t = some (.tup [kV q.1, q.2])) ts ps →
    Paired (fun x k => ∃ t, x = V.ref t ∧ S t = some (.tup (k.map fun k => kV k.k))) (ts.map V.ref) ks
  | _, _, _, _, .nil, e, .nil => by cases e; exact .nil
  | _, _, ks, _, .cons (k := k) (d := d) h1 h2, e, .cons (a := t) g1 g2 => by
    unfold itKs at e
    cases e1 : d.ky with
    | none => rw [e1] at e; simp at e
    | some y =>
      cases e2 : itKs _ with
      | none => rw [e1, e2] at e; cases e
      | some ks' =>
        rw [e1, e2] at e
        cases e
        exact .cons ⟨t, rfl, by rw [g1, rep_ky e1 h1]; rfl⟩ (it_paired h2 e2 g2)
theorem reps_paired {S : Hp} : ∀ {xs : List V} {ks : List (List Ky)}, Paired (fun x k => ∃ t, x = V.ref t ∧ S t = some (.tup (k.map fun k => kV k.k))) xs ks → ∀ x ∈ xs.zip ks, Rep G S (.tup (x.2.map Ky.d)) x.1
  | _, _, .nil, x, m => by simp at m
  | _, _, .cons h t, x, m => by
    rw [List.zip_cons_cons] at m
    rcases List.mem_cons.mp m with e | m
    · obtain ⟨a, e1, e2⟩ := h
      rw [e]
      subst e1
      refine .tup (SqT.of e2) ?_
      have : ∀ k : List Ky, Reps G S (k.map Ky.d) (k.map fun k => kV k.k) := fun k => by
        induction k with
        | nil => exact .nil
        | cons a k ih => exact .cons (rep_ofky a) ih
      exact this _
    · exact reps_paired t x m
end
section
variable {X : Cx} {G : Gd} {W : WX} {e : Expr} {f : EV} {p apos cpos pos : Pos}
theorem v_sortIt {own : Bool} {b : Bool} {fm : List Bool} (hK : X.K = G.K) (hc : X.calm = true) (hg : Gl X "sorted") (hm : X.mg "sorted" = none) (he : PE X e (VE G W f)) (hbase : attributeBase e "items" X.env (eval e X.env) = eval e X.env := by rfl) (hline : (apos.endLine == cpos.line) = true := by rfl) :
    PE X (.Call (.Name "sorted" p) [.Call (.Attribute e "items" apos) [] [] cpos] [] pos) (VE G W (eSortIt own (b :: fm) f)) := by
  refine ⟨fun pins s σ H Q I ⟨z, ρ, τ, hz, c, en, h⟩ => ?_⟩
  refine Call_ (ld_blt I hg hm (u := .builtin "sorted") rfl ?_)
  refine PyProof.Rows.callWith_builtin1 (PyProof.Rows.args_cons ?_ rfl) rfl rfl
  refine wpAny_Call_method (T := "dict") (id := "dict.items") hbase rfl hline F.plainAttrs_dict F.slot_dict_items F.type_dict_items (thn (he.run pins s σ H _ I ⟨z, ρ, τ, hz, c, en, Run.bind h⟩) fun v s1 ⟨x, H1, I1, r1, z1, u, τ1, e1, f1, c1, ru, q1⟩ => ?_)
  subst e1
  cases e2 : vw τ1 u with
  | none => rw [e2] at q1; exact q1.elim
  | some dd =>
    rw [e2] at q1
    cases dd with
    | dct kvs =>
      have q1 : Run G (RepU G) (fSortIt own (b :: fm) kvs τ1) (fun c d H' => W c d σ H') z1 Q := q1
      obtain ⟨d, ps, rfl, hd, hrk⟩ := (vw_rep c1 ru e2).dct_ c1
      obtain rfl : v = Value.ref d := r1
      obtain ⟨hz0, hs0, vs, kv, hdo⟩ := dk_rd I1.hok hd
      obtain ⟨ep, hat⟩ := hdo.dictAt
      have lk : ps.length = vs.length := Paired.length kv
      unfold fSortIt at q1
      cases e3 : itKs kvs with
      | none => rw [e3] at q1; exact q1.elim
      | some ks =>
        rw [e3] at q1
        simp only at q1
        by_cases hl : kvs.length ≤ sizeLine ∧ ks.all (fun k => form k == b :: fm) = true
        · rw [if_pos hl] at q1
          have I2 : Inv X pins σ z1.H { s1 with heap := s1.heap.push { cls := .type "dict_items", data := .fields #[.ref d] } } := I1.kept (t' := s1.toks) fun b ob q => Heap.get?_push_of_some _ q
          refine ⟨hdo.typeIs, hdo.mapOf.noDict, ?_⟩
          show wpAny _ _ (callWith cpos (.builtin "dict.items") [.ref d] [] []) _ X.xe s1
          refine method_meetsIn F.slot_dict_items F.entry_dict_items rfl (PySem.evalArgs_none ⟨rfl, hdo.typeIs, F.args_dict_items_1 _, _, meets_dict_items (mixKind X.prog X.w) d hs0, ⟨vs, hdo⟩, ?_⟩)
          refine PyProof.Rows.args_nil ?_
          refine Calls.call_function_entry kind_sorted plain_sorted entry_sorted (args_sorted1 _) ?_
          unfold Builtin.«sorted»
          refine wpAny_bind (m := checkCount "sorted" 1 1 _) (wpAny_pure (wpAny_bind (PySem.W.kdx_collect (A := X.A.in1) (knd := mixKind X.prog X.w) (kvs := vs) (ep := ep) (I1.ok.hd hc) ⟨_, Heap.get?_push_size _ rfl, rfl, rfl⟩ (hat.push _) (by omega) fun h' tk ts k1 k2 k3 => ?_)))
          obtain ⟨t1, t2, t3, J⟩ := tups_laid (tk := tk) I2 kv k1 k2 k3
          have lts : (ts.map Value.ref).length ≤ sizeLine := by rw [List.length_map, k2]; omega
          refine wpAny_bind (wpAny_newList ?_ lts)
          obtain ⟨c2, f2⟩ := cells_putT ts ps c1 t1 t2
          have at1 : (h'.push (seqObj "list" (ts.map Value.ref).toArray 0)).get? h'.objs.size = some (seqObj "list" (ts.map Value.ref).toArray 0) := Heap.get?_push_size _ rfl
          have J2 : Inv X pins σ (LiI.putT z1.H ts ps) { s1 with heap := h'.push (seqObj "list" (ts.map Value.ref).toArray 0), toks := tk } := J.kept (t' := tk) fun b ob q => Heap.get?_push_of_some _ q
          have prS := LiI.putT_at ts ps z1.S (by rw [k2]; exact lk.symm) t2
          have pk := it_paired (S := LiI.putT z1.S ts ps) (RepK.mono f2.ss _ _ hrk) e3 prS
          have pkH : Paired (fun x k => ∃ t, x = V.ref t ∧ SqT X.K (LiI.putT z1.H ts ps) t (k.map fun k => kV k.k)) (ts.map V.ref) ks := by
            exact paired_wk (fun x k ⟨t, e, ht⟩ => ⟨t, e, SqT.of (c2.sub _ _ ht)⟩) pk
          obtain ⟨a1, a2⟩ := tk_all J2 (LiI.vals_refs ts) pkH
          have hf : ∀ k ∈ ks, form k = b :: fm := fun k m => beq_iff_eq.mp (List.all_eq_true.mp hl.2 k m)
          refine wpAny_bind (wpAny_holding (wpAny_call_entry slot_list_sort ⟨_, at1, rfl⟩ entry_list_sort (SrtO.list_sort_ord (swo_key (h'.push (seqObj "list" (ts.map Value.ref).toArray 0))) at1 lts (fun h2 => ?_) fun out o1 o2 => ⟨_, rfl, ?_⟩) (args_list_sort _)))
          · refine tk_sortable (P := X.prog) (w := X.w) (s := { s1 with heap := h'.push (seqObj "list" (ts.map Value.ref).toArray 0), toks := tk }) (b := b) (f := fm) (by omega) (fun v m => ?_) fun o eo => ?_
            · obtain ⟨k, m1, m2⟩ := a1 v m
              exact ⟨k, m2, hf k m1⟩
            · have e' : some o = some (seqObj "list" (ts.map Value.ref).toArray 0) := eo.symm.trans at1
              cases e'
              exact fun c => absurd (Value.type.inj c) (by decide)
          · obtain ⟨cc, hcc⟩ := sortedHeap_at (vs := ts.map Value.ref) (out := out.toArray) at1
            have refs : ∀ u ∈ out, ∃ t, u = Value.ref t := fun u hu => by
              obtain ⟨k, _, a, _, _, _, e, _⟩ := a1 u (o2.perm.mem_iff.mp hu)
              exact ⟨a, e⟩
            have pz : (out.map fun u => (bkV u, keyAt (h'.push (seqObj "list" (ts.map Value.ref).toArray 0)) u)).Perm ((ts.map V.ref).zip ks) := by
              rw [← a2]
              exact o2.perm.map _
            have hlen : ks.length = (ts.map V.ref).length := (paired_len pkH).symm
            have hz2 : ((ts.map V.ref).zip ks).map (·.2) = ks := by rw [List.map_snd_zip (by omega)]
            have ez : (out.map fun u => (bkV u, keyAt (h'.push (seqObj "list" (ts.map Value.ref).toArray 0)) u)).map (·.2) = srt ks := by
              refine srt_uniq ?_ ?_
              · have := pz.map (·.2)
                rwa [hz2] at this
              · rw [List.map_map]
                exact List.pairwise_map.mpr (o1.imp fun h => of_decide_eq_false h)
            have hn : LiI.putT z1.H ts ps h'.objs.size = none := J.hok.fresh (Nat.le_refl _)
            have few : (out.map bkV).length ≤ sizeLine := by rw [List.length_map, o2.perm.length_eq]; exact lts
            have L := J.laid (a := h'.objs.size) (o := .lst (out.map bkV)) (t' := tk) (h' := sortedHeap (h'.push (seqObj "list" (ts.map Value.ref).toArray 0)) h'.objs.size (ts.map Value.ref) out.toArray) (fun b u q => by
              have lt := Heap.lt_size q
              exact (sortedHeap_old (Nat.ne_of_lt lt) (by rw [size_push']; exact Nat.lt_succ_of_lt lt)).trans (Heap.get?_push_of_some _ q)) (Nat.le_refl _) ⟨few, out, cc, bkV_vals refs, hcc⟩
            refine wpAny_pure ⟨_, rfl, .ref h'.objs.size, _, L, rfl, ?_⟩
            refine alloc_lst (own := own) (z := ⟨LiI.putT z1.S ts ps, LiI.putT z1.H ts ps, z1.ms⟩) c2 hn ?_ (Run.pre q1 f2)
            rw [← ez]
            have := reps_of_zs (G := G) (S := LiI.putT z1.S ts ps) (zs := out.map fun u => (bkV u, keyAt (h'.push (seqObj "list" (ts.map Value.ref).toArray 0)) u)) fun x m => reps_paired pk x (pz.mem_iff.mp m)
            rw [List.map_map (g := fun x : V × List Ky => x.1)] at this
            exact this
        · rw [if_neg hl] at q1; exact q1.elim
    | _ => exact q1.elim
end
end VL

/-! The value layer, X: a class's methods by name; what a head must tell of a class. -/
namespace VL
open PySem PySem.Spec PyProof.Rows L2 LamX
theorem u1 {n : Nat} (h : n + 64 < cLine) : n + 1 < cLine := by omega
/-- an own class by name -/
structure ClsD (mg : Str → Option Value) (G : Gd) (x : Str) (c : Nat) (fs : List Str) : Prop where
  g : mg x = some (.ref (G.ca c))
  cl : Cls G.K (G.ca c)
  no : ∀ f ∈ fs, NoAttr G.K (G.ca c) f
  ins : C8.InsC G.K (G.ca c)
  str : PySem.W.kitOne G.K (.ref (G.ca c)) (.type "str") = some false
structure InitD (P : Program) (w : World) (mg : Str → Option Value) (base : Heap) (G : Gd) (c k n a : Nat) (ps ks : List Str) (os : List Nat) (F : List U → Store → R U) : Prop where
  ex : ∃ f fd, Mk G.K (G.ca c) f ∧ FnV P w G.K mg base k f fd ps (spV G n F) ∧ Bnd G.K fd ps (a + 1) ks [] os
structure StrD (P : Program) (w : World) (mg : Str → Option Value) (base : Heap) (G : Gd) (c k : Nat) (F : List U → Store → R U) : Prop where
  ex : ∃ f fd ps, StrI G.K (G.ca c) f ∧ FnV P w G.K mg base k f fd ps (spV G 1 F) ∧ Bnd0 fd ps 1
structure EqD (P : Program) (w : World) (mg : Str → Option Value) (base : Heap) (G : Gd) (c k : Nat) (F : List U → Store → R U) : Prop where
  ex : ∃ f fd ps, NeI G.K (G.ca c) f ∧ FnV P w G.K mg base k f fd ps (spV G 2 F) ∧ Bnd0 fd ps 2
structure CmD (P : Program) (w : World) (mg : Str → Option Value) (base : Heap) (G : Gd) (c k : Nat) (m nm : Str) (F : List U → Store → R U) : Prop where
  ex : ∃ p g mc fd ps, ClX.CRead G.K (G.ca c) mc ∧ ClX.CMet G.K (G.ca c) mc m p g ∧ FnV P w G.K mg base k g fd ps (spV G 2 F) ∧ Bnd0 fd ps 2 ∧ ∀ (s : Shared) (a b : Value), BindsTo s fd ⟨[a], [(nm, b)]⟩ (ps.zip [a, b])
section
variable {X : Cx} {G : Gd} {W : WX} {c k j n : Nat} {ps ks : List Str} {F : List U → Store → R U} {os : List Nat} {x y m nm : Str} {p pos apos p2 kpos : Pos} {e a b : Expr} {es : List Expr} {kws : List Keyword} {fs fk : EL} {f fe fa fb : EV} {fl : List Str}
theorem v_makeD {a m' : Nat} (V : InitD X.prog X.w X.mg X.base G c k n a ps ks os F) (hK : X.K = G.K) (hr : Room j X.A) (hj : k + 1 ≤ j) (hgd : X.A.guards = some []) (tk : Takes X W) (D : ClsD X.mg G x c fl) (hps : ps.length = n) (hmk : ks.length = m') (hos : ∀ l : List U, l.length = a + 1 + m' → (pickL os l).length = n)
    (ha : PA X (e :: es) (VA G W fs)) (hkw : PK X kws (VA G W fk)) (hg : Gl X x) (hall : (backToKw pos (keywordEach kws X.env)).all (·.1.isSome) = true := by rfl) (hks : (backToKw pos (keywordEach kws X.env)).filterMap (·.1) = ks := by rfl)
    (hdb : (x == ("__debug__" : Str)) = false := by decide) (he : starEach (e :: es) X.env = (false, eval e X.env) :: starEach es X.env := by rfl)
    (hpl : ((backTo pos (starEach (e :: es) X.env)).any (·.1) || (backToKw pos (keywordEach kws X.env)).any (·.1.isNone)) = false := by rfl) : PE X (.Call (.Name x p) (e :: es) kws pos) (VE G W (eMake c a m' F os fs fk)) := by
  obtain ⟨f, fd, h1, h2, h3⟩ := V.ex
  rw [← hK] at h1 h2 h3
  exact v_make h1 h2 (hr.mono hj) hgd tk D.g h3 hps hmk hos ha hkw hg hall hks hdb he hpl
theorem v_makeLD {i a m' : Nat} (V : InitD X.prog X.w X.mg X.base G c k n a ps ks os F) (hK : X.K = G.K) (hr : Room j X.A) (hj : k + 1 ≤ j) (hgd : X.A.guards = some []) (tk : Takes X W) (hN : X.N[i]? = some x) (hv : Vis X.env.scope x) (hps : ps.length = n) (hmk : ks.length = m') (hos : ∀ l : List U, l.length = a + 1 + m' → (pickL os l).length = n)
    (ha : PA X (e :: es) (VA G W fs)) (hkw : PK X kws (VA G W fk)) (hall : (backToKw pos (keywordEach kws X.env)).all (·.1.isSome) = true := by rfl) (hks : (backToKw pos (keywordEach kws X.env)).filterMap (·.1) = ks := by rfl)
    (hdb : (x == ("__debug__" : Str)) = false := by decide) (hcd : (x == ("__classdict__" : Str)) = false := by decide) (he : starEach (e :: es) X.env = (false, eval e X.env) :: starEach es X.env := by rfl)
    (hpl : ((backTo pos (starEach (e :: es) X.env)).any (·.1) || (backToKw pos (keywordEach kws X.env)).any (·.1.isNone)) = false := by rfl) : PE X (.Call (.Name x p) (e :: es) kws pos) (VE G W (eMakeL i c a m' F os fs fk)) := by
  obtain ⟨f, fd, h1, h2, h3⟩ := V.ex
  rw [← hK] at h1 h2 h3
  exact v_makeL h1 h2 (hr.mono hj) hgd tk hN hv h3 hps hmk hos ha hkw hall hks hdb hcd he hpl
theorem v_strD (V : StrD X.prog X.w X.mg X.base G c k F) (hK : X.K = G.K) (hr : Room j X.A) (hj : k + 2 ≤ j) (hgd : X.A.guards = some []) (hm : X.mg "str" = none) (hg : Gl X "str") (he : PE X e (VE G W fe))
    (h1 : starEach [e] X.env = (false, eval e X.env) :: starEach [] X.env := by rfl) (hpl : (backTo pos (starEach [] X.env)).any (·.1) = false := by rfl) : PE X (.Call (.Name "str" p) [e] [] pos) (VE G W (eStrI c F fe)) := by
  obtain ⟨f, fd, ps, q1, q2, q3⟩ := V.ex
  rw [← hK] at q1 q2
  exact v_strI q1 q2 q3 (hr.mono hj) hgd hg hm he h1 hpl
theorem v_eqD (V : EqD X.prog X.w X.mg X.base G c k F) (hK : X.K = G.K) (hr : Room j X.A) (hj : k ≤ j) (hgd : X.A.guards = some []) (ha : PE X a (VE G W fa)) (hbb : PE X b (VE G W fb)) (hm : behindInMarks .Eq b = false := by rfl) :
    PE X (.Compare a [.Eq] [b] pos) (VE G W (eEqI c F fa fb)) := by
  obtain ⟨f, fd, ps, q1, q2, q3⟩ := V.ex
  rw [← hK] at q1 q2
  exact v_eqI ⟨q1.at_, q1.fn⟩ q2 q3 (hr.mono hj) hgd ha hbb hm
theorem v_neD (V : EqD X.prog X.w X.mg X.base G c k F) (hK : X.K = G.K) (hr : Room j X.A) (hj : k + 1 ≤ j) (hgd : X.A.guards = some []) (ha : PE X a (VE G W fa)) (hbb : PE X b (VE G W fb)) (hm : behindInMarks .NotEq b = false := by rfl) :
    PE X (.Compare a [.NotEq] [b] pos) (VE G W (eNeI c F fa fb)) := by
  obtain ⟨f, fd, ps, q1, q2, q3⟩ := V.ex
  rw [← hK] at q1 q2
  exact v_neI q1 q2 q3 (hr.mono hj) hgd ha hbb hm
theorem v_cmD (V : CmD X.prog X.w X.mg X.base G c k m nm F) (hK : X.K = G.K) (hr : Room j X.A) (hj : k ≤ j) (hgd : X.A.guards = some []) (tk : Takes X W) (D : ClsD X.mg G y c fl) (hg : Gl X y) (ha : PA X (e :: es) (VA G W fs))
    (hdb : (y == ("__debug__" : Str)) = false := by decide) (hst : starEach (e :: es) X.env = (false, eval e X.env) :: starEach es X.env := by rfl) (hpl : (backTo pos (starEach es X.env)).any (·.1) = false := by rfl) {pl : Sem Bool}
    (ht : eval (.Call (.Attribute (.Name y p2) m apos) (e :: es) [] pos) X.env = (do
      let ov ← eval (.Name y p2) X.env
      standAt apos.atName
      let (f, first) ← holding [ov] (getMethod ov m pl)
      callWith pos f first (backTo pos (starEach (e :: es) X.env)) (backToKw pos (keywordEach [] X.env))) := by rfl) :
    PE X (.Call (.Attribute (.Name y p2) m apos) (e :: es) [] pos) (VE G W (eCM c 2 F fs)) := by
  obtain ⟨p', g, mc, fd, ps, q1, q2, q3, q4, q5⟩ := V.ex
  rw [← hK] at q1 q2 q3
  exact v_cm (pl := pl) q3 (hr.mono hj) hgd tk hg D.g q1 q2 q4 ha hdb hst hpl ht
theorem v_cmKD (V : CmD X.prog X.w X.mg X.base G c k m nm F) (hK : X.K = G.K) (hr : Room j X.A) (hj : k ≤ j) (hgd : X.A.guards = some []) (tk : Takes X W) (D : ClsD X.mg G y c fl) (hg : Gl X y) (ha : PE X e (VE G W f))
    (hdb : (y == ("__debug__" : Str)) = false := by decide)
    (hall : (backToKw pos (keywordEach [⟨some nm, e, kpos⟩] X.env)).all (·.1.isSome) = true := by rfl) (hks : (backToKw pos (keywordEach [⟨some nm, e, kpos⟩] X.env)).filterMap (·.1) = [nm] := by rfl)
    (hpl : ((backTo pos (starEach [] X.env)).any (·.1) || (backToKw pos (keywordEach [⟨some nm, e, kpos⟩] X.env)).any (·.1.isNone)) = false := by rfl) {pl : Sem Bool}
    (ht : eval (.Call (.Attribute (.Name y p2) m apos) [] [⟨some nm, e, kpos⟩] pos) X.env = (do
      let ov ← eval (.Name y p2) X.env
      standAt apos.atName
      let (f, first) ← holding [ov] (getMethod ov m pl)
      callWith pos f first (backTo pos (starEach [] X.env)) (backToKw pos (keywordEach [⟨some nm, e, kpos⟩] X.env))) := by rfl) :
    PE X (.Call (.Attribute (.Name y p2) m apos) [] [⟨some nm, e, kpos⟩] pos) (VE G W (eCMK c F f)) := by
  obtain ⟨p', g, mc, fd, ps, q1, q2, q3, q4, q5⟩ := V.ex
  rw [← hK] at q1 q2 q3
  exact v_cmK (pl := pl) q3 (hr.mono hj) hgd tk hg D.g q1 q2 q5 ha hdb hall hks hpl ht
theorem v_fldD (hK : X.K = G.K) (D : ClsD X.mg G x c fl) {f : Str} {ft : T} (hf : f ∈ fl) (hft : f = ft.s) {fo : EV} (he : PE X e (VE G W fo)) (hb : attributeBase e f X.env (eval e X.env) = eval e X.env := by rfl) : PE X (.Attribute e f pos) (VE G W (eFld c ft fo)) :=
  v_fld hK D.cl (D.no f hf) hft he hb
theorem s_setFD (hK : X.K = G.K) (D : ClsD X.mg G x c fl) {o : Expr} {f : Str} {ft : T} (hf : f ∈ fl) (hft : f = ft.s) {fo : EV} (he : PE X e (VE G W fe)) (ho : PE X o (VE G W fo)) (hs : swapsWith e (some (.Attribute o f p2)) pos.line X.env = pure false := by rfl) :
    PS X (.Assign [.Attribute o f p2] e pos) (VS G W (gSetF c ft fo fe)) :=
  s_setF hK D.cl (D.no f hf) hft he ho hs
/-- a test over two values of any kind -/
theorem vb_cmpU {op : CmpOp} {g : U → U → Store → R U} {r : R2} (ho : OpR X (compareOp op) r) (hs : ∀ (z : Z) (u w : U) (τ : Store) (x y : V) (W : XK) (Q : VK), Cells G z τ → RepU G z u x → RepU G z w y → Run G (RepU G) (g u w τ) W z Q → r x y z.H Q)
    (ha : PE X a (VE G W fa)) (hb : PE X b (VE G W fb)) (hm : behindInMarks op b = false) : PT X (.Compare a [op] [b] pos) (VB G W (bOf fun ρ τ => (fa ρ τ).bind fun u τ1 => (fb ρ τ1).bind fun w τ2 => g u w τ2)) := by
  refine vb_tB (t := tOp r (VE G W fa) (VE G W fb)) (pt_cmpR ho ha hb hm) fun σ H Q ⟨z, ρ, τ, hz, c, en, q⟩ => ?_
  refine ⟨z, ρ, τ, hz, c, en, (Run.bind q).imp fun x H1 ⟨z1, u, τ1, e1, f, c1, r1, q1⟩ => ?_⟩
  subst e1
  refine ⟨z1, ρ, τ1, rfl, c1, en.fut f, (Run.bind q1).imp fun y H2 ⟨z2, w, τ2, e2, f2, c2, r2, q2⟩ => ?_⟩
  subst e2
  exact hs z2 u w τ2 x y _ Q c2 (r1.fut f2) r2 q2
theorem ne_read (z : Z) (u w : U) (τ : Store) (x y : V) (W : XK) (Q : VK) (cc : Cells G z τ) (r1 : RepU G z u x) (r2 : RepU G z w y) (q : Run G (RepU G) (gNeI c F u w τ) W z Q) : rNeI G c F x y z.H Q := by
  refine ⟨z, u, w, τ, rfl, cc, r1, r2, ?_⟩
  unfold gNeI at q ⊢
  split at q
  · split at q
    · rename_i h
      rw [if_pos h]
      split at q
      · exact q
      · exact q.elim
    · exact q.elim
  · exact q.elim
theorem eq_read (z : Z) (u w : U) (τ : Store) (x y : V) (W : XK) (Q : VK) (cc : Cells G z τ) (r1 : RepU G z u x) (r2 : RepU G z w y) (q : Run G (RepU G) (gEqI c F u w τ) W z Q) : rEqI G c F x y z.H Q := by
  refine ⟨z, u, w, τ, rfl, cc, r1, r2, ?_⟩
  unfold gEqI at q ⊢
  split at q
  · split at q
    · rename_i h
      rw [if_pos h]
      split at q
      · exact q
      · exact q.elim
    · exact q.elim
  · exact q.elim
theorem vb_eqD (V : EqD X.prog X.w X.mg X.base G c k F) (hK : X.K = G.K) (hr : Room j X.A) (hj : k ≤ j) (hgd : X.A.guards = some []) (ha : PE X a (VE G W fa)) (hbb : PE X b (VE G W fb)) (hm : behindInMarks .Eq b = false := by rfl) :
    PT X (.Compare a [.Eq] [b] pos) (VB G W (bOf (eEqI c F fa fb))) := by
  obtain ⟨f, fd, ps, q1, q2, q3⟩ := V.ex
  rw [← hK] at q1 q2
  exact vb_cmpU (op_eqI ⟨q1.at_, q1.fn⟩ q2 q3 (hr.mono hj) hgd) eq_read ha hbb hm
theorem vb_neD (V : EqD X.prog X.w X.mg X.base G c k F) (hK : X.K = G.K) (hr : Room j X.A) (hj : k + 1 ≤ j) (hgd : X.A.guards = some []) (ha : PE X a (VE G W fa)) (hbb : PE X b (VE G W fb)) (hm : behindInMarks .NotEq b = false := by rfl) :
    PT X (.Compare a [.NotEq] [b] pos) (VB G W (bOf (eNeI c F fa fb))) := by
  obtain ⟨f, fd, ps, q1, q2, q3⟩ := V.ex
  rw [← hK] at q1 q2
  exact vb_cmpU (op_neI q1 q2 q3 (hr.mono hj) hgd) ne_read ha hbb hm
end
end VL

/-! The value layer, Y: a mirror is reckoned. -/
namespace VL
open PySem PySem.Spec PyProof.Rows L2 LamX
theorem take_self (τ : Store) : τ.take τ.length = τ := List.take_length
theorem vws_cons (τ : Store) (x : D) (us : List U) : vws τ (.d x :: us) = match vws τ us with
  | some ds => some (x :: ds)
  | none => none := by
  show (match (some x : Option D), vws τ us with
    | some d, some ds => some (d :: ds)
    | _, _ => none) = _
  cases vws τ us <;> rfl
/-- signs of a text, all or kept, by a test that changes nothing -/
theorem compGo_all {t : TGv} {fe : EV} {ρ : Env} {h : D → D} {τ : Store} : ∀ (ds acc : List D), (∀ x ∈ ds, ∃ ρ1, t x ρ = some ρ1 ∧ fe ρ1 τ = .ok (.d (h x)) τ) → acc.length + ds.length ≤ sizeLine → compGo t bYes fe ρ ds τ acc = .ok (acc ++ ds.map h) τ
  | [], acc, _, _ => by simp [compGo]
  | d :: ds, acc, H, hl => by
    obtain ⟨ρ1, h1, h2⟩ := H d List.mem_cons_self
    simp only [List.length_cons] at hl
    have ih := compGo_all (t := t) (fe := fe) (ρ := ρ) (h := h) (τ := τ) ds (acc ++ [h d]) (fun x m => H x (List.mem_cons_of_mem _ m)) (by simp; omega)
    unfold compGo
    rw [h1]
    simp only [bYes, R.nx_ok, R.bind_ok, if_true, h2, frz_d]
    rw [if_pos (by omega), ih]
    simp
theorem compGo_some {t : TGv} {tb : EB} {fe : EV} {ρ : Env} {h : D → D} {p : D → Bool} {τ : Store} : ∀ (ds acc : List D), (∀ x ∈ ds, ∃ ρ1, t x ρ = some ρ1 ∧ tb ρ1 τ = .ok (p x) τ ∧ (p x = true → fe ρ1 τ = .ok (.d (h x)) τ)) → acc.length + ds.length ≤ sizeLine →
    compGo t tb fe ρ ds τ acc = .ok (acc ++ (ds.filter p).map h) τ
  | [], acc, _, _ => by simp [compGo]
  | d :: ds, acc, H, hl => by
    obtain ⟨ρ1, h1, h2, h3⟩ := H d List.mem_cons_self
    simp only [List.length_cons] at hl
    unfold compGo
    rw [h1]
    simp only [h2, R.nx_ok, R.bind_ok]
    cases e : p d with
    | true =>
      have ih := compGo_some (t := t) (tb := tb) (fe := fe) (ρ := ρ) (h := h) (p := p) (τ := τ) ds (acc ++ [h d]) (fun x m => H x (List.mem_cons_of_mem _ m)) (by simp; omega)
      simp only [if_true, h3 e, R.nx_ok, R.bind_ok, frz_d]
      rw [if_pos (by omega), ih, List.filter_cons_of_pos e]
      simp
    | false =>
      have ih := compGo_some (t := t) (tb := tb) (fe := fe) (ρ := ρ) (h := h) (p := p) (τ := τ) ds acc (fun x m => H x (List.mem_cons_of_mem _ m)) (by omega)
      simp only [Bool.false_eq_true, if_false]
      rw [ih, List.filter_cons_of_neg (by rw [e]; decide)]
end VL

namespace K82
open PySem PySem.Spec PyProof.Rows L2 LamX VL
/-! ### printed by gen2.py: the defs of duskwishes_k82_texts_of_ledgers -/
def top (i : Nat) : Stmt := PySem.Challenge.pw_duskwishes_k82_texts_of_ledgers.main.body.getD i (.Pass ⟨0, 0, 0, 0⟩)
theorem lit0 : (PySem.Str.ofString "abcdefghijklmnopqrstuvwxyz") = T.s [97, 98, 99, 100, 101, 102, 103, 104, 105, 106, 107, 108, 109, 110, 111, 112, 113, 114, 115, 116, 117, 118, 119, 120, 121, 122] := by decide +kernel
theorem lit1 : (PySem.Str.ofString "shore") = T.s [115, 104, 111, 114, 101] := by decide +kernel
theorem lit2 : (PySem.Str.ofString "") = T.s [] := by decide +kernel
theorem lit3 : (PySem.Str.ofString "0123456789") = T.s [48, 49, 50, 51, 52, 53, 54, 55, 56, 57] := by decide +kernel
theorem lit4 : (PySem.Str.ofString " ") = T.s [32] := by decide +kernel
theorem lit5 : (PySem.Str.ofString "-") = T.s [45] := by decide +kernel
theorem lit6 : (PySem.Str.ofString "entries") = T.s [101, 110, 116, 114, 105, 101, 115] := by decide +kernel
theorem lit7 : (PySem.Str.ofString "limits") = T.s [108, 105, 109, 105, 116, 115] := by decide +kernel
theorem lit8 : (PySem.Str.ofString "\n") = T.s [10] := by decide +kernel
theorem lit9 : (PySem.Str.ofString "weight") = T.s [119, 101, 105, 103, 104, 116] := by decide +kernel
theorem lit10 : (PySem.Str.ofString "load") = T.s [108, 111, 97, 100] := by decide +kernel
theorem lit11 : (PySem.Str.ofString "rush") = T.s [114, 117, 115, 104] := by decide +kernel
theorem lit12 : (PySem.Str.ofString "weight ") = T.s [119, 101, 105, 103, 104, 116, 32] := by decide +kernel
theorem lit13 : (PySem.Str.ofString "load ") = T.s [108, 111, 97, 100, 32] := by decide +kernel
theorem lit14 : (PySem.Str.ofString "rush ") = T.s [114, 117, 115, 104, 32] := by decide +kernel
theorem lit15 : (PySem.Str.ofString "0") = T.s [48] := by decide +kernel
theorem lit16 : (PySem.Str.ofString "row") = T.s [114, 111, 119] := by decide +kernel
theorem lit17 : (PySem.Str.ofString "word") = T.s [119, 111, 114, 100] := by decide +kernel
theorem lit18 : (PySem.Str.ofString "weight zz 1") = T.s [119, 101, 105, 103, 104, 116, 32, 122, 122, 32, 49] := by decide +kernel
theorem lit19 : (PySem.Str.ofString "weight b") = T.s [119, 101, 105, 103, 104, 116, 32, 98] := by decide +kernel
theorem lit20 : (PySem.Str.ofString "load -") = T.s [108, 111, 97, 100, 32, 45] := by decide +kernel
theorem lit21 : (PySem.Str.ofString "rush 0") = T.s [114, 117, 115, 104, 32, 48] := by decide +kernel
theorem lit22 : (PySem.Str.ofString "weight shore 1") = T.s [119, 101, 105, 103, 104, 116, 32, 115, 104, 111, 114, 101, 32, 49] := by decide +kernel
theorem lit23 : (PySem.Str.ofString "weight a 01") = T.s [119, 101, 105, 103, 104, 116, 32, 97, 32, 48, 49] := by decide +kernel
theorem lit24 : (PySem.Str.ofString "weights a 1") = T.s [119, 101, 105, 103, 104, 116, 115, 32, 97, 32, 49] := by decide +kernel
theorem lit25 : (PySem.Str.ofString "weight zzz 5 ") = T.s [119, 101, 105, 103, 104, 116, 32, 122, 122, 122, 32, 53, 32] := by decide +kernel
theorem lit26 : (PySem.Str.ofString "00") = T.s [48, 48] := by decide +kernel
theorem lit27 : (PySem.Str.ofString "-1") = T.s [45, 49] := by decide +kernel
theorem lit28 : (PySem.Str.ofString "a") = T.s [97] := by decide +kernel
theorem lit29 : (PySem.Str.ofString "A") = T.s [65] := by decide +kernel
theorem lit30 : (PySem.Str.ofString "10000000000") = T.s [49, 48, 48, 48, 48, 48, 48, 48, 48, 48, 48] := by decide +kernel
theorem lit31 : (PySem.Str.ofString "10000000001") = T.s [49, 48, 48, 48, 48, 48, 48, 48, 48, 48, 49] := by decide +kernel
theorem lit32 : (PySem.Str.ofString "1000000000") = T.s [49, 48, 48, 48, 48, 48, 48, 48, 48, 48] := by decide +kernel
theorem lit33 : (PySem.Str.ofString "1000000001") = T.s [49, 48, 48, 48, 48, 48, 48, 48, 48, 49] := by decide +kernel
theorem lit34 : (PySem.Str.ofString "9") = T.s [57] := by decide +kernel
theorem lit35 : (PySem.Str.ofString "b") = T.s [98] := by decide +kernel
theorem lit36 : (PySem.Str.ofString "shores") = T.s [115, 104, 111, 114, 101, 115] := by decide +kernel
theorem lit37 : (PySem.Str.ofString "zzzzzzzz") = T.s [122, 122, 122, 122, 122, 122, 122, 122] := by decide +kernel
theorem lit38 : (PySem.Str.ofString "m") = T.s [109] := by decide +kernel
theorem lit39 : (PySem.Str.ofString "k") = T.s [107] := by decide +kernel
theorem lit40 : (PySem.Str.ofString "ab") = T.s [97, 98] := by decide +kernel
theorem lit41 : (PySem.Str.ofString "aa") = T.s [97, 97] := by decide +kernel
theorem lit42 : (PySem.Str.ofString "abcdefghi") = T.s [97, 98, 99, 100, 101, 102, 103, 104, 105] := by decide +kernel
theorem lit43 : (PySem.Str.ofString " 1") = T.s [32, 49] := by decide +kernel
theorem lit44 : (PySem.Str.ofString "rush -") = T.s [114, 117, 115, 104, 32, 45] := by decide +kernel
theorem lit45 : (PySem.Str.ofString "load -\nrush -") = T.s [108, 111, 97, 100, 32, 45, 10, 114, 117, 115, 104, 32, 45] := by decide +kernel
theorem lit46 : (PySem.Str.ofString "load -\nrush -\n") = T.s [108, 111, 97, 100, 32, 45, 10, 114, 117, 115, 104, 32, 45, 10] := by decide +kernel
theorem lit47 : (PySem.Str.ofString "load 0\nrush 0 ") = T.s [108, 111, 97, 100, 32, 48, 10, 114, 117, 115, 104, 32, 48, 32] := by decide +kernel
theorem lit48 : (PySem.Str.ofString " load 0\nrush 0") = T.s [32, 108, 111, 97, 100, 32, 48, 10, 114, 117, 115, 104, 32, 48] := by decide +kernel
theorem lit49 : (PySem.Str.ofString "rush 0\nload 0") = T.s [114, 117, 115, 104, 32, 48, 10, 108, 111, 97, 100, 32, 48] := by decide +kernel
/-- what the top has bound: no name over a built-in, the constants, the errors, the class -/
structure Bnds (P : Program) (mg : Str → Option Value) (G : Gd) : Prop where
  n_abs : mg "abs" = none
  n_all : mg "all" = none
  n_bool : mg "bool" = none
  n_dict : mg "dict" = none
  n_int : mg "int" = none
  n_isinstance : mg "isinstance" = none
  n_len : mg "len" = none
  n_list : mg "list" = none
  n_min : mg "min" = none
  n_range : mg "range" = none
  n_repr : mg "repr" = none
  n_sorted : mg "sorted" = none
  n_str : mg "str" = none
  n_tuple : mg "tuple" = none
  c_LETTERS : ∃ u, mg "LETTERS" = some u ∧ RelV (.str (PySem.Str.ofString "abcdefghijklmnopqrstuvwxyz")) u
  c_MOST_CAP : ∃ u, mg "MOST_CAP" = some u ∧ RelV (.int 10000000000) u
  c_MOST_ISLES : ∃ u, mg "MOST_ISLES" = some u ∧ RelV (.int 8) u
  c_MOST_LETTERS : ∃ u, mg "MOST_LETTERS" = some u ∧ RelV (.int 8) u
  c_MOST_WEIGHT : ∃ u, mg "MOST_WEIGHT" = some u ∧ RelV (.int 1000000000) u
  c_NONE : ∃ u, mg "NONE" = some u ∧ RelV (.str (PySem.Str.ofString "-")) u
  c_SHORE : ∃ u, mg "SHORE" = some u ∧ RelV (.str (PySem.Str.ofString "shore")) u
  e_InvalidText : VX.Txt P G.K mg "InvalidText" (G.ca 0) (T.s [114, 111, 119] :: ([[119, 111, 114, 100]] : List T).map T.s)
  x_InvalidText : InsX G.K (G.ca 0)
  nf_row : PySem.W.findIn G.K (.ref (G.ca 0)) "row" = some none
  nf_word : PySem.W.findIn G.K (.ref (G.ca 0)) "word" = some none
  te_InvalidText : PySem.W.exmOne G.K (.ref (G.ca 0)) (.ref (G.ca 0)) = some true
  g_DuskError : mg "DuskError" = some (.ref (G.ca 2))
  te_DuskError : PySem.W.exmOne G.K (.ref (G.ca 0)) (.ref (G.ca 2)) = some true
  k_Ledger : ClsD mg G "Ledger" 1 [("entries" : Str), ("limits" : Str)]
abbrev st_is_integer : Stmt := top 9
abbrev N_is_integer : List Str := [(PySem.Str.ofString "value")]
theorem sc_is_integer : FnScope N_is_integer [(PySem.Str.ofString "value")] (defScope st_is_integer) := ⟨rfl, rfl, rfl, by decide +kernel, rfl, by decide +kernel, by decide +kernel⟩
def g_is_integer : GS := (gRet (eAnd (eIsi "int" (eVar 0)) (eNot (eIsi "bool" (eVar 0)))))
def d_is_integer : List U → Store → R U := callD 1 g_is_integer
abbrev st_is_name : Stmt := top 10
abbrev N_is_name : List Str := [(PySem.Str.ofString "value"), (PySem.Str.ofString "letter")]
theorem sc_is_name : FnScope N_is_name [(PySem.Str.ofString "value")] (defScope st_is_name) := ⟨rfl, rfl, rfl, by decide +kernel, rfl, by decide +kernel, by decide +kernel⟩
def g_is_name : GS := (gSeq (gIf (bOr (bNeg (bOf (eIsi "str" (eVar 0)))) (bNeg (bOf (eChain oLe oLe (eC (.int 1)) (eCB (c1 fLen) (elCons (eVar 0) elNil)) (eC (.int 8))))))
  (gRet (eC (.bl false)))
  gNil)
  (gRet (eCB (c1 (fBls fun bs => bs.all id)) (elCons (eLc false (dSigns (eVar 0)) (tName 1) bYes (eOp (oInG false) (eVar 1) (eC (.str [97, 98, 99, 100, 101, 102, 103, 104, 105, 106, 107, 108, 109, 110, 111, 112, 113, 114, 115, 116, 117, 118, 119, 120, 121, 122]))) [1]) elNil))))
def d_is_name : List U → Store → R U := callD 2 g_is_name
abbrev st_is_own_name : Stmt := top 11
abbrev N_is_own_name : List Str := [(PySem.Str.ofString "value")]
theorem sc_is_own_name : FnScope N_is_own_name [(PySem.Str.ofString "value")] (defScope st_is_own_name) := ⟨rfl, rfl, rfl, by decide +kernel, rfl, by decide +kernel, by decide +kernel⟩
def g_is_own_name : GS := (gRet (eAnd (eCall 1 d_is_name (elCons (eVar 0) elNil)) (eOp oNe (eVar 0) (eC (.str [115, 104, 111, 114, 101])))))
def d_is_own_name : List U → Store → R U := callD 1 g_is_own_name
abbrev st_is_between : Stmt := top 17
abbrev N_is_between : List Str := [(PySem.Str.ofString "value"), (PySem.Str.ofString "most")]
theorem sc_is_between : FnScope N_is_between [(PySem.Str.ofString "value"), (PySem.Str.ofString "most")] (defScope st_is_between) := ⟨rfl, rfl, rfl, by decide +kernel, rfl, by decide +kernel, by decide +kernel⟩
def g_is_between : GS := (gRet (eAnd (eCall 1 d_is_integer (elCons (eVar 0) elNil)) (eChain oLe oLe (eC (.int 0)) (eVar 0) (eVar 1))))
def d_is_between : List U → Store → R U := callD 2 g_is_between
abbrev st_is_cap : Stmt := top 18
abbrev N_is_cap : List Str := [(PySem.Str.ofString "value")]
theorem sc_is_cap : FnScope N_is_cap [(PySem.Str.ofString "value")] (defScope st_is_cap) := ⟨rfl, rfl, rfl, by decide +kernel, rfl, by decide +kernel, by decide +kernel⟩
def g_is_cap : GS := (gRet (eOr (eIs false (eVar 0)) (eCall 2 d_is_between (elCons (eVar 0) (elCons (eC (.int 10000000000)) elNil)))))
def d_is_cap : List U → Store → R U := callD 1 g_is_cap
abbrev st_are_weights : Stmt := top 19
abbrev N_are_weights : List Str := [(PySem.Str.ofString "value"), (PySem.Str.ofString "name")]
theorem sc_are_weights : FnScope N_are_weights [(PySem.Str.ofString "value")] (defScope st_are_weights) := ⟨rfl, rfl, rfl, by decide +kernel, rfl, by decide +kernel, by decide +kernel⟩
def g_are_weights : GS := (gSeq (gIf (bOr (bNeg (bOf (eIsi "dict" (eVar 0)))) (bOf (eOp oGt (eCB (c1 fLenD) (elCons (eVar 0) elNil)) (eC (.int 8)))))
  (gRet (eC (.bl false)))
  gNil)
  (gRet (eCB (c1 (fBls fun bs => bs.all id)) (elCons (eLc false (dKeys (eVar 0)) (tName 1) bYes (eAnd (eCall 1 d_is_own_name (elCons (eVar 1) elNil)) (eCall 2 d_is_between (elCons (eDGet (eVar 0) (eVar 1)) (elCons (eC (.int 1000000000)) elNil)))) [1]) elNil))))
def d_are_weights : List U → Store → R U := callD 2 g_are_weights
abbrev st_number_in : Stmt := top 20
abbrev N_number_in : List Str := [(PySem.Str.ofString "word"), (PySem.Str.ofString "most"), (PySem.Str.ofString "sign")]
theorem sc_number_in : FnScope N_number_in [(PySem.Str.ofString "word"), (PySem.Str.ofString "most")] (defScope st_number_in) := ⟨rfl, rfl, rfl, by decide +kernel, rfl, by decide +kernel, by decide +kernel⟩
def g_number_in : GS := (gSeq (gIf (bOr (bOf (eOp oEq (eVar 0) (eC (.str [])))) (bOr (bNeg (bOf (eCB (c1 (fBls fun bs => bs.all id)) (elCons (eLc false (dSigns (eVar 0)) (tName 2) bYes (eOp (oInG false) (eVar 2) (eC (.str [48, 49, 50, 51, 52, 53, 54, 55, 56, 57]))) [2]) elNil)))) (bOf (eOp oGt (eCB (c1 fLen) (elCons (eVar 0) elNil)) (eCB (c1 fLen) (elCons (eCB (c1 fStr) (elCons (eVar 1) elNil)) elNil))))))
  (gRet (eC .non))
  gNil)
  (gRet (eIf (bAnd (bOf (eOp oEq (eCB (c1 fStr) (elCons (eCB (c1 fIntT) (elCons (eVar 0) elNil)) elNil)) (eVar 0))) (bOf (eOp oLe (eCB (c1 fIntT) (elCons (eVar 0) elNil)) (eVar 1)))) (eCB (c1 fIntT) (elCons (eVar 0) elNil)) (eC .non))))
def d_number_in : List U → Store → R U := callD 3 g_number_in
abbrev st_refuse : Stmt := top 21
abbrev N_refuse : List Str := [(PySem.Str.ofString "row"), (PySem.Str.ofString "words"), (PySem.Str.ofString "at")]
theorem sc_refuse : FnScope N_refuse [(PySem.Str.ofString "row"), (PySem.Str.ofString "words"), (PySem.Str.ofString "at")] (defScope st_refuse) := ⟨rfl, rfl, rfl, by decide +kernel, rfl, by decide +kernel, by decide +kernel⟩
def g_refuse : GS := (gRaise 0 [[114, 111, 119], [119, 111, 114, 100]] (elCons (eVar 0) (elCons (eCB (c2 fMin) (elCons (eVar 2) (elCons (eCB (c1 fLen) (elCons (eVar 1) elNil)) elNil))) elNil)))
def d_refuse : List U → Store → R U := callD 3 g_refuse
abbrev st_need_size : Stmt := top 22
abbrev N_need_size : List Str := [(PySem.Str.ofString "row"), (PySem.Str.ofString "words"), (PySem.Str.ofString "size")]
theorem sc_need_size : FnScope N_need_size [(PySem.Str.ofString "row"), (PySem.Str.ofString "words"), (PySem.Str.ofString "size")] (defScope st_need_size) := ⟨rfl, rfl, rfl, by decide +kernel, rfl, by decide +kernel, by decide +kernel⟩
def g_need_size : GS := (gIf (bOf (eOp oNe (eCB (c1 fLen) (elCons (eVar 1) elNil)) (eVar 2)))
  (gExpr (eCall 3 d_refuse (elCons (eVar 0) (elCons (eVar 1) (elCons (eVar 2) elNil)))))
  gNil)
def d_need_size : List U → Store → R U := callD 3 g_need_size
abbrev st_weight_in : Stmt := top 23
abbrev N_weight_in : List Str := [(PySem.Str.ofString "row"), (PySem.Str.ofString "words"), (PySem.Str.ofString "last")]
theorem sc_weight_in : FnScope N_weight_in [(PySem.Str.ofString "row"), (PySem.Str.ofString "words"), (PySem.Str.ofString "last")] (defScope st_weight_in) := ⟨rfl, rfl, rfl, by decide +kernel, rfl, by decide +kernel, by decide +kernel⟩
def g_weight_in : GS := (gSeq (gIf (bOr (bOf (eOp oLt (eCB (c1 fLen) (elCons (eVar 1) elNil)) (eC (.int 2)))) (bOr (bNeg (bOf (eCall 1 d_is_own_name (elCons (eIx (eVar 1) (eC (.int 1))) elNil)))) (bOf (eOp oLe (eIx (eVar 1) (eC (.int 1))) (eVar 2)))))
  (gExpr (eCall 3 d_refuse (elCons (eVar 0) (elCons (eVar 1) (elCons (eC (.int 1)) elNil)))))
  gNil)
  (gSeq (gIf (bOr (bOf (eOp oLt (eCB (c1 fLen) (elCons (eVar 1) elNil)) (eC (.int 3)))) (bOf (eIs false (eCall 2 d_number_in (elCons (eIx (eVar 1) (eC (.int 2))) (elCons (eC (.int 1000000000)) elNil))))))
  (gExpr (eCall 3 d_refuse (elCons (eVar 0) (elCons (eVar 1) (elCons (eC (.int 2)) elNil)))))
  gNil)
  (gSeq (gExpr (eCall 3 d_need_size (elCons (eVar 0) (elCons (eVar 1) (elCons (eC (.int 3)) elNil)))))
  (gRet (eTup (elCons (eIx (eVar 1) (eC (.int 1))) (elCons (eCB (c1 fIntT) (elCons (eIx (eVar 1) (eC (.int 2))) elNil)) elNil)))))))
def d_weight_in : List U → Store → R U := callD 3 g_weight_in
abbrev st_cap_in : Stmt := top 24
abbrev N_cap_in : List Str := [(PySem.Str.ofString "rows"), (PySem.Str.ofString "row"), (PySem.Str.ofString "title"), (PySem.Str.ofString "words")]
theorem sc_cap_in : FnScope N_cap_in [(PySem.Str.ofString "rows"), (PySem.Str.ofString "row"), (PySem.Str.ofString "title")] (defScope st_cap_in) := ⟨rfl, rfl, rfl, by decide +kernel, rfl, by decide +kernel, by decide +kernel⟩
def g_cap_in : GS := (gSeq (gSet 3 (eIf (bOf (eOp oLt (eVar 1) (eCB (c1 fLen) (elCons (eVar 0) elNil)))) (eMt "str" mSplit (eIx (eVar 0) (eVar 1)) (elCons (eC (.str [32])) elNil)) (eLst false (elCons (eC (.str [])) elNil))))
  (gSeq (gIf (bOf (eOp oNe (eIx (eVar 3) (eC (.int 0))) (eVar 2)))
  (gExpr (eCall 3 d_refuse (elCons (eVar 1) (elCons (eVar 3) (elCons (eC (.int 0)) elNil)))))
  gNil)
  (gSeq (gIf (bOr (bOf (eOp oLt (eCB (c1 fLen) (elCons (eVar 3) elNil)) (eC (.int 2)))) (bAnd (bOf (eOp oNe (eIx (eVar 3) (eC (.int 1))) (eC (.str [45])))) (bOf (eIs false (eCall 2 d_number_in (elCons (eIx (eVar 3) (eC (.int 1))) (elCons (eC (.int 10000000000)) elNil)))))))
  (gExpr (eCall 3 d_refuse (elCons (eVar 1) (elCons (eVar 3) (elCons (eC (.int 1)) elNil)))))
  gNil)
  (gSeq (gExpr (eCall 3 d_need_size (elCons (eVar 1) (elCons (eVar 3) (elCons (eC (.int 2)) elNil)))))
  (gRet (eIf (bOf (eOp oEq (eIx (eVar 3) (eC (.int 1))) (eC (.str [45])))) (eC .non) (eCB (c1 fIntT) (elCons (eIx (eVar 3) (eC (.int 1))) elNil))))))))
def d_cap_in : List U → Store → R U := callD 4 g_cap_in
abbrev st_Ledger___init__ : Stmt := inClass (top 25) 0
abbrev N_Ledger___init__ : List Str := [(PySem.Str.ofString "self"), (PySem.Str.ofString "weights"), (PySem.Str.ofString "load"), (PySem.Str.ofString "rush")]
theorem sc_Ledger___init__ : FnScope N_Ledger___init__ [(PySem.Str.ofString "self"), (PySem.Str.ofString "weights"), (PySem.Str.ofString "load"), (PySem.Str.ofString "rush")] (defScope st_Ledger___init__) := ⟨rfl, rfl, rfl, by decide +kernel, rfl, by decide +kernel, by decide +kernel⟩
def g_Ledger___init__ : GS := (gSeq (gIf (bNeg (bOf (eCall 1 d_are_weights (elCons (eVar 1) elNil))))
  gNever
  gNil)
  (gSeq (gIf (bNeg (bOf (eCall 1 d_is_cap (elCons (eVar 2) elNil))))
  gNever
  gNil)
  (gSeq (gIf (bNeg (bOf (eCall 1 d_is_cap (elCons (eVar 3) elNil))))
  gNever
  gNil)
  (gSeq (gSetF 1 [101, 110, 116, 114, 105, 101, 115] (eVar 0) (eCB (c1 fTuple) (elCons (eSortIt false [false, true] (eVar 1)) elNil)))
  (gSetF 1 [108, 105, 109, 105, 116, 115] (eVar 0) (eTup (elCons (eVar 2) (elCons (eVar 3) elNil))))))))
def d_Ledger___init__ : List U → Store → R U := callD 4 g_Ledger___init__
abbrev st_Ledger_read : Stmt := inClass (top 25) 1
abbrev N_Ledger_read : List Str := [(PySem.Str.ofString "cls"), (PySem.Str.ofString "text"), (PySem.Str.ofString "many"), (PySem.Str.ofString "rows"), (PySem.Str.ofString "weights"), (PySem.Str.ofString "last"), (PySem.Str.ofString "load"), (PySem.Str.ofString "rush"), (PySem.Str.ofString "weight")]
theorem sc_Ledger_read : FnScope N_Ledger_read [(PySem.Str.ofString "cls"), (PySem.Str.ofString "text")] (defScope st_Ledger_read) := ⟨rfl, rfl, rfl, by decide +kernel, rfl, by decide +kernel, by decide +kernel⟩
def g_Ledger_read : GS := (gSeq (gIf (bNeg (bOf (eIsiI "str" 1 (eVar 1))))
  (gRaise 0 [[114, 111, 119], [119, 111, 114, 100]] (elCons (eC (.int 0)) (elCons (eC (.int 0)) elNil)))
  gNil)
  (gSeq (gPar3 3 4 5 (elCons (eMt "str" mSplit (eVar 1) (elCons (eC (.str [10])) elNil)) (elCons eDN (elCons (eC (.str [])) elNil))))
  (gSeq (gWhile (fun _ _ => 10) (bAnd (bOf (eOp oLt (eCB (c1 fLenD) (elCons (eVar 4) elNil)) (eCB (c2 fMin) (elCons (eCB (c1 fLen) (elCons (eVar 3) elNil)) (elCons (eC (.int 8)) elNil))))) (bOf (eOp oEq (eIx (eMt "str" mSplit (eIx (eVar 3) (eCB (c1 fLenD) (elCons (eVar 4) elNil))) (elCons (eC (.str [32])) elNil)) (eC (.int 0))) (eC (.str [119, 101, 105, 103, 104, 116])))))
  (gSeq (gUnp (tTupN [5, 8]) (eCall 3 d_weight_in (elCons (eCB (c1 fLenD) (elCons (eVar 4) elNil)) (elCons (eMt "str" mSplit (eIx (eVar 3) (eCB (c1 fLenD) (elCons (eVar 4) elNil))) (elCons (eC (.str [32])) elNil)) (elCons (eVar 5) elNil)))))
  (gPutK (eVar 4) (eVar 5) (eVar 8))))
  (gSeq (gSet 2 (eCB (c1 fLenD) (elCons (eVar 4) elNil)))
  (gSeq (gPar 6 7 (elCons (eCall 3 d_cap_in (elCons (eVar 3) (elCons (eVar 2) (elCons (eC (.str [108, 111, 97, 100])) elNil)))) (elCons (eCall 3 d_cap_in (elCons (eVar 3) (elCons (eOp (oAdd false) (eVar 2) (eC (.int 1))) (elCons (eC (.str [114, 117, 115, 104])) elNil)))) elNil)))
  (gSeq (gIf (bOf (eOp oGt (eCB (c1 fLen) (elCons (eVar 3) elNil)) (eOp (oAdd false) (eVar 2) (eC (.int 2)))))
  (gRaise 0 [[114, 111, 119], [119, 111, 114, 100]] (elCons (eOp (oAdd false) (eVar 2) (eC (.int 2))) (elCons (eC (.int 0)) elNil)))
  gNil)
  (gRet (eMakeL 0 1 1 2 d_Ledger___init__ [0, 1, 2, 3] (elCons (eLk (eVar 4)) elNil) (elCons (eVar 6) (elCons (eVar 7) elNil))))))))))
def d_Ledger_read : List U → Store → R U := callD 9 g_Ledger_read
abbrev st_Ledger___eq__ : Stmt := inClass (top 25) 13
abbrev N_Ledger___eq__ : List Str := [(PySem.Str.ofString "self"), (PySem.Str.ofString "other")]
theorem sc_Ledger___eq__ : FnScope N_Ledger___eq__ [(PySem.Str.ofString "self"), (PySem.Str.ofString "other")] (defScope st_Ledger___eq__) := ⟨rfl, rfl, rfl, by decide +kernel, rfl, by decide +kernel, by decide +kernel⟩
def g_Ledger___eq__ : GS := (gSeq (gIf (bNeg (bOf (eIsC 1 (eVar 1))))
  (gRet (eC (.bl false)))
  gNil)
  (gRet (eOp oEq (eTup (elCons (eFld 1 [101, 110, 116, 114, 105, 101, 115] (eVar 0)) (elCons (eFld 1 [108, 105, 109, 105, 116, 115] (eVar 0)) elNil))) (eTup (elCons (eFld 1 [101, 110, 116, 114, 105, 101, 115] (eVar 1)) (elCons (eFld 1 [108, 105, 109, 105, 116, 115] (eVar 1)) elNil))))))
def d_Ledger___eq__ : List U → Store → R U := callD 2 g_Ledger___eq__
abbrev st_Ledger___str__ : Stmt := inClass (top 25) 14
abbrev N_Ledger___str__ : List Str := [(PySem.Str.ofString "self"), (PySem.Str.ofString "rows"), (PySem.Str.ofString "load"), (PySem.Str.ofString "rush"), (PySem.Str.ofString "cap"), (PySem.Str.ofString "name"), (PySem.Str.ofString "weight")]
theorem sc_Ledger___str__ : FnScope N_Ledger___str__ [(PySem.Str.ofString "self")] (defScope st_Ledger___str__) := ⟨rfl, rfl, rfl, by decide +kernel, rfl, by decide +kernel, by decide +kernel⟩
def g_Ledger___str__ : GS := (gSeq (gSet 1 (eLc false (dTup (eFld 1 [101, 110, 116, 114, 105, 101, 115] (eVar 0))) (tTupN [5, 6]) bYes (eJs [(eC (.str [119, 101, 105, 103, 104, 116, 32])), (eFmt (eVar 5)), (eC (.str [32])), (eFmt (eVar 6))]) [5, 6]))
  (gSeq (gUnp (tLstN [2, 3]) (eLc false (dTup (eFld 1 [108, 105, 109, 105, 116, 115] (eVar 0))) (tName 4) bYes (eIf (bOf (eIs false (eVar 4))) (eC (.str [45])) (eCB (c1 fStr) (elCons (eVar 4) elNil))) [4]))
  (gRet (eMt "str" mJoin (eC (.str [10])) (elCons (eLst false (elStar (eVar 1) (elCons (eJs [(eC (.str [108, 111, 97, 100, 32])), (eFmt (eVar 2))]) (elCons (eJs [(eC (.str [114, 117, 115, 104, 32])), (eFmt (eVar 3))]) elNil)))) elNil)))))
def d_Ledger___str__ : List U → Store → R U := callD 7 g_Ledger___str__
abbrev st__law_pen : Stmt := top 27
abbrev N__law_pen : List Str := [(PySem.Str.ofString "script")]
theorem sc__law_pen : FnScope N__law_pen [(PySem.Str.ofString "script")] (defScope st__law_pen) := ⟨rfl, rfl, rfl, by decide +kernel, rfl, by decide +kernel, by decide +kernel⟩
def g__law_pen : GS := (gRet (eLst true (elCons (eCB (c1 (fList false)) (elCons (eSl false (eVar 0) eoNone (eoSome (eC (.int 63)))) elNil)) (elCons (eC (.int 0)) (elCons (eC (.int 0)) elNil)))))
def d__law_pen : List U → Store → R U := callO 1 g__law_pen
abbrev st__law_draw : Stmt := top 28
abbrev N__law_draw : List Str := [(PySem.Str.ofString "pen"), (PySem.Str.ofString "many"), (PySem.Str.ofString "at"), (PySem.Str.ofString "cell"), (PySem.Str.ofString "mixed"), (PySem.Str.ofString "digit"), (PySem.Str.ofString "great")]
theorem sc__law_draw : FnScope N__law_draw [(PySem.Str.ofString "pen"), (PySem.Str.ofString "many")] (defScope st__law_draw) := ⟨rfl, rfl, rfl, by decide +kernel, rfl, by decide +kernel, by decide +kernel⟩
def g__law_draw : GS := (gSeq (gIf (bOf (eOp oGt (eIx (eVar 0) (eC (.int 2))) (eC (.int 0))))
  (gSeq (gSet 5 (eOp oMod (eCB (c1 fInt) (elCons (eIx (eVar 0) (eC (.int 2))) elNil)) (eVar 1)))
  (gSeq (gSetI (eVar 0) (eC (.int 2)) (eOp oDiv (eCB (c1 fInt) (elCons (eIx (eVar 0) (eC (.int 2))) elNil)) (eVar 1)))
  (gRet (eVar 5))))
  gNil)
  (gSeq (gSet 2 (eIx (eVar 0) (eC (.int 1))))
  (gSeq (gSetI (eVar 0) (eC (.int 1)) (eOp (oAdd false) (eVar 2) (eC (.int 1))))
  (gSeq (gSet 3 (eOp (oAdd false) (eOp oMul (eC (.int 65029)) (eVar 2)) (eC (.int 5519))))
  (gSeq (gIf (bOf (eOp oNe (eIx (eVar 0) (eC (.int 0))) (eLst false elNil)))
  (gSet 3 (eIx (eIx (eVar 0) (eC (.int 0))) (eOp oMod (eCB (c1 fInt) (elCons (eVar 2) elNil)) (eCB (c1 fLen) (elCons (eIx (eVar 0) (eC (.int 0))) elNil)))))
  gNil)
  (gSeq (gIf (bAnd (bOf (eOp oLt (eVar 2) (eCB (c1 fLen) (elCons (eIx (eVar 0) (eC (.int 0))) elNil)))) (bOf (eOp oGe (eCB (c1 fAbs) (elCons (eVar 3) elNil)) (eOp oPow (eC (.int 10)) (eC (.int 18))))))
  (gSeq (gSet 6 (eOp (oAdd false) (eOp oMul (eC (.int 2)) (eOp oSub (eCB (c1 fAbs) (elCons (eVar 3) elNil)) (eOp oPow (eC (.int 10)) (eC (.int 18))))) (eCB (c1 fInt) (elCons (eOp oLt (eVar 3) (eC (.int 0))) elNil))))
  (gSeq (gSetI (eVar 0) (eC (.int 2)) (eOp oDiv (eCB (c1 fInt) (elCons (eVar 6) elNil)) (eVar 1)))
  (gRet (eOp oMod (eCB (c1 fInt) (elCons (eVar 6) elNil)) (eVar 1)))))
  gNil)
  (gSeq (gSet 4 (eOp oMod (eCB (c1 fInt) (elCons (eOp oPow (eOp (oAdd false) (eOp (oAdd false) (eOp oMod (eCB (c1 fInt) (elCons (eVar 3) elNil)) (eC (.int 2147483563))) (eOp oMul (eC (.int 5519)) (eVar 2))) (eC (.int 107))) (eC (.int 5))) elNil)) (eC (.int 2147483587))))
  (gSeq (gSet 4 (eOp oMod (eCB (c1 fInt) (elCons (eOp oPow (eOp (oAdd false) (eOp (oAdd false) (eOp oMul (eVar 4) (eOp (oAdd false) (eOp oMul (eC (.int 2)) (eVar 2)) (eC (.int 141)))) (eOp oMul (eOp oMul (eC (.int 65029)) (eVar 2)) (eVar 2))) (eC (.int 29))) (eC (.int 3))) elNil)) (eC (.int 2147483629))))
  (gRet (eOp oMod (eCB (c1 fInt) (elCons (eOp oDiv (eVar 4) (eC (.int 16))) elNil)) (eVar 1)))))))))))
def d__law_draw : List U → Store → R U := callD 7 g__law_draw
abbrev st__law_pick : Stmt := top 29
abbrev N__law_pick : List Str := [(PySem.Str.ofString "pen"), (PySem.Str.ofString "some")]
theorem sc__law_pick : FnScope N__law_pick [(PySem.Str.ofString "pen"), (PySem.Str.ofString "some")] (defScope st__law_pick) := ⟨rfl, rfl, rfl, by decide +kernel, rfl, by decide +kernel, by decide +kernel⟩
def g__law_pick : GS := (gRet (eIx (eVar 1) (eCall 2 d__law_draw (elCons (eVar 0) (elCons (eCB (c1 fLen) (elCons (eVar 1) elNil)) elNil)))))
def d__law_pick : List U → Store → R U := callD 2 g__law_pick
abbrev st__law_text : Stmt := top 30
abbrev N__law_text : List Str := [(PySem.Str.ofString "weights"), (PySem.Str.ofString "load"), (PySem.Str.ofString "rush"), (PySem.Str.ofString "rows"), (PySem.Str.ofString "tag")]
theorem sc__law_text : FnScope N__law_text [(PySem.Str.ofString "weights"), (PySem.Str.ofString "load"), (PySem.Str.ofString "rush")] (defScope st__law_text) := ⟨rfl, rfl, rfl, by decide +kernel, rfl, by decide +kernel, by decide +kernel⟩
def g__law_text : GS := (gSeq (gSet 3 (eLc true (dList (eCB (c1 (fSorted false)) (elCons (eLc false (dKeys (eVar 0)) (tName 4) bYes (eCB (c1 fStr) (elCons (eVar 4) elNil)) [4]) elNil))) (tName 4) bYes (eOp (oAdd false) (eOp (oAdd false) (eOp (oAdd false) (eC (.str [119, 101, 105, 103, 104, 116, 32])) (eVar 4)) (eC (.str [32]))) (eCB (c1 fStr) (elCons (eDGet (eVar 0) (eVar 4)) elNil))) [4]))
  (gSeq (gExpr (eAppend (eVar 3) (elCons (eOp (oAdd false) (eC (.str [108, 111, 97, 100, 32])) (eIf (bOf (eIs false (eVar 1))) (eC (.str [45])) (eCB (c1 fStr) (elCons (eVar 1) elNil)))) elNil)))
  (gRet (eMt "str" mJoin (eC (.str [10])) (elCons (eOp (oAdd false) (eVar 3) (eLst false (elCons (eOp (oAdd false) (eC (.str [114, 117, 115, 104, 32])) (eIf (bOf (eIs false (eVar 2))) (eC (.str [45])) (eCB (c1 fStr) (elCons (eVar 2) elNil)))) elNil))) elNil)))))
def d__law_text : List U → Store → R U := callD 5 g__law_text
abbrev st__law_is_tag : Stmt := top 31
abbrev N__law_is_tag : List Str := [(PySem.Str.ofString "word"), (PySem.Str.ofString "sign")]
theorem sc__law_is_tag : FnScope N__law_is_tag [(PySem.Str.ofString "word")] (defScope st__law_is_tag) := ⟨rfl, rfl, rfl, by decide +kernel, rfl, by decide +kernel, by decide +kernel⟩
def g__law_is_tag : GS := (gRet (eAnd (eChain oLe oLe (eC (.int 1)) (eCB (c1 fLen) (elCons (eVar 0) elNil)) (eC (.int 8))) (eAnd (eOp oNe (eVar 0) (eC (.str [115, 104, 111, 114, 101]))) (eOp oEq (eLc false (dSigns (eVar 0)) (tName 1) (bOf (eOp (oInG true) (eVar 1) (eC (.str [97, 98, 99, 100, 101, 102, 103, 104, 105, 106, 107, 108, 109, 110, 111, 112, 113, 114, 115, 116, 117, 118, 119, 120, 121, 122])))) (eVar 1) [1]) (eLst false elNil)))))
def d__law_is_tag : List U → Store → R U := callD 2 g__law_is_tag
abbrev st__law_is_number : Stmt := top 32
abbrev N__law_is_number : List Str := [(PySem.Str.ofString "word"), (PySem.Str.ofString "most"), (PySem.Str.ofString "sign")]
theorem sc__law_is_number : FnScope N__law_is_number [(PySem.Str.ofString "word"), (PySem.Str.ofString "most")] (defScope st__law_is_number) := ⟨rfl, rfl, rfl, by decide +kernel, rfl, by decide +kernel, by decide +kernel⟩
def g__law_is_number : GS := (gSeq (gIf (bOr (bOf (eOp oEq (eVar 0) (eC (.str [])))) (bOr (bOf (eOp oGt (eCB (c1 fLen) (elCons (eVar 0) elNil)) (eC (.int 11)))) (bOf (eOp oNe (eLc false (dSigns (eVar 0)) (tName 2) (bOf (eOp (oInG true) (eVar 2) (eC (.str [48, 49, 50, 51, 52, 53, 54, 55, 56, 57])))) (eVar 2) [2]) (eLst false elNil)))))
  (gRet (eC (.bl false)))
  gNil)
  (gRet (eAnd (eOr (eOp oEq (eVar 0) (eC (.str [48]))) (eOp oNe (eIx (eVar 0) (eC (.int 0))) (eC (.str [48])))) (eOp oLe (eCB (c1 fIntT) (elCons (eVar 0) elNil)) (eVar 1)))))
def d__law_is_number : List U → Store → R U := callD 3 g__law_is_number
abbrev st__law_row_wrong : Stmt := top 33
abbrev N__law_row_wrong : List Str := [(PySem.Str.ofString "words"), (PySem.Str.ofString "last"), (PySem.Str.ofString "many")]
theorem sc__law_row_wrong : FnScope N__law_row_wrong [(PySem.Str.ofString "words"), (PySem.Str.ofString "last"), (PySem.Str.ofString "many")] (defScope st__law_row_wrong) := ⟨rfl, rfl, rfl, by decide +kernel, rfl, by decide +kernel, by decide +kernel⟩
def g__law_row_wrong : GS := (gSeq (gIf (bAnd (bOf (eOp oEq (eIx (eVar 0) (eC (.int 0))) (eC (.str [119, 101, 105, 103, 104, 116])))) (bOf (eOp oLt (eVar 2) (eC (.int 8)))))
  (gSeq (gIf (bOr (bOf (eOp oLt (eCB (c1 fLen) (elCons (eVar 0) elNil)) (eC (.int 2)))) (bOr (bNeg (bOf (eCall 1 d__law_is_tag (elCons (eIx (eVar 0) (eC (.int 1))) elNil)))) (bOf (eOp oLe (eIx (eVar 0) (eC (.int 1))) (eVar 1)))))
  (gRet (eC (.int 1)))
  gNil)
  (gSeq (gIf (bOr (bOf (eOp oLt (eCB (c1 fLen) (elCons (eVar 0) elNil)) (eC (.int 3)))) (bNeg (bOf (eCall 2 d__law_is_number (elCons (eIx (eVar 0) (eC (.int 2))) (elCons (eOp oPow (eC (.int 10)) (eC (.int 9))) elNil))))))
  (gRet (eC (.int 2)))
  gNil)
  (gRet (eIf (bOf (eOp oGt (eCB (c1 fLen) (elCons (eVar 0) elNil)) (eC (.int 3)))) (eC (.int 3)) (eNeg (eC (.int 1)))))))
  gNil)
  (gRet (eNeg (eC (.int 2)))))
def d__law_row_wrong : List U → Store → R U := callD 3 g__law_row_wrong
abbrev st__law_cap_wrong : Stmt := top 34
abbrev N__law_cap_wrong : List Str := [(PySem.Str.ofString "rows"), (PySem.Str.ofString "at"), (PySem.Str.ofString "title"), (PySem.Str.ofString "words")]
theorem sc__law_cap_wrong : FnScope N__law_cap_wrong [(PySem.Str.ofString "rows"), (PySem.Str.ofString "at"), (PySem.Str.ofString "title")] (defScope st__law_cap_wrong) := ⟨rfl, rfl, rfl, by decide +kernel, rfl, by decide +kernel, by decide +kernel⟩
def g__law_cap_wrong : GS := (gSeq (gIf (bOf (eOp oGe (eVar 1) (eCB (c1 fLen) (elCons (eVar 0) elNil))))
  (gRet (eTup (elCons (eCB (c1 fLen) (elCons (eVar 0) elNil)) (elCons (eC (.int 0)) elNil))))
  gNil)
  (gSeq (gSet 3 (eMt "str" mSplit (eIx (eVar 0) (eVar 1)) (elCons (eC (.str [32])) elNil)))
  (gSeq (gIf (bOf (eOp oNe (eIx (eVar 3) (eC (.int 0))) (eVar 2)))
  (gRet (eTup (elCons (eVar 1) (elCons (eC (.int 0)) elNil))))
  gNil)
  (gSeq (gIf (bOr (bOf (eOp oLt (eCB (c1 fLen) (elCons (eVar 3) elNil)) (eC (.int 2)))) (bAnd (bOf (eOp oNe (eIx (eVar 3) (eC (.int 1))) (eC (.str [45])))) (bNeg (bOf (eCall 2 d__law_is_number (elCons (eIx (eVar 3) (eC (.int 1))) (elCons (eOp oPow (eC (.int 10)) (eC (.int 10))) elNil)))))))
  (gRet (eTup (elCons (eVar 1) (elCons (eC (.int 1)) elNil))))
  gNil)
  (gRet (eIf (bOf (eOp oGt (eCB (c1 fLen) (elCons (eVar 3) elNil)) (eC (.int 2)))) (eTup (elCons (eVar 1) (elCons (eC (.int 2)) elNil))) (eC .non)))))))
def d__law_cap_wrong : List U → Store → R U := callD 4 g__law_cap_wrong
abbrev st__law_wrong : Stmt := top 35
abbrev N__law_wrong : List Str := [(PySem.Str.ofString "line"), (PySem.Str.ofString "title"), (PySem.Str.ofString "rows"), (PySem.Str.ofString "at"), (PySem.Str.ofString "last"), (PySem.Str.ofString "wrong")]
theorem sc__law_wrong : FnScope N__law_wrong [(PySem.Str.ofString "line")] (defScope st__law_wrong) := ⟨rfl, rfl, rfl, by decide +kernel, rfl, by decide +kernel, by decide +kernel⟩
def g__law_wrong : GS := (gSeq (gPar3 2 3 4 (elCons (eMt "str" mSplit (eVar 0) (elCons (eC (.str [10])) elNil)) (elCons (eC (.int 0)) (elCons (eC (.str [])) elNil))))
  (gSeq (gWhile (fun _ _ => 20) (bOf (eOp oLt (eVar 3) (eCB (c1 fLen) (elCons (eVar 2) elNil))))
  (gSeq (gSet 5 (eCall 3 d__law_row_wrong (elCons (eMt "str" mSplit (eIx (eVar 2) (eVar 3)) (elCons (eC (.str [32])) elNil)) (elCons (eVar 4) (elCons (eVar 3) elNil)))))
  (gSeq (gIf (bOf (eOp oEq (eVar 5) (eNeg (eC (.int 2)))))
  gBreak
  gNil)
  (gSeq (gIf (bOf (eOp oGe (eVar 5) (eC (.int 0))))
  (gRet (eTup (elCons (eVar 3) (elCons (eVar 5) elNil))))
  gNil)
  (gSeq (gSet 4 (eIx (eMt "str" mSplit (eIx (eVar 2) (eVar 3)) (elCons (eC (.str [32])) elNil)) (eC (.int 1))))
  (gSet 3 (eOp (oAdd false) (eVar 3) (eC (.int 1)))))))))
  (gSeq (gFor (dList (eLst false (elCons (eC (.str [108, 111, 97, 100])) (elCons (eC (.str [114, 117, 115, 104])) elNil)))) (tName 1)
  (gSeq (gSet 5 (eCall 3 d__law_cap_wrong (elCons (eVar 2) (elCons (eVar 3) (elCons (eVar 1) elNil)))))
  (gSeq (gIf (bOf (eIs true (eVar 5)))
  (gRet (eVar 5))
  gNil)
  (gSet 3 (eOp (oAdd false) (eVar 3) (eC (.int 1)))))))
  (gRet (eIf (bOf (eOp oGt (eCB (c1 fLen) (elCons (eVar 2) elNil)) (eVar 3))) (eTup (elCons (eVar 3) (elCons (eC (.int 0)) elNil))) (eC .non))))))
def d__law_wrong : List U → Store → R U := callD 6 g__law_wrong
abbrev st__law_right : Stmt := top 36
abbrev N__law_right : List Str := [(PySem.Str.ofString "line"), (PySem.Str.ofString "error"), (PySem.Str.ofString "due"), (PySem.Str.ofString "caught"), (PySem.Str.ofString "found")]
theorem sc__law_right : FnScope N__law_right [(PySem.Str.ofString "line")] (defScope st__law_right) := ⟨rfl, rfl, rfl, by decide +kernel, rfl, by decide +kernel, by decide +kernel⟩
def g__law_right : GS := (gSeq (gPar3 2 3 4 (elCons (eCall 1 d__law_wrong (elCons (eVar 0) elNil)) (elCons (eC .non) (elCons (eC .non) elNil))))
  (gSeq (gTryK 0 1 3
  (gSet 4 (eCM 1 2 d_Ledger_read (elCons (eVar 0) elNil))))
  (gSeq (gIf (bOf (eIs false (eVar 2)))
  (gRet (eAnd (eIs false (eVar 3)) (eAnd (eIsC 1 (eVar 4)) (eAnd (eOp oEq (eStrI 1 d_Ledger___str__ (eVar 4)) (eVar 0)) (eEqI 1 d_Ledger___eq__ (eCMK 1 d_Ledger_read (eVar 0)) (eVar 4))))))
  gNil)
  (gRet (eAnd (eIsX 0 (eVar 3)) (eOp oEq (eCB (c1 fRepr) (elCons (eTup (elCons (eExF 0 [114, 111, 119] (eVar 3)) (elCons (eExF 0 [119, 111, 114, 100] (eVar 3)) elNil))) elNil)) (eCB (c1 fRepr) (elCons (eVar 2) elNil))))))))
def d__law_right : List U → Store → R U := callD 5 g__law_right
abbrev st__law_bent : Stmt := top 37
abbrev N__law_bent : List Str := [(PySem.Str.ofString "pen"), (PySem.Str.ofString "line"), (PySem.Str.ofString "words"), (PySem.Str.ofString "spot"), (PySem.Str.ofString "odd"), (PySem.Str.ofString "rows"), (PySem.Str.ofString "way"), (PySem.Str.ofString "at"), (PySem.Str.ofString "to")]
theorem sc__law_bent : FnScope N__law_bent [(PySem.Str.ofString "pen"), (PySem.Str.ofString "line")] (defScope st__law_bent) := ⟨rfl, rfl, rfl, by decide +kernel, rfl, by decide +kernel, by decide +kernel⟩
def g__law_bent : GS := (gSeq (gPar 5 6 (elCons (eMt "str" mSplitO (eVar 1) (elCons (eC (.str [10])) elNil)) (elCons (eCall 2 d__law_draw (elCons (eVar 0) (elCons (eC (.int 8)) elNil))) elNil)))
  (gSeq (gPar 7 8 (elCons (eCall 2 d__law_draw (elCons (eVar 0) (elCons (eCB (c1 fLen) (elCons (eVar 5) elNil)) elNil))) (elCons (eCall 2 d__law_draw (elCons (eVar 0) (elCons (eCB (c1 fLen) (elCons (eVar 5) elNil)) elNil))) elNil)))
  (gSeq (gIf (bOf (eOp oEq (eVar 6) (eC (.int 0))))
  (gRet (eMt "str" mJoin (eC (.str [10])) (elCons (eOp (oAdd false) (eSl false (eVar 5) eoNone (eoSome (eVar 7))) (eSl false (eVar 5) (eoSome (eOp (oAdd false) (eVar 7) (eC (.int 1)))) eoNone)) elNil)))
  gNil)
  (gSeq (gIf (bOf (eOp oEq (eVar 6) (eC (.int 1))))
  (gRet (eMt "str" mJoin (eC (.str [10])) (elCons (eOp (oAdd false) (eSl false (eVar 5) eoNone (eoSome (eOp (oAdd false) (eVar 7) (eC (.int 1))))) (eSl false (eVar 5) (eoSome (eVar 7)) eoNone)) elNil)))
  gNil)
  (gSeq (gIf (bOf (eOp oEq (eVar 6) (eC (.int 2))))
  (gSeq (gSet2 (eVar 5) (eVar 7) (eVar 5) (eVar 8) (elCons (eIx (eVar 5) (eVar 8)) (elCons (eIx (eVar 5) (eVar 7)) elNil)))
  (gRet (eMt "str" mJoin (eC (.str [10])) (elCons (eVar 5) elNil))))
  gNil)
  (gSeq (gIf (bOf (eOp oEq (eVar 6) (eC (.int 3))))
  (gSeq (gSet 4 (eCall 2 d__law_pick (elCons (eVar 0) (elCons (eLst false (elCons (eC (.str [])) (elCons (eC (.str [119, 101, 105, 103, 104, 116, 32, 122, 122, 32, 49])) (elCons (eC (.str [119, 101, 105, 103, 104, 116, 32, 98])) (elCons (eC (.str [108, 111, 97, 100, 32, 45])) (elCons (eC (.str [114, 117, 115, 104, 32, 48])) (elCons (eC (.str [119, 101, 105, 103, 104, 116, 32, 115, 104, 111, 114, 101, 32, 49])) (elCons (eC (.str [119, 101, 105, 103, 104, 116, 32, 97, 32, 48, 49])) (elCons (eC (.str [108, 111, 97, 100])) (elCons (eC (.str [119, 101, 105, 103, 104, 116, 115, 32, 97, 32, 49])) (elCons (eC (.str [119, 101, 105, 103, 104, 116, 32, 122, 122, 122, 32, 53, 32])) elNil))))))))))) elNil))))
  (gRet (eMt "str" mJoin (eC (.str [10])) (elCons (eOp (oAdd false) (eOp (oAdd false) (eSl false (eVar 5) eoNone (eoSome (eVar 7))) (eLst false (elCons (eVar 4) elNil))) (eSl false (eVar 5) (eoSome (eVar 7)) eoNone)) elNil))))
  gNil)
  (gSeq (gSet 2 (eMt "str" mSplit (eIx (eVar 5) (eVar 7)) (elCons (eC (.str [32])) elNil)))
  (gSeq (gSet 3 (eCall 2 d__law_draw (elCons (eVar 0) (elCons (eOp (oAdd false) (eCB (c1 fLen) (elCons (eVar 2) elNil)) (eC (.int 1))) elNil))))
  (gSeq (gSet 4 (eCall 2 d__law_pick (elCons (eVar 0) (elCons (eLst false (elCons (eC (.str [])) (elCons (eC (.str [48])) (elCons (eC (.str [48, 48])) (elCons (eC (.str [45])) (elCons (eC (.str [45, 49])) (elCons (eC (.str [97])) (elCons (eC (.str [65])) (elCons (eC (.str [119, 101, 105, 103, 104, 116])) (elCons (eC (.str [108, 111, 97, 100])) (elCons (eC (.str [114, 117, 115, 104])) (elCons (eC (.str [49, 48, 48, 48, 48, 48, 48, 48, 48, 48, 48])) (elCons (eC (.str [49, 48, 48, 48, 48, 48, 48, 48, 48, 48, 49])) (elCons (eC (.str [49, 48, 48, 48, 48, 48, 48, 48, 48, 48])) (elCons (eC (.str [49, 48, 48, 48, 48, 48, 48, 48, 48, 49])) (elCons (eC (.str [115, 104, 111, 114, 101])) (elCons (eOp oRepT (eC (.str [57])) (eC (.int 30))) elNil))))))))))))))))) elNil))))
  (gSeq (gIf (bOf (eOp oEq (eVar 6) (eC (.int 4))))
  (gSet 2 (eOp (oAdd false) (eSl false (eVar 2) eoNone (eoSome (eVar 3))) (eSl false (eVar 2) (eoSome (eOp (oAdd false) (eVar 3) (eC (.int 1)))) eoNone)))
  (gSet 2 (eOp (oAdd false) (eOp (oAdd false) (eSl false (eVar 2) eoNone (eoSome (eVar 3))) (eLst false (elCons (eVar 4) elNil))) (eSl false (eVar 2) (eoSome (eOp (oAdd false) (eVar 3) (eCB (c1 fInt) (elCons (eOp oLt (eVar 6) (eC (.int 7))) elNil)))) eoNone))))
  (gSeq (gSetI (eVar 5) (eVar 7) (eMt "str" mJoin (eC (.str [32])) (elCons (eVar 2) elNil)))
  (gRet (eMt "str" mJoin (eC (.str [10])) (elCons (eVar 5) elNil))))))))))))))
def d__law_bent : List U → Store → R U := callD 9 g__law_bent
abbrev st__law_weights : Stmt := top 38
abbrev N__law_weights : List Str := [(PySem.Str.ofString "pen"), (PySem.Str.ofString "turn"), (PySem.Str.ofString "left"), (PySem.Str.ofString "found"), (PySem.Str.ofString "tag")]
theorem sc__law_weights : FnScope N__law_weights [(PySem.Str.ofString "pen")] (defScope st__law_weights) := ⟨rfl, rfl, rfl, by decide +kernel, rfl, by decide +kernel, by decide +kernel⟩
def g__law_weights : GS := (gSeq (gPar 2 3 (elCons (eLst true (elCons (eC (.str [97])) (elCons (eC (.str [98])) (elCons (eC (.str [115, 104, 111, 114, 101, 115])) (elCons (eC (.str [122, 122, 122, 122, 122, 122, 122, 122])) (elCons (eC (.str [109])) (elCons (eC (.str [107])) (elCons (eC (.str [97, 98])) (elCons (eC (.str [97, 97])) elNil))))))))) (elCons eDN elNil)))
  (gSeq (gFor (dRange1 (elCons (eCall 2 d__law_draw (elCons (eVar 0) (elCons (eC (.int 9)) elNil))) elNil)) (tName 1)
  (gSeq (gSet 4 (ePopA (eVar 2) (eCall 2 d__law_draw (elCons (eVar 0) (elCons (eCB (c1 fLen) (elCons (eVar 2) elNil)) elNil)))))
  (gPutK (eVar 3) (eVar 4) (eCall 2 d__law_pick (elCons (eVar 0) (elCons (eLst false (elCons (eC (.int 0)) (elCons (eC (.int 1)) (elCons (eC (.int 7)) (elCons (eOp oPow (eC (.int 10)) (eC (.int 9))) (elCons (eCall 2 d__law_draw (elCons (eVar 0) (elCons (eC (.int 1000)) elNil))) elNil)))))) elNil))))))
  (gRet (eLk (eVar 3)))))
def d__law_weights : List U → Store → R U := callD 5 g__law_weights
abbrev st_law : Stmt := top 39
abbrev N_law : List Str := [(PySem.Str.ofString "script"), (PySem.Str.ofString "pen"), (PySem.Str.ofString "turn"), (PySem.Str.ofString "nine"), (PySem.Str.ofString "some"), (PySem.Str.ofString "weights"), (PySem.Str.ofString "again"), (PySem.Str.ofString "error"), (PySem.Str.ofString "load"), (PySem.Str.ofString "rush"), (PySem.Str.ofString "made"), (PySem.Str.ofString "line"), (PySem.Str.ofString "bent"), (PySem.Str.ofString "odd"), (PySem.Str.ofString "caught"), (PySem.Str.ofString "tag")]
theorem sc_law : FnScope N_law [(PySem.Str.ofString "script")] (defScope st_law) := ⟨rfl, rfl, rfl, by decide +kernel, rfl, by decide +kernel, by decide +kernel⟩
def g_law : GS := (gSeq (gSet 1 (eCall 1 d__law_pen (elCons (eVar 0) elNil)))
  (gSeq (gFor (dRange1 (elCons (eC (.int 8)) elNil)) (tName 2)
  (gSeq (gSet 5 (eCall 1 d__law_weights (elCons (eVar 1) elNil)))
  (gSeq (gPar 8 9 (elCons (eCall 2 d__law_pick (elCons (eVar 1) (elCons (eLst false (elCons (eC .non) (elCons (eC (.int 0)) (elCons (eOp oPow (eC (.int 10)) (eC (.int 10))) (elCons (eCall 2 d__law_draw (elCons (eVar 1) (elCons (eC (.int 99)) elNil))) elNil))))) elNil))) (elCons (eCall 2 d__law_pick (elCons (eVar 1) (elCons (eLst false (elCons (eC .non) (elCons (eC (.int 0)) (elCons (eOp oPow (eC (.int 10)) (eC (.int 10))) (elCons (eCall 2 d__law_draw (elCons (eVar 1) (elCons (eC (.int 99)) elNil))) elNil))))) elNil))) elNil)))
  (gSeq (gPar 10 11 (elCons (eMake 1 1 2 d_Ledger___init__ [0, 1, 2, 3] (elCons (eVar 5) elNil) (elCons (eVar 8) (elCons (eVar 9) elNil))) (elCons (eCall 3 d__law_text (elCons (eVar 5) (elCons (eVar 8) (elCons (eVar 9) elNil)))) elNil)))
  (gSeq (gIf (bOr (bOf (eOp oNe (eStrI 1 d_Ledger___str__ (eVar 10)) (eVar 11))) (bOr (bOf (eNeI 1 d_Ledger___eq__ (eCM 1 2 d_Ledger_read (elCons (eVar 11) elNil)) (eVar 10))) (bNeg (bOf (eCall 1 d__law_right (elCons (eVar 11) elNil))))))
  (gRet (eC (.bl false)))
  gNil)
  (gSeq (gFor (dRange1 (elCons (eC (.int 4)) elNil)) (tName 6)
  (gSeq (gSet 12 (eCall 2 d__law_bent (elCons (eVar 1) (elCons (eVar 11) elNil))))
  (gIf (bOr (bNeg (bOf (eCall 1 d__law_right (elCons (eVar 12) elNil)))) (bNeg (bOf (eCall 1 d__law_right (elCons (eCall 2 d__law_bent (elCons (eVar 1) (elCons (eVar 12) elNil))) elNil)))))
  (gRet (eC (.bl false)))
  gNil)))
  (gSeq (gPar 13 14 (elCons (eCall 2 d__law_pick (elCons (eVar 1) (elCons (eLst false (elCons (eC .non) (elCons (eC (.int 0)) (elCons (eLst false (elCons (eVar 11) elNil)) (elCons (eTup (elCons (eVar 11) elNil)) (elCons eD0 (elCons (eC (.bl true)) (elCons (eVar 10) elNil)))))))) elNil))) (elCons (eC .non) elNil)))
  (gSeq (gTryT 0 7 14 [114, 111, 119] [119, 111, 114, 100]
  (gExpr (eCM 1 2 d_Ledger_read (elCons (eVar 13) elNil))))
  (gIf (bOf (eOp oNe (eVar 14) (eTup (elCons (eC (.int 0)) (elCons (eC (.int 0)) elNil)))))
  (gRet (eC (.bl false)))
  gNil)))))))))
  (gSeq (gSet 3 (eMt "str" mJoin (eC (.str [10])) (elCons (eOp (oAdd false) (eLc false (dSigns (eC (.str [97, 98, 99, 100, 101, 102, 103, 104, 105]))) (tName 15) bYes (eOp (oAdd false) (eOp (oAdd false) (eC (.str [119, 101, 105, 103, 104, 116, 32])) (eVar 15)) (eC (.str [32, 49]))) [15]) (eLst false (elCons (eC (.str [108, 111, 97, 100, 32, 45])) (elCons (eC (.str [114, 117, 115, 104, 32, 45])) elNil)))) elNil)))
  (gSeq (gSet 4 (eLst false (elCons (eC (.str [])) (elCons (eC (.str [108, 111, 97, 100, 32, 45])) (elCons (eC (.str [108, 111, 97, 100, 32, 45, 10, 114, 117, 115, 104, 32, 45])) (elCons (eC (.str [108, 111, 97, 100, 32, 45, 10, 114, 117, 115, 104, 32, 45, 10])) (elCons (eC (.str [108, 111, 97, 100, 32, 48, 10, 114, 117, 115, 104, 32, 48, 32])) (elCons (eC (.str [32, 108, 111, 97, 100, 32, 48, 10, 114, 117, 115, 104, 32, 48])) (elCons (eC (.str [114, 117, 115, 104, 32, 48, 10, 108, 111, 97, 100, 32, 48])) (elCons (eVar 3) elNil))))))))))
  (gRet (eAnd (eOp oEq (eLc false (dList (eVar 4)) (tName 11) (bNeg (bOf (eCall 1 d__law_right (elCons (eVar 11) elNil)))) (eVar 11) [11]) (eLst false elNil)) (eOp oEq (eCall 1 d__law_wrong (elCons (eVar 3) elNil)) (eTup (elCons (eC (.int 8)) (elCons (eC (.int 0)) elNil))))))))))
def d_law : List U → Store → R U := callD 16 g_law
section
variable {P : Program} {w : World} {mg : Str → Option Value} {base : Heap} {G : Gd} {f : Addr} {fd : FuncData}
theorem ok_is_integer (B : Bnds P mg G) (F : Fun G.K "is_integer" "is_integer" st_is_integer f fd) : FnV P w G.K mg base 1 f fd [(PySem.Str.ofString "value")] (spV G 1 d_is_integer) :=
  fn_body (n := 1) F sc_is_integer rfl fun cdv A outer s H E hr hg => ((ss_one (s_ret (v_and (v_isi kit_int rfl rfl B.n_isinstance rfl B.n_int rfl (v_var 0 rfl (.inl rfl))) (v_one (v_not (v_isi kit_bool rfl rfl B.n_isinstance rfl B.n_bool rfl (v_var 0 rfl (.inl rfl)))))))))
theorem def_is_integer (B : Bnds P mg G) (F : Fun G.K "is_integer" "is_integer" st_is_integer f fd) (hm : mg "is_integer" = some (.ref f)) : DefE P w mg base G "is_integer" 1 1 [(PySem.Str.ofString "value")] d_is_integer :=
  ⟨f, fd, hm, F.kp, ok_is_integer B F, bnd0_of F (fun _ _ _ _ _ _ us hl => match us, hl with | [_], _ => rfl), fun h => bnd1_of F fun _ _ _ _ _ _ _ => rfl⟩
theorem ok_is_name (B : Bnds P mg G) (F : Fun G.K "is_name" "is_name" st_is_name f fd) : FnV P w G.K mg base 1 f fd [(PySem.Str.ofString "value")] (spV G 1 d_is_name) :=
  fn_body (n := 1) F sc_is_name rfl fun cdv A outer s H E hr hg => ((ss_cons (s_if (PW.pt (wb_or (vb_not (vb_val (v_isi kit_str rfl rfl B.n_isinstance rfl B.n_str rfl (v_var 0 rfl (.inl rfl))))) (wb_or1 (vb_not (vb_chain op_le' op_le' s_le s_le v_int (v_cb call_len' c_len rfl B.n_len rfl (va_cons (v_var 0 rfl (.inl rfl)) va_nil)) (v_globE B.c_MOST_LETTERS rfl fun _ => .int _))))))
  (ss_one (s_ret v_bl))
  ss_nil)
  (ss_one (s_ret (v_cb (cr_all rfl) c_all rfl B.n_all rfl (va_cons (v_lc (own := false) rfl sc_is_name.nd (vsl := [((PySem.Str.ofString "letter"), 1)]) (vi_str (v_var 0 rfl (.inl rfl))) (blkOk_by (by show blkC N_is_name (defScope st_is_name) _ _ = true; decide +kernel)) (fun _ _ _ _ _ => (pg_name (i := 1) sc_is_name.nd rfl (.inl rfl))) (tg_name 1) (by decide) (fun _ _ _ _ _ => vts_nil) (fun _ _ _ _ _ => (v_cmp op_in' (s_inG (neg := false)) (v_var 1 rfl (.inl rfl)) (v_globE B.c_LETTERS rfl (fun _ => by rw [lit0]; exact .str _)) (by with_unfolding_all rfl)))) va_nil))))))
theorem def_is_name (B : Bnds P mg G) (F : Fun G.K "is_name" "is_name" st_is_name f fd) (hm : mg "is_name" = some (.ref f)) : DefE P w mg base G "is_name" 1 1 [(PySem.Str.ofString "value")] d_is_name :=
  ⟨f, fd, hm, F.kp, ok_is_name B F, bnd0_of F (fun _ _ _ _ _ _ us hl => match us, hl with | [_], _ => rfl), fun h => bnd1_of F fun _ _ _ _ _ _ _ => rfl⟩
theorem ok_is_own_name (B : Bnds P mg G) (F : Fun G.K "is_own_name" "is_own_name" st_is_own_name f fd) (D_is_name : DefE P w mg base G "is_name" 1 1 [(PySem.Str.ofString "value")] d_is_name) : FnV P w G.K mg base 2 f fd [(PySem.Str.ofString "value")] (spV G 1 d_is_own_name) :=
  fn_body (n := 1) F sc_is_own_name rfl fun cdv A outer s H E hr hg => ((ss_one (s_ret (v_and (v_callE D_is_name rfl hr (by decide) hg (takes_of rfl rfl rfl rfl) (va_cons (v_var 0 rfl (.inl rfl)) va_nil) rfl) (v_one (v_cmp (op_ne' hr.units) s_ne (v_var 0 rfl (.inl rfl)) (v_globE B.c_SHORE rfl (fun _ => by rw [lit1]; exact .str _)) (by with_unfolding_all rfl)))))))
theorem def_is_own_name (B : Bnds P mg G) (F : Fun G.K "is_own_name" "is_own_name" st_is_own_name f fd) (hm : mg "is_own_name" = some (.ref f)) (D_is_name : DefE P w mg base G "is_name" 1 1 [(PySem.Str.ofString "value")] d_is_name) : DefE P w mg base G "is_own_name" 2 1 [(PySem.Str.ofString "value")] d_is_own_name :=
  ⟨f, fd, hm, F.kp, ok_is_own_name B F D_is_name, bnd0_of F (fun _ _ _ _ _ _ us hl => match us, hl with | [_], _ => rfl), fun h => bnd1_of F fun _ _ _ _ _ _ _ => rfl⟩
theorem ok_is_between (B : Bnds P mg G) (F : Fun G.K "is_between" "is_between" st_is_between f fd) (D_is_integer : DefE P w mg base G "is_integer" 1 1 [(PySem.Str.ofString "value")] d_is_integer) : FnV P w G.K mg base 2 f fd [(PySem.Str.ofString "value"), (PySem.Str.ofString "most")] (spV G 2 d_is_between) :=
  fn_body (n := 2) F sc_is_between rfl fun cdv A outer s H E hr hg => ((ss_one (s_ret (v_and (v_callE D_is_integer rfl hr (by decide) hg (takes_of rfl rfl rfl rfl) (va_cons (v_var 0 rfl (.inl rfl)) va_nil) rfl) (v_one (v_chain op_le' op_le' s_le s_le v_int (v_var 0 rfl (.inl rfl)) (v_var 1 rfl (.inl rfl))))))))
theorem def_is_between (B : Bnds P mg G) (F : Fun G.K "is_between" "is_between" st_is_between f fd) (hm : mg "is_between" = some (.ref f)) (D_is_integer : DefE P w mg base G "is_integer" 1 1 [(PySem.Str.ofString "value")] d_is_integer) : DefE P w mg base G "is_between" 2 2 [(PySem.Str.ofString "value"), (PySem.Str.ofString "most")] d_is_between :=
  ⟨f, fd, hm, F.kp, ok_is_between B F D_is_integer, bnd0_of F (fun _ _ _ _ _ _ us hl => match us, hl with | [_, _], _ => rfl), fun h => absurd h (by decide)⟩
theorem ok_is_cap (B : Bnds P mg G) (F : Fun G.K "is_cap" "is_cap" st_is_cap f fd) (D_is_between : DefE P w mg base G "is_between" 2 2 [(PySem.Str.ofString "value"), (PySem.Str.ofString "most")] d_is_between) : FnV P w G.K mg base 3 f fd [(PySem.Str.ofString "value")] (spV G 1 d_is_cap) :=
  fn_body (n := 1) F sc_is_cap rfl fun cdv A outer s H E hr hg => ((ss_one (s_ret (v_or (v_isN (v_var 0 rfl (.inl rfl))) (v_one (v_callE D_is_between rfl hr (by decide) hg (takes_of rfl rfl rfl rfl) (va_cons (v_var 0 rfl (.inl rfl)) (va_cons (v_globE B.c_MOST_CAP rfl fun _ => .int _) va_nil)) rfl))))))
theorem def_is_cap (B : Bnds P mg G) (F : Fun G.K "is_cap" "is_cap" st_is_cap f fd) (hm : mg "is_cap" = some (.ref f)) (D_is_between : DefE P w mg base G "is_between" 2 2 [(PySem.Str.ofString "value"), (PySem.Str.ofString "most")] d_is_between) : DefE P w mg base G "is_cap" 3 1 [(PySem.Str.ofString "value")] d_is_cap :=
  ⟨f, fd, hm, F.kp, ok_is_cap B F D_is_between, bnd0_of F (fun _ _ _ _ _ _ us hl => match us, hl with | [_], _ => rfl), fun h => bnd1_of F fun _ _ _ _ _ _ _ => rfl⟩
theorem ok_are_weights (B : Bnds P mg G) (F : Fun G.K "are_weights" "are_weights" st_are_weights f fd) (D_is_own_name : DefE P w mg base G "is_own_name" 2 1 [(PySem.Str.ofString "value")] d_is_own_name) (D_is_between : DefE P w mg base G "is_between" 2 2 [(PySem.Str.ofString "value"), (PySem.Str.ofString "most")] d_is_between) : FnV P w G.K mg base 3 f fd [(PySem.Str.ofString "value")] (spV G 1 d_are_weights) :=
  fn_body (n := 1) F sc_are_weights rfl fun cdv A outer s H E hr hg => ((ss_cons (s_if (PW.pt (wb_or (vb_not (vb_val (v_isi kit_dict rfl rfl B.n_isinstance rfl B.n_dict rfl (v_var 0 rfl (.inr (.inl rfl)))))) (wb_or1 (vb_cmp op_gt' s_gt (v_cb call_lenX c_lenD rfl B.n_len rfl (va_cons (v_var 0 rfl (.inr (.inl rfl))) va_nil)) (v_globE B.c_MOST_ISLES rfl fun _ => .int _) (by with_unfolding_all rfl)))))
  (ss_one (s_ret v_bl))
  ss_nil)
  (ss_one (s_ret (v_cb (cr_all rfl) c_all rfl B.n_all rfl (va_cons (v_lc (own := false) rfl sc_are_weights.nd (vsl := [((PySem.Str.ofString "name"), 1)]) (vi_keys (v_var 0 rfl (.inr (.inl rfl)))) (blkOk_by (by show blkC N_are_weights (defScope st_are_weights) _ _ = true; decide +kernel)) (fun _ _ _ _ _ => (pg_name (i := 1) sc_are_weights.nd rfl (.inl rfl))) (tg_name 1) (by decide) (fun _ _ _ _ _ => vts_nil) (fun _ _ _ _ _ => (v_and (v_callE D_is_own_name rfl hr (by decide) hg LamX.takes0 (va_cons (v_var 1 rfl (.inl rfl)) va_nil) rfl) (v_one (v_callE D_is_between rfl hr (by decide) hg LamX.takes0 (va_cons (v_dget (u1 hr.units) (v_var 0 rfl (.inr (by first | exact .inl rfl | exact .inr rfl))) (v_var 1 rfl (.inl rfl)) fun _ _ => rfl) (va_cons (v_globE B.c_MOST_WEIGHT rfl fun _ => .int _) va_nil)) rfl))))) va_nil))))))
theorem def_are_weights (B : Bnds P mg G) (F : Fun G.K "are_weights" "are_weights" st_are_weights f fd) (hm : mg "are_weights" = some (.ref f)) (D_is_own_name : DefE P w mg base G "is_own_name" 2 1 [(PySem.Str.ofString "value")] d_is_own_name) (D_is_between : DefE P w mg base G "is_between" 2 2 [(PySem.Str.ofString "value"), (PySem.Str.ofString "most")] d_is_between) : DefE P w mg base G "are_weights" 3 1 [(PySem.Str.ofString "value")] d_are_weights :=
  ⟨f, fd, hm, F.kp, ok_are_weights B F D_is_own_name D_is_between, bnd0_of F (fun _ _ _ _ _ _ us hl => match us, hl with | [_], _ => rfl), fun h => bnd1_of F fun _ _ _ _ _ _ _ => rfl⟩
theorem ok_number_in (B : Bnds P mg G) (F : Fun G.K "number_in" "number_in" st_number_in f fd) : FnV P w G.K mg base 1 f fd [(PySem.Str.ofString "word"), (PySem.Str.ofString "most")] (spV G 2 d_number_in) :=
  fn_body (n := 2) F sc_number_in rfl fun cdv A outer s H E hr hg => ((ss_cons (s_if (PW.pt (wb_or (vb_cmp (op_eq' hr.units) s_eq (v_var 0 rfl (.inl rfl)) (v_str [] lit2) (by with_unfolding_all rfl)) (wb_or (vb_not (vb_val (v_cb (cr_all rfl) c_all rfl B.n_all rfl (va_cons (v_lc (own := false) rfl sc_number_in.nd (vsl := [((PySem.Str.ofString "sign"), 2)]) (vi_str (v_var 0 rfl (.inl rfl))) (blkOk_by (by show blkC N_number_in (defScope st_number_in) _ _ = true; decide +kernel)) (fun _ _ _ _ _ => (pg_name (i := 2) sc_number_in.nd rfl (.inl rfl))) (tg_name 2) (by decide) (fun _ _ _ _ _ => vts_nil) (fun _ _ _ _ _ => (v_cmp op_in' (s_inG (neg := false)) (v_var 2 rfl (.inl rfl)) (v_str [48, 49, 50, 51, 52, 53, 54, 55, 56, 57] lit3) (by with_unfolding_all rfl)))) va_nil)))) (wb_or1 (vb_cmp op_gt' s_gt (v_cb call_len' c_len rfl B.n_len rfl (va_cons (v_var 0 rfl (.inl rfl)) va_nil)) (v_cb call_len' c_len rfl B.n_len rfl (va_cons (v_ct call_strB c_str rfl B.n_str rfl (va_cons (v_var 1 rfl (.inl rfl)) va_nil)) va_nil)) (by with_unfolding_all rfl))))))
  (ss_one (s_ret v_non))
  ss_nil)
  (ss_one (s_ret (v_if (PW.pt (wb_and (vb_cmp (op_eq' hr.units) s_eq (v_ct call_strB c_str rfl B.n_str rfl (va_cons (v_ct call_intB c_intT rfl B.n_int rfl (va_cons (v_var 0 rfl (.inl rfl)) va_nil)) va_nil)) (v_var 0 rfl (.inl rfl)) (by with_unfolding_all rfl)) (wb_and1 (vb_cmp op_le' s_le (v_ct call_intB c_intT rfl B.n_int rfl (va_cons (v_var 0 rfl (.inl rfl)) va_nil)) (v_var 1 rfl (.inl rfl)) (by with_unfolding_all rfl))))) (v_ct call_intB c_intT rfl B.n_int rfl (va_cons (v_var 0 rfl (.inl rfl)) va_nil)) v_non)))))
theorem def_number_in (B : Bnds P mg G) (F : Fun G.K "number_in" "number_in" st_number_in f fd) (hm : mg "number_in" = some (.ref f)) : DefE P w mg base G "number_in" 1 2 [(PySem.Str.ofString "word"), (PySem.Str.ofString "most")] d_number_in :=
  ⟨f, fd, hm, F.kp, ok_number_in B F, bnd0_of F (fun _ _ _ _ _ _ us hl => match us, hl with | [_, _], _ => rfl), fun h => absurd h (by decide)⟩
theorem ok_refuse (B : Bnds P mg G) (F : Fun G.K "refuse" "refuse" st_refuse f fd) : FnV P w G.K mg base 2 f fd [(PySem.Str.ofString "row"), (PySem.Str.ofString "words"), (PySem.Str.ofString "at")] (spV G 3 d_refuse) :=
  fn_body (n := 3) F sc_refuse rfl fun cdv A outer s H E hr hg => ((ss_one (s_raise (c := 0) rfl (takes_of rfl rfl rfl rfl) B.e_InvalidText (by decide) hr (by decide) (va_cons (v_var 0 rfl (.inl rfl)) (va_cons (v_cb (call_min2 rfl) c_min rfl B.n_min rfl (va_cons (v_var 2 rfl (.inl rfl)) (va_cons (v_cb call_len' c_len rfl B.n_len rfl (va_cons (v_var 1 rfl (.inl rfl)) va_nil)) va_nil))) va_nil)) rfl)))
theorem def_refuse (B : Bnds P mg G) (F : Fun G.K "refuse" "refuse" st_refuse f fd) (hm : mg "refuse" = some (.ref f)) : DefE P w mg base G "refuse" 2 3 [(PySem.Str.ofString "row"), (PySem.Str.ofString "words"), (PySem.Str.ofString "at")] d_refuse :=
  ⟨f, fd, hm, F.kp, ok_refuse B F, bnd0_of F (fun _ _ _ _ _ _ us hl => match us, hl with | [_, _, _], _ => rfl), fun h => absurd h (by decide)⟩
theorem ok_need_size (B : Bnds P mg G) (F : Fun G.K "need_size" "need_size" st_need_size f fd) (D_refuse : DefE P w mg base G "refuse" 2 3 [(PySem.Str.ofString "row"), (PySem.Str.ofString "words"), (PySem.Str.ofString "at")] d_refuse) : FnV P w G.K mg base 3 f fd [(PySem.Str.ofString "row"), (PySem.Str.ofString "words"), (PySem.Str.ofString "size")] (spV G 3 d_need_size) :=
  fn_body (n := 3) F sc_need_size rfl fun cdv A outer s H E hr hg => ((ss_one (s_if (vb_cmp (op_ne' hr.units) s_ne (v_cb call_len' c_len rfl B.n_len rfl (va_cons (v_var 1 rfl (.inl rfl)) va_nil)) (v_var 2 rfl (.inl rfl)) (by with_unfolding_all rfl))
  (ss_one (s_expr (v_callE D_refuse rfl hr (by decide) hg (takes_of rfl rfl rfl rfl) (va_cons (v_var 0 rfl (.inl rfl)) (va_cons (v_var 1 rfl (.inl rfl)) (va_cons (v_var 2 rfl (.inl rfl)) va_nil))) rfl)))
  ss_nil)))
theorem def_need_size (B : Bnds P mg G) (F : Fun G.K "need_size" "need_size" st_need_size f fd) (hm : mg "need_size" = some (.ref f)) (D_refuse : DefE P w mg base G "refuse" 2 3 [(PySem.Str.ofString "row"), (PySem.Str.ofString "words"), (PySem.Str.ofString "at")] d_refuse) : DefE P w mg base G "need_size" 3 3 [(PySem.Str.ofString "row"), (PySem.Str.ofString "words"), (PySem.Str.ofString "size")] d_need_size :=
  ⟨f, fd, hm, F.kp, ok_need_size B F D_refuse, bnd0_of F (fun _ _ _ _ _ _ us hl => match us, hl with | [_, _, _], _ => rfl), fun h => absurd h (by decide)⟩
theorem ok_weight_in (B : Bnds P mg G) (F : Fun G.K "weight_in" "weight_in" st_weight_in f fd) (D_is_own_name : DefE P w mg base G "is_own_name" 2 1 [(PySem.Str.ofString "value")] d_is_own_name) (D_number_in : DefE P w mg base G "number_in" 1 2 [(PySem.Str.ofString "word"), (PySem.Str.ofString "most")] d_number_in) (D_refuse : DefE P w mg base G "refuse" 2 3 [(PySem.Str.ofString "row"), (PySem.Str.ofString "words"), (PySem.Str.ofString "at")] d_refuse) (D_need_size : DefE P w mg base G "need_size" 3 3 [(PySem.Str.ofString "row"), (PySem.Str.ofString "words"), (PySem.Str.ofString "size")] d_need_size) : FnV P w G.K mg base 4 f fd [(PySem.Str.ofString "row"), (PySem.Str.ofString "words"), (PySem.Str.ofString "last")] (spV G 3 d_weight_in) :=
  fn_body (n := 3) F sc_weight_in rfl fun cdv A outer s H E hr hg => ((ss_cons (s_if (PW.pt (wb_or (vb_cmp op_lt' s_lt (v_cb call_len' c_len rfl B.n_len rfl (va_cons (v_var 1 rfl (.inl rfl)) va_nil)) v_int (by with_unfolding_all rfl)) (wb_or (vb_not (vb_val (v_callE D_is_own_name rfl hr (by decide) hg (takes_of rfl rfl rfl rfl) (va_cons (v_ix rfl (v_var 1 rfl (.inl rfl)) v_int fun _ _ => rfl) va_nil) rfl))) (wb_or1 (vb_cmp op_le' s_le (v_ix rfl (v_var 1 rfl (.inl rfl)) v_int fun _ _ => rfl) (v_var 2 rfl (.inl rfl)) (by with_unfolding_all rfl))))))
  (ss_one (s_expr (v_callE D_refuse rfl hr (by decide) hg (takes_of rfl rfl rfl rfl) (va_cons (v_var 0 rfl (.inl rfl)) (va_cons (v_var 1 rfl (.inl rfl)) (va_cons v_int va_nil))) rfl)))
  ss_nil)
  (ss_cons (s_if (PW.pt (wb_or (vb_cmp op_lt' s_lt (v_cb call_len' c_len rfl B.n_len rfl (va_cons (v_var 1 rfl (.inl rfl)) va_nil)) v_int (by with_unfolding_all rfl)) (wb_or1 (vb_isN (v_callE D_number_in rfl hr (by decide) hg (takes_of rfl rfl rfl rfl) (va_cons (v_ix rfl (v_var 1 rfl (.inl rfl)) v_int fun _ _ => rfl) (va_cons (v_globE B.c_MOST_WEIGHT rfl fun _ => .int _) va_nil)) rfl)))))
  (ss_one (s_expr (v_callE D_refuse rfl hr (by decide) hg (takes_of rfl rfl rfl rfl) (va_cons (v_var 0 rfl (.inl rfl)) (va_cons (v_var 1 rfl (.inl rfl)) (va_cons v_int va_nil))) rfl)))
  ss_nil)
  (ss_cons (s_expr (v_callE D_need_size rfl hr (by decide) hg (takes_of rfl rfl rfl rfl) (va_cons (v_var 0 rfl (.inl rfl)) (va_cons (v_var 1 rfl (.inl rfl)) (va_cons v_int va_nil))) rfl))
  (ss_one (s_ret (v_tup (va_cons (v_ix rfl (v_var 1 rfl (.inl rfl)) v_int fun _ _ => rfl) (va_cons (v_ct call_intB c_intT rfl B.n_int rfl (va_cons (v_ix rfl (v_var 1 rfl (.inl rfl)) v_int fun _ _ => rfl) va_nil)) va_nil)))))))))
theorem def_weight_in (B : Bnds P mg G) (F : Fun G.K "weight_in" "weight_in" st_weight_in f fd) (hm : mg "weight_in" = some (.ref f)) (D_is_own_name : DefE P w mg base G "is_own_name" 2 1 [(PySem.Str.ofString "value")] d_is_own_name) (D_number_in : DefE P w mg base G "number_in" 1 2 [(PySem.Str.ofString "word"), (PySem.Str.ofString "most")] d_number_in) (D_refuse : DefE P w mg base G "refuse" 2 3 [(PySem.Str.ofString "row"), (PySem.Str.ofString "words"), (PySem.Str.ofString "at")] d_refuse) (D_need_size : DefE P w mg base G "need_size" 3 3 [(PySem.Str.ofString "row"), (PySem.Str.ofString "words"), (PySem.Str.ofString "size")] d_need_size) : DefE P w mg base G "weight_in" 4 3 [(PySem.Str.ofString "row"), (PySem.Str.ofString "words"), (PySem.Str.ofString "last")] d_weight_in :=
  ⟨f, fd, hm, F.kp, ok_weight_in B F D_is_own_name D_number_in D_refuse D_need_size, bnd0_of F (fun _ _ _ _ _ _ us hl => match us, hl with | [_, _, _], _ => rfl), fun h => absurd h (by decide)⟩
theorem ok_cap_in (B : Bnds P mg G) (F : Fun G.K "cap_in" "cap_in" st_cap_in f fd) (D_number_in : DefE P w mg base G "number_in" 1 2 [(PySem.Str.ofString "word"), (PySem.Str.ofString "most")] d_number_in) (D_refuse : DefE P w mg base G "refuse" 2 3 [(PySem.Str.ofString "row"), (PySem.Str.ofString "words"), (PySem.Str.ofString "at")] d_refuse) (D_need_size : DefE P w mg base G "need_size" 3 3 [(PySem.Str.ofString "row"), (PySem.Str.ofString "words"), (PySem.Str.ofString "size")] d_need_size) : FnV P w G.K mg base 4 f fd [(PySem.Str.ofString "rows"), (PySem.Str.ofString "row"), (PySem.Str.ofString "title")] (spV G 3 d_cap_in) :=
  fn_body (n := 3) F sc_cap_in rfl fun cdv A outer s H E hr hg => ((ss_cons (s_set 3 sc_cap_in.nd rfl (.inl rfl) (v_if (vb_cmp op_lt' s_lt (v_var 1 rfl (.inl rfl)) (v_cb call_len' c_len rfl B.n_len rfl (va_cons (v_var 0 rfl (.inl rfl)) va_nil)) (by with_unfolding_all rfl)) (v_split rfl (v_ix rfl (v_var 0 rfl (.inl rfl)) (v_var 1 rfl (.inl rfl)) fun _ _ => rfl) (va_cons (v_str [32] lit4) va_nil)) (v_lst (own := false) (va_cons (v_str [] lit2) va_nil))))
  (ss_cons (s_if (vb_cmp (op_ne' hr.units) s_ne (v_ix rfl (v_var 3 rfl (.inl rfl)) v_int fun _ _ => rfl) (v_var 2 rfl (.inl rfl)) (by with_unfolding_all rfl))
  (ss_one (s_expr (v_callE D_refuse rfl hr (by decide) hg (takes_of rfl rfl rfl rfl) (va_cons (v_var 1 rfl (.inl rfl)) (va_cons (v_var 3 rfl (.inl rfl)) (va_cons v_int va_nil))) rfl)))
  ss_nil)
  (ss_cons (s_if (PW.pt (wb_or (vb_cmp op_lt' s_lt (v_cb call_len' c_len rfl B.n_len rfl (va_cons (v_var 3 rfl (.inl rfl)) va_nil)) v_int (by with_unfolding_all rfl)) (wb_or1 (PW.pt (wb_and (vb_cmp (op_ne' hr.units) s_ne (v_ix rfl (v_var 3 rfl (.inl rfl)) v_int fun _ _ => rfl) (v_globE B.c_NONE rfl (fun _ => by rw [lit5]; exact .str _)) (by with_unfolding_all rfl)) (wb_and1 (vb_isN (v_callE D_number_in rfl hr (by decide) hg (takes_of rfl rfl rfl rfl) (va_cons (v_ix rfl (v_var 3 rfl (.inl rfl)) v_int fun _ _ => rfl) (va_cons (v_globE B.c_MOST_CAP rfl fun _ => .int _) va_nil)) rfl))))))))
  (ss_one (s_expr (v_callE D_refuse rfl hr (by decide) hg (takes_of rfl rfl rfl rfl) (va_cons (v_var 1 rfl (.inl rfl)) (va_cons (v_var 3 rfl (.inl rfl)) (va_cons v_int va_nil))) rfl)))
  ss_nil)
  (ss_cons (s_expr (v_callE D_need_size rfl hr (by decide) hg (takes_of rfl rfl rfl rfl) (va_cons (v_var 1 rfl (.inl rfl)) (va_cons (v_var 3 rfl (.inl rfl)) (va_cons v_int va_nil))) rfl))
  (ss_one (s_ret (v_if (vb_cmp (op_eq' hr.units) s_eq (v_ix rfl (v_var 3 rfl (.inl rfl)) v_int fun _ _ => rfl) (v_globE B.c_NONE rfl (fun _ => by rw [lit5]; exact .str _)) (by with_unfolding_all rfl)) v_non (v_ct call_intB c_intT rfl B.n_int rfl (va_cons (v_ix rfl (v_var 3 rfl (.inl rfl)) v_int fun _ _ => rfl) va_nil))))))))))
theorem def_cap_in (B : Bnds P mg G) (F : Fun G.K "cap_in" "cap_in" st_cap_in f fd) (hm : mg "cap_in" = some (.ref f)) (D_number_in : DefE P w mg base G "number_in" 1 2 [(PySem.Str.ofString "word"), (PySem.Str.ofString "most")] d_number_in) (D_refuse : DefE P w mg base G "refuse" 2 3 [(PySem.Str.ofString "row"), (PySem.Str.ofString "words"), (PySem.Str.ofString "at")] d_refuse) (D_need_size : DefE P w mg base G "need_size" 3 3 [(PySem.Str.ofString "row"), (PySem.Str.ofString "words"), (PySem.Str.ofString "size")] d_need_size) : DefE P w mg base G "cap_in" 4 3 [(PySem.Str.ofString "rows"), (PySem.Str.ofString "row"), (PySem.Str.ofString "title")] d_cap_in :=
  ⟨f, fd, hm, F.kp, ok_cap_in B F D_number_in D_refuse D_need_size, bnd0_of F (fun _ _ _ _ _ _ us hl => match us, hl with | [_, _, _], _ => rfl), fun h => absurd h (by decide)⟩
theorem ok_Ledger___init__ (B : Bnds P mg G) (F : Fun G.K "__init__" "Ledger.__init__" st_Ledger___init__ f fd) (D_is_cap : DefE P w mg base G "is_cap" 3 1 [(PySem.Str.ofString "value")] d_is_cap) (D_are_weights : DefE P w mg base G "are_weights" 3 1 [(PySem.Str.ofString "value")] d_are_weights) : FnV P w G.K mg base 4 f fd [(PySem.Str.ofString "self"), (PySem.Str.ofString "weights"), (PySem.Str.ofString "load"), (PySem.Str.ofString "rush")] (spV G 4 d_Ledger___init__) :=
  fn_body (n := 4) F sc_Ledger___init__ rfl fun cdv A outer s H E hr hg => ((ss_cons (s_if (vb_not (vb_val (v_callE D_are_weights rfl hr (by decide) hg (takes_of rfl rfl rfl rfl) (va_cons (v_var 1 rfl (.inl rfl)) va_nil) rfl)))
  (ss_one s_never)
  ss_nil)
  (ss_cons (s_if (vb_not (vb_val (v_callE D_is_cap rfl hr (by decide) hg (takes_of rfl rfl rfl rfl) (va_cons (v_var 2 rfl (.inl rfl)) va_nil) rfl)))
  (ss_one s_never)
  ss_nil)
  (ss_cons (s_if (vb_not (vb_val (v_callE D_is_cap rfl hr (by decide) hg (takes_of rfl rfl rfl rfl) (va_cons (v_var 3 rfl (.inl rfl)) va_nil) rfl)))
  (ss_one s_never)
  ss_nil)
  (ss_cons (s_setFD rfl B.k_Ledger (by decide +kernel) lit6 (v_ct call_tuple_of c_tuple rfl B.n_tuple rfl (va_cons (v_sortIt (own := false) rfl rfl rfl B.n_sorted (v_var 1 rfl (.inl rfl))) va_nil)) (v_var 0 rfl (.inl rfl)))
  (ss_one (s_setFD rfl B.k_Ledger (by decide +kernel) lit7 (v_tup (va_cons (v_var 2 rfl (.inl rfl)) (va_cons (v_var 3 rfl (.inl rfl)) va_nil))) (v_var 0 rfl (.inl rfl)))))))))
theorem def_Ledger___init__ (B : Bnds P mg G) (F : Fun G.K "__init__" "Ledger.__init__" st_Ledger___init__ f fd) (M : Mk G.K (G.ca 1) f) (D_is_cap : DefE P w mg base G "is_cap" 3 1 [(PySem.Str.ofString "value")] d_is_cap) (D_are_weights : DefE P w mg base G "are_weights" 3 1 [(PySem.Str.ofString "value")] d_are_weights) : InitD P w mg base G 1 4 4 1 [(PySem.Str.ofString "self"), (PySem.Str.ofString "weights"), (PySem.Str.ofString "load"), (PySem.Str.ofString "rush")] [(PySem.Str.ofString "load"), (PySem.Str.ofString "rush")] [0, 1, 2, 3] d_Ledger___init__ :=
  ⟨f, fd, M, ok_Ledger___init__ B F D_is_cap D_are_weights, ⟨fun s us ws _ h1 h2 => by
    obtain ⟨oc, od, kV, doc, pm, an, cdv, ct, osl, rfl, lk, hcd⟩ := F.ex
    exact match us, ws, h1, h2 with | [_, _], [_, _], _, _ => .of_eq rfl⟩⟩
theorem ok_Ledger_read (B : Bnds P mg G) (F : Fun G.K "read" "Ledger.read" st_Ledger_read f fd) (D_weight_in : DefE P w mg base G "weight_in" 4 3 [(PySem.Str.ofString "row"), (PySem.Str.ofString "words"), (PySem.Str.ofString "last")] d_weight_in) (D_cap_in : DefE P w mg base G "cap_in" 4 3 [(PySem.Str.ofString "rows"), (PySem.Str.ofString "row"), (PySem.Str.ofString "title")] d_cap_in) (D_Ledger___init__ : InitD P w mg base G 1 4 4 1 [(PySem.Str.ofString "self"), (PySem.Str.ofString "weights"), (PySem.Str.ofString "load"), (PySem.Str.ofString "rush")] [(PySem.Str.ofString "load"), (PySem.Str.ofString "rush")] [0, 1, 2, 3] d_Ledger___init__) : FnV P w G.K mg base 6 f fd [(PySem.Str.ofString "cls"), (PySem.Str.ofString "text")] (spV G 2 d_Ledger_read) :=
  fn_body (n := 2) F sc_Ledger_read rfl fun cdv A outer s H E hr hg => ((ss_cons (s_if (vb_not (vb_val (v_isiI kit_str rfl B.k_Ledger.ins B.k_Ledger.str rfl B.n_isinstance rfl B.n_str rfl (v_var 1 rfl (.inl rfl)))))
  (ss_one (s_raise (c := 0) rfl (takes_of rfl rfl rfl rfl) B.e_InvalidText (by decide) hr (by decide) (va_cons v_int (va_cons v_int va_nil)) rfl))
  ss_nil)
  (ss_cons (s_par3 (i := 3) (j := 4) (l := 5) rfl sc_Ledger_read.nd rfl rfl rfl (by decide) (by decide) (by decide) rfl rfl rfl (va_cons (v_split rfl (v_var 1 rfl (.inl rfl)) (va_cons (v_str [10] lit8) va_nil)) (va_cons v_dN (va_cons (v_str [] lit2) va_nil))) rfl)
  (ss_cons (s_while (fun _ _ => 10) (passes_of rfl) (PW.pt (wb_and (vb_cmp op_lt' s_lt (v_cb call_lenX c_lenD rfl B.n_len rfl (va_cons (v_var 4 rfl (.inl rfl)) va_nil)) (v_cb (call_min2 rfl) c_min rfl B.n_min rfl (va_cons (v_cb call_len' c_len rfl B.n_len rfl (va_cons (v_var 3 rfl (.inl rfl)) va_nil)) (va_cons (v_globE B.c_MOST_ISLES rfl fun _ => .int _) va_nil))) (by with_unfolding_all rfl)) (wb_and1 (vb_cmp (op_eq' hr.units) s_eq (v_ix rfl (v_split rfl (v_ix rfl (v_var 3 rfl (.inl rfl)) (v_cb call_lenX c_lenD rfl B.n_len rfl (va_cons (v_var 4 rfl (.inl rfl)) va_nil)) fun _ _ => rfl) (va_cons (v_str [32] lit4) va_nil)) v_int fun _ _ => rfl) (v_str [119, 101, 105, 103, 104, 116] lit9) (by with_unfolding_all rfl)))))
  (ss_cons (s_asg (v_callE D_weight_in rfl hr (by decide) hg (takes_of rfl rfl rfl rfl) (va_cons (v_cb call_lenX c_lenD rfl B.n_len rfl (va_cons (v_var 4 rfl (.inl rfl)) va_nil)) (va_cons (v_split rfl (v_ix rfl (v_var 3 rfl (.inl rfl)) (v_cb call_lenX c_lenD rfl B.n_len rfl (va_cons (v_var 4 rfl (.inl rfl)) va_nil)) fun _ _ => rfl) (va_cons (v_str [32] lit4) va_nil)) (va_cons (v_var 5 rfl (.inl rfl)) va_nil))) rfl) (pg_tup rfl (pgs_cons (pg_name (i := 5) sc_Ledger_read.nd rfl (.inl rfl)) (pgs_cons (pg_name (i := 8) sc_Ledger_read.nd rfl (.inl rfl)) pgs_nil))) (tg_tup (tgs_cons 5 (tgs_cons 8 tgs_nil)) rfl))
  (ss_one (s_putK (u1 hr.units) (v_var 8 rfl (.inl rfl)) (v_var 4 rfl (.inl rfl)) (v_var 5 rfl (.inl rfl))))))
  (ss_cons (s_set 2 sc_Ledger_read.nd rfl (.inl rfl) (v_cb call_lenX c_lenD rfl B.n_len rfl (va_cons (v_var 4 rfl (.inl rfl)) va_nil)))
  (ss_cons (s_par (i := 6) (j := 7) rfl sc_Ledger_read.nd rfl rfl (by decide) rfl rfl (va_cons (v_callE D_cap_in rfl hr (by decide) hg (takes_of rfl rfl rfl rfl) (va_cons (v_var 3 rfl (.inl rfl)) (va_cons (v_var 2 rfl (.inl rfl)) (va_cons (v_str [108, 111, 97, 100] lit10) va_nil))) rfl) (va_cons (v_callE D_cap_in rfl hr (by decide) hg (takes_of rfl rfl rfl rfl) (va_cons (v_var 3 rfl (.inl rfl)) (va_cons (v_op op_add' (s_add (own := false)) (v_var 2 rfl (.inl rfl)) v_int) (va_cons (v_str [114, 117, 115, 104] lit11) va_nil))) rfl) va_nil)) rfl)
  (ss_cons (s_if (vb_cmp op_gt' s_gt (v_cb call_len' c_len rfl B.n_len rfl (va_cons (v_var 3 rfl (.inl rfl)) va_nil)) (v_op op_add' (s_add (own := false)) (v_var 2 rfl (.inl rfl)) v_int) (by with_unfolding_all rfl))
  (ss_one (s_raise (c := 0) rfl (takes_of rfl rfl rfl rfl) B.e_InvalidText (by decide) hr (by decide) (va_cons (v_op op_add' (s_add (own := false)) (v_var 2 rfl (.inl rfl)) v_int) (va_cons v_int va_nil)) rfl))
  ss_nil)
  (ss_one (s_ret (v_makeLD (i := 0) D_Ledger___init__ rfl hr (by decide) hg (takes_of rfl rfl rfl rfl) rfl (.inl rfl) rfl rfl (by intro l hl; exact match l, hl with | [_, _, _, _], _ => rfl) (va_cons (v_lk (v_var 4 rfl (.inl rfl))) va_nil) (vp_cons (v_var 6 rfl (.inl rfl)) (vp_cons (v_var 7 rfl (.inl rfl)) vp_nil))))))))))))
theorem def_Ledger_read {p : Addr} {mc : Value} (B : Bnds P mg G) (F : Fun G.K "read" "Ledger.read" st_Ledger_read f fd) (R : ClX.CRead G.K (G.ca 1) mc) (M : ClX.CMet G.K (G.ca 1) mc (PySem.Str.ofString "read") p f) (D_weight_in : DefE P w mg base G "weight_in" 4 3 [(PySem.Str.ofString "row"), (PySem.Str.ofString "words"), (PySem.Str.ofString "last")] d_weight_in) (D_cap_in : DefE P w mg base G "cap_in" 4 3 [(PySem.Str.ofString "rows"), (PySem.Str.ofString "row"), (PySem.Str.ofString "title")] d_cap_in) (D_Ledger___init__ : InitD P w mg base G 1 4 4 1 [(PySem.Str.ofString "self"), (PySem.Str.ofString "weights"), (PySem.Str.ofString "load"), (PySem.Str.ofString "rush")] [(PySem.Str.ofString "load"), (PySem.Str.ofString "rush")] [0, 1, 2, 3] d_Ledger___init__) : CmD P w mg base G 1 6 (PySem.Str.ofString "read") (PySem.Str.ofString "text") d_Ledger_read :=
  ⟨p, f, mc, fd, _, R, M, ok_Ledger_read B F D_weight_in D_cap_in D_Ledger___init__, bnd0_of F (fun _ _ _ _ _ _ us hl => match us, hl with | [_, _], _ => rfl), fun s a b => by
    obtain ⟨oc, od, kV, doc, pm, an, cdv, ct, osl, rfl, lk, hcd⟩ := F.ex
    exact .of_eq rfl⟩
theorem ok_Ledger___eq__ (B : Bnds P mg G) (F : Fun G.K "__eq__" "Ledger.__eq__" st_Ledger___eq__ f fd) : FnV P w G.K mg base 1 f fd [(PySem.Str.ofString "self"), (PySem.Str.ofString "other")] (spV G 2 d_Ledger___eq__) :=
  fn_body (n := 2) F sc_Ledger___eq__ rfl fun cdv A outer s H E hr hg => ((ss_cons (s_if (vb_not (vb_val (v_isC rfl B.k_Ledger.ins rfl B.n_isinstance rfl B.k_Ledger.g (v_var 1 rfl (.inl rfl)))))
  (ss_one (s_ret v_bl))
  ss_nil)
  (ss_one (s_ret (v_cmp (op_eq' hr.units) s_eq (v_tup (va_cons (v_fldD rfl B.k_Ledger (by decide +kernel) lit6 (v_var 0 rfl (.inl rfl))) (va_cons (v_fldD rfl B.k_Ledger (by decide +kernel) lit7 (v_var 0 rfl (.inl rfl))) va_nil))) (v_tup (va_cons (v_fldD rfl B.k_Ledger (by decide +kernel) lit6 (v_var 1 rfl (.inl rfl))) (va_cons (v_fldD rfl B.k_Ledger (by decide +kernel) lit7 (v_var 1 rfl (.inl rfl))) va_nil))) (by with_unfolding_all rfl))))))
theorem def_Ledger___eq__ (B : Bnds P mg G) (F : Fun G.K "__eq__" "Ledger.__eq__" st_Ledger___eq__ f fd) (M : NeI G.K (G.ca 1) f) : EqD P w mg base G 1 1 d_Ledger___eq__ :=
  ⟨f, fd, _, M, ok_Ledger___eq__ B F, bnd0_of F (fun _ _ _ _ _ _ us hl => match us, hl with | [_, _], _ => rfl)⟩
theorem ok_Ledger___str__ (B : Bnds P mg G) (F : Fun G.K "__str__" "Ledger.__str__" st_Ledger___str__ f fd) : FnV P w G.K mg base 1 f fd [(PySem.Str.ofString "self")] (spV G 1 d_Ledger___str__) :=
  fn_body (n := 1) F sc_Ledger___str__ rfl fun cdv A outer s H E hr hg => ((ss_cons (s_setLc (own := false) (i := 1) rfl sc_Ledger___str__.nd rfl rfl rfl (vsl := [((PySem.Str.ofString "name"), 5), ((PySem.Str.ofString "weight"), 6)]) (vi_tup rfl (v_fldD rfl B.k_Ledger (by decide +kernel) lit6 (v_var 0 rfl (.inl rfl)))) (blkOk_by (by show blkC N_Ledger___str__ (defScope st_Ledger___str__) _ _ = true; decide +kernel)) (fun _ _ _ _ _ => (pg_tup rfl (pgs_cons (pg_name (i := 5) sc_Ledger___str__.nd rfl (.inl rfl)) (pgs_cons (pg_name (i := 6) sc_Ledger___str__.nd rfl (.inl rfl)) pgs_nil)))) (tg_tup (tgs_cons 5 (tgs_cons 6 tgs_nil)) rfl) (by decide) (fun _ _ _ _ _ => vts_nil) (fun _ _ _ _ _ => (v_js (.cons (v_str [119, 101, 105, 103, 104, 116, 32] lit12) (.cons (v_fmt (v_var 5 rfl (.inl rfl))) (.cons (v_str [32] lit4) (.cons (v_fmt (v_var 6 rfl (.inl rfl))) .nil)))))))
  (ss_cons (s_asg (v_lc (own := false) rfl sc_Ledger___str__.nd (vsl := [((PySem.Str.ofString "cap"), 4)]) (vi_tup rfl (v_fldD rfl B.k_Ledger (by decide +kernel) lit7 (v_var 0 rfl (.inl rfl)))) (blkOk_by (by show blkC N_Ledger___str__ (defScope st_Ledger___str__) _ _ = true; decide +kernel)) (fun _ _ _ _ _ => (pg_name (i := 4) sc_Ledger___str__.nd rfl (.inl rfl))) (tg_name 4) (by decide) (fun _ _ _ _ _ => vts_nil) (fun _ _ _ _ _ => (v_if (vb_isN (v_var 4 rfl (.inl rfl))) (v_globE B.c_NONE rfl (fun _ => by rw [lit5]; exact .str _)) (v_ct call_strB c_str rfl B.n_str rfl (va_cons (v_var 4 rfl (.inl rfl)) va_nil))))) (pg_lst rfl (pgs_cons (pg_name (i := 2) sc_Ledger___str__.nd rfl (.inl rfl)) (pgs_cons (pg_name (i := 3) sc_Ledger___str__.nd rfl (.inl rfl)) pgs_nil))) (tg_lst (tgs_cons 2 (tgs_cons 3 tgs_nil)) rfl))
  (ss_one (s_ret (v_join rfl (v_str [10] lit8) (va_cons (v_lst (own := false) (va_star rfl (v_var 1 rfl (.inl rfl)) (va_cons (v_js (.cons (v_str [108, 111, 97, 100, 32] lit13) (.cons (v_fmt (v_var 2 rfl (.inl rfl))) .nil))) (va_cons (v_js (.cons (v_str [114, 117, 115, 104, 32] lit14) (.cons (v_fmt (v_var 3 rfl (.inl rfl))) .nil))) va_nil)))) va_nil)))))))
theorem def_Ledger___str__ (B : Bnds P mg G) (F : Fun G.K "__str__" "Ledger.__str__" st_Ledger___str__ f fd) (M : StrI G.K (G.ca 1) f) : StrD P w mg base G 1 1 d_Ledger___str__ :=
  ⟨f, fd, _, M, ok_Ledger___str__ B F, bnd0_of F (fun _ _ _ _ _ _ us hl => match us, hl with | [_], _ => rfl)⟩
theorem ok__law_pen (B : Bnds P mg G) (F : Fun G.K "_law_pen" "_law_pen" st__law_pen f fd) : FnV P w G.K mg base 1 f fd [(PySem.Str.ofString "script")] (spV G 1 d__law_pen) :=
  fn_bodyO (n := 1) F sc__law_pen rfl fun cdv A outer s H E hr hg => ((ss_one (s_ret (v_lst (own := true) (va_cons (v_ct call_list_of (c_list (own := false)) rfl B.n_list rfl (va_cons (v_sl (own := false) rfl (v_var 0 rfl (.inl rfl)) vo_none (vo_some v_int)) va_nil)) (va_cons v_int (va_cons v_int va_nil)))))))
theorem def__law_pen (B : Bnds P mg G) (F : Fun G.K "_law_pen" "_law_pen" st__law_pen f fd) (hm : mg "_law_pen" = some (.ref f)) : DefE P w mg base G "_law_pen" 1 1 [(PySem.Str.ofString "script")] d__law_pen :=
  ⟨f, fd, hm, F.kp, ok__law_pen B F, bnd0_of F (fun _ _ _ _ _ _ us hl => match us, hl with | [_], _ => rfl), fun h => bnd1_of F fun _ _ _ _ _ _ _ => rfl⟩
theorem ok__law_draw (B : Bnds P mg G) (F : Fun G.K "_law_draw" "_law_draw" st__law_draw f fd) : FnV P w G.K mg base 1 f fd [(PySem.Str.ofString "pen"), (PySem.Str.ofString "many")] (spV G 2 d__law_draw) :=
  fn_body (n := 2) F sc__law_draw rfl fun cdv A outer s H E hr hg => ((ss_cons (s_if (vb_cmp op_gt' s_gt (v_ix rfl (v_var 0 rfl (.inl rfl)) v_int fun _ _ => rfl) v_int (by with_unfolding_all rfl))
  (ss_cons (s_set 5 sc__law_draw.nd rfl (.inl rfl) (v_op op_mod s_mod (v_ct call_int1 c_int rfl B.n_int rfl (va_cons (v_ix rfl (v_var 0 rfl (.inl rfl)) v_int fun _ _ => rfl) va_nil)) (v_var 1 rfl (.inl rfl))))
  (ss_cons (s_setI (v_op op_fdiv s_div (v_ct call_int1 c_int rfl B.n_int rfl (va_cons (v_ix rfl (v_var 0 rfl (.inl rfl)) v_int fun _ _ => rfl) va_nil)) (v_var 1 rfl (.inl rfl))) (v_var 0 rfl (.inl rfl)) v_int)
  (ss_one (s_ret (v_var 5 rfl (.inl rfl))))))
  ss_nil)
  (ss_cons (s_set 2 sc__law_draw.nd rfl (.inl rfl) (v_ix rfl (v_var 0 rfl (.inl rfl)) v_int fun _ _ => rfl))
  (ss_cons (s_setI (v_op op_add' (s_add (own := false)) (v_var 2 rfl (.inl rfl)) v_int) (v_var 0 rfl (.inl rfl)) v_int)
  (ss_cons (s_set 3 sc__law_draw.nd rfl (.inl rfl) (v_op op_add' (s_add (own := false)) (v_op op_mul s_mul v_int (v_var 2 rfl (.inl rfl))) v_int))
  (ss_cons (s_if (vb_cmp (op_ne' hr.units) s_ne (v_ix rfl (v_var 0 rfl (.inl rfl)) v_int fun _ _ => rfl) (v_lst (own := false) va_nil) (by with_unfolding_all rfl))
  (ss_one (s_set 3 sc__law_draw.nd rfl (.inl rfl) (v_ix rfl (v_ix rfl (v_var 0 rfl (.inl rfl)) v_int fun _ _ => rfl) (v_op op_mod s_mod (v_ct call_int1 c_int rfl B.n_int rfl (va_cons (v_var 2 rfl (.inl rfl)) va_nil)) (v_cb call_len' c_len rfl B.n_len rfl (va_cons (v_ix rfl (v_var 0 rfl (.inl rfl)) v_int fun _ _ => rfl) va_nil))) fun _ _ => rfl)))
  ss_nil)
  (ss_cons (s_if (PW.pt (wb_and (vb_cmp op_lt' s_lt (v_var 2 rfl (.inl rfl)) (v_cb call_len' c_len rfl B.n_len rfl (va_cons (v_ix rfl (v_var 0 rfl (.inl rfl)) v_int fun _ _ => rfl) va_nil)) (by with_unfolding_all rfl)) (wb_and1 (vb_cmp op_ge' s_ge (v_cb call_abs c_abs rfl B.n_abs rfl (va_cons (v_var 3 rfl (.inl rfl)) va_nil)) (v_op op_pow s_pow v_int v_int) (by with_unfolding_all rfl)))))
  (ss_cons (s_set 6 sc__law_draw.nd rfl (.inl rfl) (v_op op_add' (s_add (own := false)) (v_op op_mul s_mul v_int (v_op op_sub s_sub (v_cb call_abs c_abs rfl B.n_abs rfl (va_cons (v_var 3 rfl (.inl rfl)) va_nil)) (v_op op_pow s_pow v_int v_int))) (v_ct call_int1 c_int rfl B.n_int rfl (va_cons (v_cmp op_lt' s_lt (v_var 3 rfl (.inl rfl)) v_int (by with_unfolding_all rfl)) va_nil))))
  (ss_cons (s_setI (v_op op_fdiv s_div (v_ct call_int1 c_int rfl B.n_int rfl (va_cons (v_var 6 rfl (.inl rfl)) va_nil)) (v_var 1 rfl (.inl rfl))) (v_var 0 rfl (.inl rfl)) v_int)
  (ss_one (s_ret (v_op op_mod s_mod (v_ct call_int1 c_int rfl B.n_int rfl (va_cons (v_var 6 rfl (.inl rfl)) va_nil)) (v_var 1 rfl (.inl rfl)))))))
  ss_nil)
  (ss_cons (s_set 4 sc__law_draw.nd rfl (.inl rfl) (v_op op_mod s_mod (v_ct call_int1 c_int rfl B.n_int rfl (va_cons (v_op op_pow s_pow (v_op op_add' (s_add (own := false)) (v_op op_add' (s_add (own := false)) (v_op op_mod s_mod (v_ct call_int1 c_int rfl B.n_int rfl (va_cons (v_var 3 rfl (.inl rfl)) va_nil)) v_int) (v_op op_mul s_mul v_int (v_var 2 rfl (.inl rfl)))) v_int) v_int) va_nil)) v_int))
  (ss_cons (s_set 4 sc__law_draw.nd rfl (.inl rfl) (v_op op_mod s_mod (v_ct call_int1 c_int rfl B.n_int rfl (va_cons (v_op op_pow s_pow (v_op op_add' (s_add (own := false)) (v_op op_add' (s_add (own := false)) (v_op op_mul s_mul (v_var 4 rfl (.inl rfl)) (v_op op_add' (s_add (own := false)) (v_op op_mul s_mul v_int (v_var 2 rfl (.inl rfl))) v_int)) (v_op op_mul s_mul (v_op op_mul s_mul v_int (v_var 2 rfl (.inl rfl))) (v_var 2 rfl (.inl rfl)))) v_int) v_int) va_nil)) v_int))
  (ss_one (s_ret (v_op op_mod s_mod (v_ct call_int1 c_int rfl B.n_int rfl (va_cons (v_op op_fdiv s_div (v_var 4 rfl (.inl rfl)) v_int) va_nil)) (v_var 1 rfl (.inl rfl))))))))))))))
theorem def__law_draw (B : Bnds P mg G) (F : Fun G.K "_law_draw" "_law_draw" st__law_draw f fd) (hm : mg "_law_draw" = some (.ref f)) : DefE P w mg base G "_law_draw" 1 2 [(PySem.Str.ofString "pen"), (PySem.Str.ofString "many")] d__law_draw :=
  ⟨f, fd, hm, F.kp, ok__law_draw B F, bnd0_of F (fun _ _ _ _ _ _ us hl => match us, hl with | [_, _], _ => rfl), fun h => absurd h (by decide)⟩
theorem ok__law_pick (B : Bnds P mg G) (F : Fun G.K "_law_pick" "_law_pick" st__law_pick f fd) (D__law_draw : DefE P w mg base G "_law_draw" 1 2 [(PySem.Str.ofString "pen"), (PySem.Str.ofString "many")] d__law_draw) : FnV P w G.K mg base 2 f fd [(PySem.Str.ofString "pen"), (PySem.Str.ofString "some")] (spV G 2 d__law_pick) :=
  fn_body (n := 2) F sc__law_pick rfl fun cdv A outer s H E hr hg => ((ss_one (s_ret (v_ix rfl (v_var 1 rfl (.inl rfl)) (v_callE D__law_draw rfl hr (by decide) hg (takes_of rfl rfl rfl rfl) (va_cons (v_var 0 rfl (.inl rfl)) (va_cons (v_cb call_len' c_len rfl B.n_len rfl (va_cons (v_var 1 rfl (.inl rfl)) va_nil)) va_nil)) rfl) fun _ _ => rfl))))
theorem def__law_pick (B : Bnds P mg G) (F : Fun G.K "_law_pick" "_law_pick" st__law_pick f fd) (hm : mg "_law_pick" = some (.ref f)) (D__law_draw : DefE P w mg base G "_law_draw" 1 2 [(PySem.Str.ofString "pen"), (PySem.Str.ofString "many")] d__law_draw) : DefE P w mg base G "_law_pick" 2 2 [(PySem.Str.ofString "pen"), (PySem.Str.ofString "some")] d__law_pick :=
  ⟨f, fd, hm, F.kp, ok__law_pick B F D__law_draw, bnd0_of F (fun _ _ _ _ _ _ us hl => match us, hl with | [_, _], _ => rfl), fun h => absurd h (by decide)⟩
theorem ok__law_text (B : Bnds P mg G) (F : Fun G.K "_law_text" "_law_text" st__law_text f fd) : FnV P w G.K mg base 1 f fd [(PySem.Str.ofString "weights"), (PySem.Str.ofString "load"), (PySem.Str.ofString "rush")] (spV G 3 d__law_text) :=
  fn_body (n := 3) F sc__law_text rfl fun cdv A outer s H E hr hg => ((ss_cons (s_setLc (own := true) (i := 3) rfl sc__law_text.nd rfl rfl rfl (vsl := [((PySem.Str.ofString "tag"), 4)]) (vi_list rfl (v_cb call_sortD (c_sorted (own := false)) rfl B.n_sorted rfl (va_cons (v_lc (own := false) rfl sc__law_text.nd (vsl := [((PySem.Str.ofString "tag"), 4)]) (vi_keys (v_var 0 rfl (.inr (.inl rfl)))) (blkOk_by (by show blkC N__law_text (defScope st__law_text) _ _ = true; decide +kernel)) (fun _ _ _ _ _ => (pg_name (i := 4) sc__law_text.nd rfl (.inl rfl))) (tg_name 4) (by decide) (fun _ _ _ _ _ => vts_nil) (fun _ _ _ _ _ => (v_ct call_strB c_str rfl B.n_str rfl (va_cons (v_var 4 rfl (.inl rfl)) va_nil)))) va_nil))) (blkOk_by (by show blkC N__law_text (defScope st__law_text) _ _ = true; decide +kernel)) (fun _ _ _ _ _ => (pg_name (i := 4) sc__law_text.nd rfl (.inl rfl))) (tg_name 4) (by decide) (fun _ _ _ _ _ => vts_nil) (fun _ _ _ _ _ => (v_op op_add' (s_add (own := false)) (v_op op_add' (s_add (own := false)) (v_op op_add' (s_add (own := false)) (v_str [119, 101, 105, 103, 104, 116, 32] lit12) (v_var 4 rfl (.inl rfl))) (v_str [32] lit4)) (v_ct call_strB c_str rfl B.n_str rfl (va_cons (v_dget (u1 hr.units) (v_var 0 rfl (.inr (by first | exact .inl rfl | exact .inr rfl))) (v_var 4 rfl (.inl rfl)) fun _ _ => rfl) va_nil)))))
  (ss_cons (s_expr (v_append rfl (v_var 3 rfl (.inl rfl)) (va_cons (v_op op_add' (s_add (own := false)) (v_str [108, 111, 97, 100, 32] lit13) (v_if (vb_isN (v_var 1 rfl (.inl rfl))) (v_str [45] lit5) (v_ct call_strB c_str rfl B.n_str rfl (va_cons (v_var 1 rfl (.inl rfl)) va_nil)))) va_nil)))
  (ss_one (s_ret (v_join rfl (v_str [10] lit8) (va_cons (v_op op_add' (s_add (own := false)) (v_var 3 rfl (.inl rfl)) (v_lst (own := false) (va_cons (v_op op_add' (s_add (own := false)) (v_str [114, 117, 115, 104, 32] lit14) (v_if (vb_isN (v_var 2 rfl (.inl rfl))) (v_str [45] lit5) (v_ct call_strB c_str rfl B.n_str rfl (va_cons (v_var 2 rfl (.inl rfl)) va_nil)))) va_nil))) va_nil)))))))
theorem def__law_text (B : Bnds P mg G) (F : Fun G.K "_law_text" "_law_text" st__law_text f fd) (hm : mg "_law_text" = some (.ref f)) : DefE P w mg base G "_law_text" 1 3 [(PySem.Str.ofString "weights"), (PySem.Str.ofString "load"), (PySem.Str.ofString "rush")] d__law_text :=
  ⟨f, fd, hm, F.kp, ok__law_text B F, bnd0_of F (fun _ _ _ _ _ _ us hl => match us, hl with | [_, _, _], _ => rfl), fun h => absurd h (by decide)⟩
theorem ok__law_is_tag (B : Bnds P mg G) (F : Fun G.K "_law_is_tag" "_law_is_tag" st__law_is_tag f fd) : FnV P w G.K mg base 1 f fd [(PySem.Str.ofString "word")] (spV G 1 d__law_is_tag) :=
  fn_body (n := 1) F sc__law_is_tag rfl fun cdv A outer s H E hr hg => ((ss_one (s_ret (v_and (v_chain op_le' op_le' s_le s_le v_int (v_cb call_len' c_len rfl B.n_len rfl (va_cons (v_var 0 rfl (.inl rfl)) va_nil)) v_int) (v_and (v_cmp (op_ne' hr.units) s_ne (v_var 0 rfl (.inl rfl)) (v_str [115, 104, 111, 114, 101] lit1) (by with_unfolding_all rfl)) (v_one (v_cmp (op_eq' hr.units) s_eq (v_lc (own := false) rfl sc__law_is_tag.nd (vsl := [((PySem.Str.ofString "sign"), 1)]) (vi_str (v_var 0 rfl (.inl rfl))) (blkOk_by (by show blkC N__law_is_tag (defScope st__law_is_tag) _ _ = true; decide +kernel)) (fun _ _ _ _ _ => (pg_name (i := 1) sc__law_is_tag.nd rfl (.inl rfl))) (tg_name 1) (by decide) (fun _ _ _ _ _ => (vts_one (vb_cmp op_nin' (s_inG (neg := true)) (v_var 1 rfl (.inl rfl)) (v_str [97, 98, 99, 100, 101, 102, 103, 104, 105, 106, 107, 108, 109, 110, 111, 112, 113, 114, 115, 116, 117, 118, 119, 120, 121, 122] lit0) (by with_unfolding_all rfl)))) (fun _ _ _ _ _ => (v_var 1 rfl (.inl rfl)))) (v_lst (own := false) va_nil) (by with_unfolding_all rfl))))))))
theorem def__law_is_tag (B : Bnds P mg G) (F : Fun G.K "_law_is_tag" "_law_is_tag" st__law_is_tag f fd) (hm : mg "_law_is_tag" = some (.ref f)) : DefE P w mg base G "_law_is_tag" 1 1 [(PySem.Str.ofString "word")] d__law_is_tag :=
  ⟨f, fd, hm, F.kp, ok__law_is_tag B F, bnd0_of F (fun _ _ _ _ _ _ us hl => match us, hl with | [_], _ => rfl), fun h => bnd1_of F fun _ _ _ _ _ _ _ => rfl⟩
theorem ok__law_is_number (B : Bnds P mg G) (F : Fun G.K "_law_is_number" "_law_is_number" st__law_is_number f fd) : FnV P w G.K mg base 1 f fd [(PySem.Str.ofString "word"), (PySem.Str.ofString "most")] (spV G 2 d__law_is_number) :=
  fn_body (n := 2) F sc__law_is_number rfl fun cdv A outer s H E hr hg => ((ss_cons (s_if (PW.pt (wb_or (vb_cmp (op_eq' hr.units) s_eq (v_var 0 rfl (.inl rfl)) (v_str [] lit2) (by with_unfolding_all rfl)) (wb_or (vb_cmp op_gt' s_gt (v_cb call_len' c_len rfl B.n_len rfl (va_cons (v_var 0 rfl (.inl rfl)) va_nil)) v_int (by with_unfolding_all rfl)) (wb_or1 (vb_cmp (op_ne' hr.units) s_ne (v_lc (own := false) rfl sc__law_is_number.nd (vsl := [((PySem.Str.ofString "sign"), 2)]) (vi_str (v_var 0 rfl (.inl rfl))) (blkOk_by (by show blkC N__law_is_number (defScope st__law_is_number) _ _ = true; decide +kernel)) (fun _ _ _ _ _ => (pg_name (i := 2) sc__law_is_number.nd rfl (.inl rfl))) (tg_name 2) (by decide) (fun _ _ _ _ _ => (vts_one (vb_cmp op_nin' (s_inG (neg := true)) (v_var 2 rfl (.inl rfl)) (v_str [48, 49, 50, 51, 52, 53, 54, 55, 56, 57] lit3) (by with_unfolding_all rfl)))) (fun _ _ _ _ _ => (v_var 2 rfl (.inl rfl)))) (v_lst (own := false) va_nil) (by with_unfolding_all rfl))))))
  (ss_one (s_ret v_bl))
  ss_nil)
  (ss_one (s_ret (v_and (v_or (v_cmp (op_eq' hr.units) s_eq (v_var 0 rfl (.inl rfl)) (v_str [48] lit15) (by with_unfolding_all rfl)) (v_one (v_cmp (op_ne' hr.units) s_ne (v_ix rfl (v_var 0 rfl (.inl rfl)) v_int fun _ _ => rfl) (v_str [48] lit15) (by with_unfolding_all rfl)))) (v_one (v_cmp op_le' s_le (v_ct call_intB c_intT rfl B.n_int rfl (va_cons (v_var 0 rfl (.inl rfl)) va_nil)) (v_var 1 rfl (.inl rfl)) (by with_unfolding_all rfl))))))))
theorem def__law_is_number (B : Bnds P mg G) (F : Fun G.K "_law_is_number" "_law_is_number" st__law_is_number f fd) (hm : mg "_law_is_number" = some (.ref f)) : DefE P w mg base G "_law_is_number" 1 2 [(PySem.Str.ofString "word"), (PySem.Str.ofString "most")] d__law_is_number :=
  ⟨f, fd, hm, F.kp, ok__law_is_number B F, bnd0_of F (fun _ _ _ _ _ _ us hl => match us, hl with | [_, _], _ => rfl), fun h => absurd h (by decide)⟩
theorem ok__law_row_wrong (B : Bnds P mg G) (F : Fun G.K "_law_row_wrong" "_law_row_wrong" st__law_row_wrong f fd) (D__law_is_tag : DefE P w mg base G "_law_is_tag" 1 1 [(PySem.Str.ofString "word")] d__law_is_tag) (D__law_is_number : DefE P w mg base G "_law_is_number" 1 2 [(PySem.Str.ofString "word"), (PySem.Str.ofString "most")] d__law_is_number) : FnV P w G.K mg base 2 f fd [(PySem.Str.ofString "words"), (PySem.Str.ofString "last"), (PySem.Str.ofString "many")] (spV G 3 d__law_row_wrong) :=
  fn_body (n := 3) F sc__law_row_wrong rfl fun cdv A outer s H E hr hg => ((ss_cons (s_if (PW.pt (wb_and (vb_cmp (op_eq' hr.units) s_eq (v_ix rfl (v_var 0 rfl (.inl rfl)) v_int fun _ _ => rfl) (v_str [119, 101, 105, 103, 104, 116] lit9) (by with_unfolding_all rfl)) (wb_and1 (vb_cmp op_lt' s_lt (v_var 2 rfl (.inl rfl)) v_int (by with_unfolding_all rfl)))))
  (ss_cons (s_if (PW.pt (wb_or (vb_cmp op_lt' s_lt (v_cb call_len' c_len rfl B.n_len rfl (va_cons (v_var 0 rfl (.inl rfl)) va_nil)) v_int (by with_unfolding_all rfl)) (wb_or (vb_not (vb_val (v_callE D__law_is_tag rfl hr (by decide) hg (takes_of rfl rfl rfl rfl) (va_cons (v_ix rfl (v_var 0 rfl (.inl rfl)) v_int fun _ _ => rfl) va_nil) rfl))) (wb_or1 (vb_cmp op_le' s_le (v_ix rfl (v_var 0 rfl (.inl rfl)) v_int fun _ _ => rfl) (v_var 1 rfl (.inl rfl)) (by with_unfolding_all rfl))))))
  (ss_one (s_ret v_int))
  ss_nil)
  (ss_cons (s_if (PW.pt (wb_or (vb_cmp op_lt' s_lt (v_cb call_len' c_len rfl B.n_len rfl (va_cons (v_var 0 rfl (.inl rfl)) va_nil)) v_int (by with_unfolding_all rfl)) (wb_or1 (vb_not (vb_val (v_callE D__law_is_number rfl hr (by decide) hg (takes_of rfl rfl rfl rfl) (va_cons (v_ix rfl (v_var 0 rfl (.inl rfl)) v_int fun _ _ => rfl) (va_cons (v_op op_pow s_pow v_int v_int) va_nil)) rfl))))))
  (ss_one (s_ret v_int))
  ss_nil)
  (ss_one (s_ret (v_if (vb_cmp op_gt' s_gt (v_cb call_len' c_len rfl B.n_len rfl (va_cons (v_var 0 rfl (.inl rfl)) va_nil)) v_int (by with_unfolding_all rfl)) v_int (v_neg v_int))))))
  ss_nil)
  (ss_one (s_ret (v_neg v_int)))))
theorem def__law_row_wrong (B : Bnds P mg G) (F : Fun G.K "_law_row_wrong" "_law_row_wrong" st__law_row_wrong f fd) (hm : mg "_law_row_wrong" = some (.ref f)) (D__law_is_tag : DefE P w mg base G "_law_is_tag" 1 1 [(PySem.Str.ofString "word")] d__law_is_tag) (D__law_is_number : DefE P w mg base G "_law_is_number" 1 2 [(PySem.Str.ofString "word"), (PySem.Str.ofString "most")] d__law_is_number) : DefE P w mg base G "_law_row_wrong" 2 3 [(PySem.Str.ofString "words"), (PySem.Str.ofString "last"), (PySem.Str.ofString "many")] d__law_row_wrong :=
  ⟨f, fd, hm, F.kp, ok__law_row_wrong B F D__law_is_tag D__law_is_number, bnd0_of F (fun _ _ _ _ _ _ us hl => match us, hl with | [_, _, _], _ => rfl), fun h => absurd h (by decide)⟩
theorem ok__law_cap_wrong (B : Bnds P mg G) (F : Fun G.K "_law_cap_wrong" "_law_cap_wrong" st__law_cap_wrong f fd) (D__law_is_number : DefE P w mg base G "_law_is_number" 1 2 [(PySem.Str.ofString "word"), (PySem.Str.ofString "most")] d__law_is_number) : FnV P w G.K mg base 2 f fd [(PySem.Str.ofString "rows"), (PySem.Str.ofString "at"), (PySem.Str.ofString "title")] (spV G 3 d__law_cap_wrong) :=
  fn_body (n := 3) F sc__law_cap_wrong rfl fun cdv A outer s H E hr hg => ((ss_cons (s_if (vb_cmp op_ge' s_ge (v_var 1 rfl (.inl rfl)) (v_cb call_len' c_len rfl B.n_len rfl (va_cons (v_var 0 rfl (.inl rfl)) va_nil)) (by with_unfolding_all rfl))
  (ss_one (s_ret (v_tup (va_cons (v_cb call_len' c_len rfl B.n_len rfl (va_cons (v_var 0 rfl (.inl rfl)) va_nil)) (va_cons v_int va_nil)))))
  ss_nil)
  (ss_cons (s_set 3 sc__law_cap_wrong.nd rfl (.inl rfl) (v_split rfl (v_ix rfl (v_var 0 rfl (.inl rfl)) (v_var 1 rfl (.inl rfl)) fun _ _ => rfl) (va_cons (v_str [32] lit4) va_nil)))
  (ss_cons (s_if (vb_cmp (op_ne' hr.units) s_ne (v_ix rfl (v_var 3 rfl (.inl rfl)) v_int fun _ _ => rfl) (v_var 2 rfl (.inl rfl)) (by with_unfolding_all rfl))
  (ss_one (s_ret (v_tup (va_cons (v_var 1 rfl (.inl rfl)) (va_cons v_int va_nil)))))
  ss_nil)
  (ss_cons (s_if (PW.pt (wb_or (vb_cmp op_lt' s_lt (v_cb call_len' c_len rfl B.n_len rfl (va_cons (v_var 3 rfl (.inl rfl)) va_nil)) v_int (by with_unfolding_all rfl)) (wb_or1 (PW.pt (wb_and (vb_cmp (op_ne' hr.units) s_ne (v_ix rfl (v_var 3 rfl (.inl rfl)) v_int fun _ _ => rfl) (v_str [45] lit5) (by with_unfolding_all rfl)) (wb_and1 (vb_not (vb_val (v_callE D__law_is_number rfl hr (by decide) hg (takes_of rfl rfl rfl rfl) (va_cons (v_ix rfl (v_var 3 rfl (.inl rfl)) v_int fun _ _ => rfl) (va_cons (v_op op_pow s_pow v_int v_int) va_nil)) rfl)))))))))
  (ss_one (s_ret (v_tup (va_cons (v_var 1 rfl (.inl rfl)) (va_cons v_int va_nil)))))
  ss_nil)
  (ss_one (s_ret (v_if (vb_cmp op_gt' s_gt (v_cb call_len' c_len rfl B.n_len rfl (va_cons (v_var 3 rfl (.inl rfl)) va_nil)) v_int (by with_unfolding_all rfl)) (v_tup (va_cons (v_var 1 rfl (.inl rfl)) (va_cons v_int va_nil))) v_non))))))))
theorem def__law_cap_wrong (B : Bnds P mg G) (F : Fun G.K "_law_cap_wrong" "_law_cap_wrong" st__law_cap_wrong f fd) (hm : mg "_law_cap_wrong" = some (.ref f)) (D__law_is_number : DefE P w mg base G "_law_is_number" 1 2 [(PySem.Str.ofString "word"), (PySem.Str.ofString "most")] d__law_is_number) : DefE P w mg base G "_law_cap_wrong" 2 3 [(PySem.Str.ofString "rows"), (PySem.Str.ofString "at"), (PySem.Str.ofString "title")] d__law_cap_wrong :=
  ⟨f, fd, hm, F.kp, ok__law_cap_wrong B F D__law_is_number, bnd0_of F (fun _ _ _ _ _ _ us hl => match us, hl with | [_, _, _], _ => rfl), fun h => absurd h (by decide)⟩
theorem ok__law_wrong (B : Bnds P mg G) (F : Fun G.K "_law_wrong" "_law_wrong" st__law_wrong f fd) (D__law_row_wrong : DefE P w mg base G "_law_row_wrong" 2 3 [(PySem.Str.ofString "words"), (PySem.Str.ofString "last"), (PySem.Str.ofString "many")] d__law_row_wrong) (D__law_cap_wrong : DefE P w mg base G "_law_cap_wrong" 2 3 [(PySem.Str.ofString "rows"), (PySem.Str.ofString "at"), (PySem.Str.ofString "title")] d__law_cap_wrong) : FnV P w G.K mg base 3 f fd [(PySem.Str.ofString "line")] (spV G 1 d__law_wrong) :=
  fn_body (n := 1) F sc__law_wrong rfl fun cdv A outer s H E hr hg => ((ss_cons (s_par3 (i := 2) (j := 3) (l := 4) rfl sc__law_wrong.nd rfl rfl rfl (by decide) (by decide) (by decide) rfl rfl rfl (va_cons (v_split rfl (v_var 0 rfl (.inl rfl)) (va_cons (v_str [10] lit8) va_nil)) (va_cons v_int (va_cons (v_str [] lit2) va_nil))) rfl)
  (ss_cons (s_while (fun _ _ => 20) (passes_of rfl) (vb_cmp op_lt' s_lt (v_var 3 rfl (.inl rfl)) (v_cb call_len' c_len rfl B.n_len rfl (va_cons (v_var 2 rfl (.inl rfl)) va_nil)) (by with_unfolding_all rfl))
  (ss_cons (s_set 5 sc__law_wrong.nd rfl (.inl rfl) (v_callE D__law_row_wrong rfl hr (by decide) hg (takes_of rfl rfl rfl rfl) (va_cons (v_split rfl (v_ix rfl (v_var 2 rfl (.inl rfl)) (v_var 3 rfl (.inl rfl)) fun _ _ => rfl) (va_cons (v_str [32] lit4) va_nil)) (va_cons (v_var 4 rfl (.inl rfl)) (va_cons (v_var 3 rfl (.inl rfl)) va_nil))) rfl))
  (ss_cons (s_if (vb_cmp (op_eq' hr.units) s_eq (v_var 5 rfl (.inl rfl)) (v_neg v_int) (by with_unfolding_all rfl))
  (ss_one s_break)
  ss_nil)
  (ss_cons (s_if (vb_cmp op_ge' s_ge (v_var 5 rfl (.inl rfl)) v_int (by with_unfolding_all rfl))
  (ss_one (s_ret (v_tup (va_cons (v_var 3 rfl (.inl rfl)) (va_cons (v_var 5 rfl (.inl rfl)) va_nil)))))
  ss_nil)
  (ss_cons (s_set 4 sc__law_wrong.nd rfl (.inl rfl) (v_ix rfl (v_split rfl (v_ix rfl (v_var 2 rfl (.inl rfl)) (v_var 3 rfl (.inl rfl)) fun _ _ => rfl) (va_cons (v_str [32] lit4) va_nil)) v_int fun _ _ => rfl))
  (ss_one (s_set 3 sc__law_wrong.nd rfl (.inl rfl) (v_op op_add' (s_add (own := false)) (v_var 3 rfl (.inl rfl)) v_int))))))))
  (ss_cons (s_for (passes_of rfl) rfl (vi_list rfl (v_lst (own := false) (va_cons (v_str [108, 111, 97, 100] lit10) (va_cons (v_str [114, 117, 115, 104] lit11) va_nil)))) (pg_name (i := 1) sc__law_wrong.nd rfl (.inl rfl)) (tg_name 1)
  (ss_cons (s_set 5 sc__law_wrong.nd rfl (.inl rfl) (v_callE D__law_cap_wrong rfl hr (by decide) hg (takes_of rfl rfl rfl rfl) (va_cons (v_var 2 rfl (.inl rfl)) (va_cons (v_var 3 rfl (.inl rfl)) (va_cons (v_var 1 rfl (.inl rfl)) va_nil))) rfl))
  (ss_cons (s_if (vb_notN (v_var 5 rfl (.inl rfl)))
  (ss_one (s_ret (v_var 5 rfl (.inl rfl))))
  ss_nil)
  (ss_one (s_set 3 sc__law_wrong.nd rfl (.inl rfl) (v_op op_add' (s_add (own := false)) (v_var 3 rfl (.inl rfl)) v_int))))))
  (ss_one (s_ret (v_if (vb_cmp op_gt' s_gt (v_cb call_len' c_len rfl B.n_len rfl (va_cons (v_var 2 rfl (.inl rfl)) va_nil)) (v_var 3 rfl (.inl rfl)) (by with_unfolding_all rfl)) (v_tup (va_cons (v_var 3 rfl (.inl rfl)) (va_cons v_int va_nil))) v_non)))))))
theorem def__law_wrong (B : Bnds P mg G) (F : Fun G.K "_law_wrong" "_law_wrong" st__law_wrong f fd) (hm : mg "_law_wrong" = some (.ref f)) (D__law_row_wrong : DefE P w mg base G "_law_row_wrong" 2 3 [(PySem.Str.ofString "words"), (PySem.Str.ofString "last"), (PySem.Str.ofString "many")] d__law_row_wrong) (D__law_cap_wrong : DefE P w mg base G "_law_cap_wrong" 2 3 [(PySem.Str.ofString "rows"), (PySem.Str.ofString "at"), (PySem.Str.ofString "title")] d__law_cap_wrong) : DefE P w mg base G "_law_wrong" 3 1 [(PySem.Str.ofString "line")] d__law_wrong :=
  ⟨f, fd, hm, F.kp, ok__law_wrong B F D__law_row_wrong D__law_cap_wrong, bnd0_of F (fun _ _ _ _ _ _ us hl => match us, hl with | [_], _ => rfl), fun h => bnd1_of F fun _ _ _ _ _ _ _ => rfl⟩
theorem ok__law_right (B : Bnds P mg G) (F : Fun G.K "_law_right" "_law_right" st__law_right f fd) (D_Ledger_read : CmD P w mg base G 1 6 (PySem.Str.ofString "read") (PySem.Str.ofString "text") d_Ledger_read) (D_Ledger___eq__ : EqD P w mg base G 1 1 d_Ledger___eq__) (D_Ledger___str__ : StrD P w mg base G 1 1 d_Ledger___str__) (D__law_wrong : DefE P w mg base G "_law_wrong" 3 1 [(PySem.Str.ofString "line")] d__law_wrong) : FnV P w G.K mg base 7 f fd [(PySem.Str.ofString "line")] (spV G 1 d__law_right) :=
  fn_body (n := 1) F sc__law_right rfl fun cdv A outer s H E hr hg => ((ss_cons (s_par3 (i := 2) (j := 3) (l := 4) rfl sc__law_right.nd rfl rfl rfl (by decide) (by decide) (by decide) rfl rfl rfl (va_cons (v_callE D__law_wrong rfl hr (by decide) hg (takes_of rfl rfl rfl rfl) (va_cons (v_var 0 rfl (.inl rfl)) va_nil) rfl) (va_cons v_non (va_cons v_non va_nil))) rfl)
  (ss_cons (s_tryK (c := 0) (i := 1) (j := 3) rfl rfl rfl sc__law_right.nd rfl rfl (by decide) rfl rfl (.inl rfl) ⟨rfl, by decide, .inl B.g_DuskError⟩ (takes_of rfl rfl rfl rfl) B.te_DuskError
  (fun W1 pn1 xe1 t1 po1 => (ss_one (s_set 4 sc__law_right.nd rfl (.inl rfl) (v_cmD D_Ledger_read rfl hr (by decide) hg t1 B.k_Ledger rfl (va_cons (v_var 0 rfl (.inl rfl)) va_nil))))))
  (ss_cons (s_if (vb_isN (v_var 2 rfl (.inl rfl)))
  (ss_one (s_ret (v_and (v_isN (v_var 3 rfl (.inl rfl))) (v_and (v_isC rfl B.k_Ledger.ins rfl B.n_isinstance rfl B.k_Ledger.g (v_var 4 rfl (.inl rfl))) (v_and (v_cmp (op_eq' hr.units) s_eq (v_strD D_Ledger___str__ rfl hr (by decide) hg B.n_str rfl (v_var 4 rfl (.inl rfl))) (v_var 0 rfl (.inl rfl)) (by with_unfolding_all rfl)) (v_one (v_eqD D_Ledger___eq__ rfl hr (by decide) hg (v_cmKD D_Ledger_read rfl hr (by decide) hg (takes_of rfl rfl rfl rfl) B.k_Ledger rfl (v_var 0 rfl (.inl rfl))) (v_var 4 rfl (.inl rfl)))))))))
  ss_nil)
  (ss_one (s_ret (v_and (v_isX rfl B.x_InvalidText rfl B.n_isinstance rfl B.e_InvalidText.gC (v_var 3 rfl (.inl rfl))) (v_one (v_cmp (op_eq' hr.units) s_eq (v_cb (call_repr hg hr.units) c_repr rfl B.n_repr rfl (va_cons (v_tup (va_cons (v_exF rfl B.x_InvalidText.xf B.nf_row lit16 (v_var 3 rfl (.inl rfl))) (va_cons (v_exF rfl B.x_InvalidText.xf B.nf_word lit17 (v_var 3 rfl (.inl rfl))) va_nil))) va_nil)) (v_cb (call_repr hg hr.units) c_repr rfl B.n_repr rfl (va_cons (v_var 2 rfl (.inl rfl)) va_nil)) (by with_unfolding_all rfl))))))))))
theorem def__law_right (B : Bnds P mg G) (F : Fun G.K "_law_right" "_law_right" st__law_right f fd) (hm : mg "_law_right" = some (.ref f)) (D_Ledger_read : CmD P w mg base G 1 6 (PySem.Str.ofString "read") (PySem.Str.ofString "text") d_Ledger_read) (D_Ledger___eq__ : EqD P w mg base G 1 1 d_Ledger___eq__) (D_Ledger___str__ : StrD P w mg base G 1 1 d_Ledger___str__) (D__law_wrong : DefE P w mg base G "_law_wrong" 3 1 [(PySem.Str.ofString "line")] d__law_wrong) : DefE P w mg base G "_law_right" 7 1 [(PySem.Str.ofString "line")] d__law_right :=
  ⟨f, fd, hm, F.kp, ok__law_right B F D_Ledger_read D_Ledger___eq__ D_Ledger___str__ D__law_wrong, bnd0_of F (fun _ _ _ _ _ _ us hl => match us, hl with | [_], _ => rfl), fun h => bnd1_of F fun _ _ _ _ _ _ _ => rfl⟩
theorem ok__law_bent (B : Bnds P mg G) (F : Fun G.K "_law_bent" "_law_bent" st__law_bent f fd) (D__law_draw : DefE P w mg base G "_law_draw" 1 2 [(PySem.Str.ofString "pen"), (PySem.Str.ofString "many")] d__law_draw) (D__law_pick : DefE P w mg base G "_law_pick" 2 2 [(PySem.Str.ofString "pen"), (PySem.Str.ofString "some")] d__law_pick) : FnV P w G.K mg base 3 f fd [(PySem.Str.ofString "pen"), (PySem.Str.ofString "line")] (spV G 2 d__law_bent) :=
  fn_body (n := 2) F sc__law_bent rfl fun cdv A outer s H E hr hg => ((ss_cons (s_par (i := 5) (j := 6) rfl sc__law_bent.nd rfl rfl (by decide) rfl rfl (va_cons (v_splitO rfl (v_var 1 rfl (.inl rfl)) (va_cons (v_str [10] lit8) va_nil)) (va_cons (v_callE D__law_draw rfl hr (by decide) hg (takes_of rfl rfl rfl rfl) (va_cons (v_var 0 rfl (.inl rfl)) (va_cons v_int va_nil)) rfl) va_nil)) rfl)
  (ss_cons (s_par (i := 7) (j := 8) rfl sc__law_bent.nd rfl rfl (by decide) rfl rfl (va_cons (v_callE D__law_draw rfl hr (by decide) hg (takes_of rfl rfl rfl rfl) (va_cons (v_var 0 rfl (.inl rfl)) (va_cons (v_cb call_len' c_len rfl B.n_len rfl (va_cons (v_var 5 rfl (.inl rfl)) va_nil)) va_nil)) rfl) (va_cons (v_callE D__law_draw rfl hr (by decide) hg (takes_of rfl rfl rfl rfl) (va_cons (v_var 0 rfl (.inl rfl)) (va_cons (v_cb call_len' c_len rfl B.n_len rfl (va_cons (v_var 5 rfl (.inl rfl)) va_nil)) va_nil)) rfl) va_nil)) rfl)
  (ss_cons (s_if (vb_cmp (op_eq' hr.units) s_eq (v_var 6 rfl (.inl rfl)) v_int (by with_unfolding_all rfl))
  (ss_one (s_ret (v_join rfl (v_str [10] lit8) (va_cons (v_op op_add' (s_add (own := false)) (v_sl (own := false) rfl (v_var 5 rfl (.inl rfl)) vo_none (vo_some (v_var 7 rfl (.inl rfl)))) (v_sl (own := false) rfl (v_var 5 rfl (.inl rfl)) (vo_some (v_op op_add' (s_add (own := false)) (v_var 7 rfl (.inl rfl)) v_int)) vo_none)) va_nil))))
  ss_nil)
  (ss_cons (s_if (vb_cmp (op_eq' hr.units) s_eq (v_var 6 rfl (.inl rfl)) v_int (by with_unfolding_all rfl))
  (ss_one (s_ret (v_join rfl (v_str [10] lit8) (va_cons (v_op op_add' (s_add (own := false)) (v_sl (own := false) rfl (v_var 5 rfl (.inl rfl)) vo_none (vo_some (v_op op_add' (s_add (own := false)) (v_var 7 rfl (.inl rfl)) v_int))) (v_sl (own := false) rfl (v_var 5 rfl (.inl rfl)) (vo_some (v_var 7 rfl (.inl rfl))) vo_none)) va_nil))))
  ss_nil)
  (ss_cons (s_if (vb_cmp (op_eq' hr.units) s_eq (v_var 6 rfl (.inl rfl)) v_int (by with_unfolding_all rfl))
  (ss_cons (s_set2 rfl rfl (va_cons (v_ix rfl (v_var 5 rfl (.inl rfl)) (v_var 8 rfl (.inl rfl)) fun _ _ => rfl) (va_cons (v_ix rfl (v_var 5 rfl (.inl rfl)) (v_var 7 rfl (.inl rfl)) fun _ _ => rfl) va_nil)) (v_var 5 rfl (.inl rfl)) (v_var 7 rfl (.inl rfl)) (v_var 5 rfl (.inl rfl)) (v_var 8 rfl (.inl rfl)))
  (ss_one (s_ret (v_join rfl (v_str [10] lit8) (va_cons (v_var 5 rfl (.inl rfl)) va_nil)))))
  ss_nil)
  (ss_cons (s_if (vb_cmp (op_eq' hr.units) s_eq (v_var 6 rfl (.inl rfl)) v_int (by with_unfolding_all rfl))
  (ss_cons (s_set 4 sc__law_bent.nd rfl (.inl rfl) (v_callE D__law_pick rfl hr (by decide) hg (takes_of rfl rfl rfl rfl) (va_cons (v_var 0 rfl (.inl rfl)) (va_cons (v_lst (own := false) (va_cons (v_str [] lit2) (va_cons (v_str [119, 101, 105, 103, 104, 116, 32, 122, 122, 32, 49] lit18) (va_cons (v_str [119, 101, 105, 103, 104, 116, 32, 98] lit19) (va_cons (v_str [108, 111, 97, 100, 32, 45] lit20) (va_cons (v_str [114, 117, 115, 104, 32, 48] lit21) (va_cons (v_str [119, 101, 105, 103, 104, 116, 32, 115, 104, 111, 114, 101, 32, 49] lit22) (va_cons (v_str [119, 101, 105, 103, 104, 116, 32, 97, 32, 48, 49] lit23) (va_cons (v_str [108, 111, 97, 100] lit10) (va_cons (v_str [119, 101, 105, 103, 104, 116, 115, 32, 97, 32, 49] lit24) (va_cons (v_str [119, 101, 105, 103, 104, 116, 32, 122, 122, 122, 32, 53, 32] lit25) va_nil))))))))))) va_nil)) rfl))
  (ss_one (s_ret (v_join rfl (v_str [10] lit8) (va_cons (v_op op_add' (s_add (own := false)) (v_op op_add' (s_add (own := false)) (v_sl (own := false) rfl (v_var 5 rfl (.inl rfl)) vo_none (vo_some (v_var 7 rfl (.inl rfl)))) (v_lst (own := false) (va_cons (v_var 4 rfl (.inl rfl)) va_nil))) (v_sl (own := false) rfl (v_var 5 rfl (.inl rfl)) (vo_some (v_var 7 rfl (.inl rfl))) vo_none)) va_nil)))))
  ss_nil)
  (ss_cons (s_set 2 sc__law_bent.nd rfl (.inl rfl) (v_split rfl (v_ix rfl (v_var 5 rfl (.inl rfl)) (v_var 7 rfl (.inl rfl)) fun _ _ => rfl) (va_cons (v_str [32] lit4) va_nil)))
  (ss_cons (s_set 3 sc__law_bent.nd rfl (.inl rfl) (v_callE D__law_draw rfl hr (by decide) hg (takes_of rfl rfl rfl rfl) (va_cons (v_var 0 rfl (.inl rfl)) (va_cons (v_op op_add' (s_add (own := false)) (v_cb call_len' c_len rfl B.n_len rfl (va_cons (v_var 2 rfl (.inl rfl)) va_nil)) v_int) va_nil)) rfl))
  (ss_cons (s_set 4 sc__law_bent.nd rfl (.inl rfl) (v_callE D__law_pick rfl hr (by decide) hg (takes_of rfl rfl rfl rfl) (va_cons (v_var 0 rfl (.inl rfl)) (va_cons (v_lst (own := false) (va_cons (v_str [] lit2) (va_cons (v_str [48] lit15) (va_cons (v_str [48, 48] lit26) (va_cons (v_str [45] lit5) (va_cons (v_str [45, 49] lit27) (va_cons (v_str [97] lit28) (va_cons (v_str [65] lit29) (va_cons (v_str [119, 101, 105, 103, 104, 116] lit9) (va_cons (v_str [108, 111, 97, 100] lit10) (va_cons (v_str [114, 117, 115, 104] lit11) (va_cons (v_str [49, 48, 48, 48, 48, 48, 48, 48, 48, 48, 48] lit30) (va_cons (v_str [49, 48, 48, 48, 48, 48, 48, 48, 48, 48, 49] lit31) (va_cons (v_str [49, 48, 48, 48, 48, 48, 48, 48, 48, 48] lit32) (va_cons (v_str [49, 48, 48, 48, 48, 48, 48, 48, 48, 49] lit33) (va_cons (v_str [115, 104, 111, 114, 101] lit1) (va_cons (v_op op_mulS s_repT (v_str [57] lit34) v_int) va_nil))))))))))))))))) va_nil)) rfl))
  (ss_cons (s_if (vb_cmp (op_eq' hr.units) s_eq (v_var 6 rfl (.inl rfl)) v_int (by with_unfolding_all rfl))
  (ss_one (s_set 2 sc__law_bent.nd rfl (.inl rfl) (v_op op_add' (s_add (own := false)) (v_sl (own := false) rfl (v_var 2 rfl (.inl rfl)) vo_none (vo_some (v_var 3 rfl (.inl rfl)))) (v_sl (own := false) rfl (v_var 2 rfl (.inl rfl)) (vo_some (v_op op_add' (s_add (own := false)) (v_var 3 rfl (.inl rfl)) v_int)) vo_none))))
  (ss_one (s_set 2 sc__law_bent.nd rfl (.inl rfl) (v_op op_add' (s_add (own := false)) (v_op op_add' (s_add (own := false)) (v_sl (own := false) rfl (v_var 2 rfl (.inl rfl)) vo_none (vo_some (v_var 3 rfl (.inl rfl)))) (v_lst (own := false) (va_cons (v_var 4 rfl (.inl rfl)) va_nil))) (v_sl (own := false) rfl (v_var 2 rfl (.inl rfl)) (vo_some (v_op op_add' (s_add (own := false)) (v_var 3 rfl (.inl rfl)) (v_ct call_int1 c_int rfl B.n_int rfl (va_cons (v_cmp op_lt' s_lt (v_var 6 rfl (.inl rfl)) v_int (by with_unfolding_all rfl)) va_nil)))) vo_none)))))
  (ss_cons (s_setI (v_join rfl (v_str [32] lit4) (va_cons (v_var 2 rfl (.inl rfl)) va_nil)) (v_var 5 rfl (.inl rfl)) (v_var 7 rfl (.inl rfl)))
  (ss_one (s_ret (v_join rfl (v_str [10] lit8) (va_cons (v_var 5 rfl (.inl rfl)) va_nil))))))))))))))))
theorem def__law_bent (B : Bnds P mg G) (F : Fun G.K "_law_bent" "_law_bent" st__law_bent f fd) (hm : mg "_law_bent" = some (.ref f)) (D__law_draw : DefE P w mg base G "_law_draw" 1 2 [(PySem.Str.ofString "pen"), (PySem.Str.ofString "many")] d__law_draw) (D__law_pick : DefE P w mg base G "_law_pick" 2 2 [(PySem.Str.ofString "pen"), (PySem.Str.ofString "some")] d__law_pick) : DefE P w mg base G "_law_bent" 3 2 [(PySem.Str.ofString "pen"), (PySem.Str.ofString "line")] d__law_bent :=
  ⟨f, fd, hm, F.kp, ok__law_bent B F D__law_draw D__law_pick, bnd0_of F (fun _ _ _ _ _ _ us hl => match us, hl with | [_, _], _ => rfl), fun h => absurd h (by decide)⟩
theorem ok__law_weights (B : Bnds P mg G) (F : Fun G.K "_law_weights" "_law_weights" st__law_weights f fd) (D__law_draw : DefE P w mg base G "_law_draw" 1 2 [(PySem.Str.ofString "pen"), (PySem.Str.ofString "many")] d__law_draw) (D__law_pick : DefE P w mg base G "_law_pick" 2 2 [(PySem.Str.ofString "pen"), (PySem.Str.ofString "some")] d__law_pick) : FnV P w G.K mg base 3 f fd [(PySem.Str.ofString "pen")] (spV G 1 d__law_weights) :=
  fn_body (n := 1) F sc__law_weights rfl fun cdv A outer s H E hr hg => ((ss_cons (s_par (i := 2) (j := 3) rfl sc__law_weights.nd rfl rfl (by decide) rfl rfl (va_cons (v_lst (own := true) (va_cons (v_str [97] lit28) (va_cons (v_str [98] lit35) (va_cons (v_str [115, 104, 111, 114, 101, 115] lit36) (va_cons (v_str [122, 122, 122, 122, 122, 122, 122, 122] lit37) (va_cons (v_str [109] lit38) (va_cons (v_str [107] lit39) (va_cons (v_str [97, 98] lit40) (va_cons (v_str [97, 97] lit41) va_nil))))))))) (va_cons v_dN va_nil)) rfl)
  (ss_cons (s_for (passes_of rfl) rfl (vi_range1 rfl B.n_range (va_cons (v_callE D__law_draw rfl hr (by decide) hg (takes_of rfl rfl rfl rfl) (va_cons (v_var 0 rfl (.inl rfl)) (va_cons v_int va_nil)) rfl) va_nil)) (pg_name (i := 1) sc__law_weights.nd rfl (.inl rfl)) (tg_name 1)
  (ss_cons (s_set 4 sc__law_weights.nd rfl (.inl rfl) (v_popA rfl (v_var 2 rfl (.inl rfl)) (v_callE D__law_draw rfl hr (by decide) hg (takes_of rfl rfl rfl rfl) (va_cons (v_var 0 rfl (.inl rfl)) (va_cons (v_cb call_len' c_len rfl B.n_len rfl (va_cons (v_var 2 rfl (.inl rfl)) va_nil)) va_nil)) rfl)))
  (ss_one (s_putK (u1 hr.units) (v_callE D__law_pick rfl hr (by decide) hg (takes_of rfl rfl rfl rfl) (va_cons (v_var 0 rfl (.inl rfl)) (va_cons (v_lst (own := false) (va_cons v_int (va_cons v_int (va_cons v_int (va_cons (v_op op_pow s_pow v_int v_int) (va_cons (v_callE D__law_draw rfl hr (by decide) hg (takes_of rfl rfl rfl rfl) (va_cons (v_var 0 rfl (.inl rfl)) (va_cons v_int va_nil)) rfl) va_nil)))))) va_nil)) rfl) (v_var 3 rfl (.inl rfl)) (v_var 4 rfl (.inl rfl))))))
  (ss_one (s_ret (v_lk (v_var 3 rfl (.inl rfl))))))))
theorem def__law_weights (B : Bnds P mg G) (F : Fun G.K "_law_weights" "_law_weights" st__law_weights f fd) (hm : mg "_law_weights" = some (.ref f)) (D__law_draw : DefE P w mg base G "_law_draw" 1 2 [(PySem.Str.ofString "pen"), (PySem.Str.ofString "many")] d__law_draw) (D__law_pick : DefE P w mg base G "_law_pick" 2 2 [(PySem.Str.ofString "pen"), (PySem.Str.ofString "some")] d__law_pick) : DefE P w mg base G "_law_weights" 3 1 [(PySem.Str.ofString "pen")] d__law_weights :=
  ⟨f, fd, hm, F.kp, ok__law_weights B F D__law_draw D__law_pick, bnd0_of F (fun _ _ _ _ _ _ us hl => match us, hl with | [_], _ => rfl), fun h => bnd1_of F fun _ _ _ _ _ _ _ => rfl⟩
theorem ok_law (B : Bnds P mg G) (F : Fun G.K "law" "law" st_law f fd) (D_Ledger___init__ : InitD P w mg base G 1 4 4 1 [(PySem.Str.ofString "self"), (PySem.Str.ofString "weights"), (PySem.Str.ofString "load"), (PySem.Str.ofString "rush")] [(PySem.Str.ofString "load"), (PySem.Str.ofString "rush")] [0, 1, 2, 3] d_Ledger___init__) (D_Ledger_read : CmD P w mg base G 1 6 (PySem.Str.ofString "read") (PySem.Str.ofString "text") d_Ledger_read) (D_Ledger___eq__ : EqD P w mg base G 1 1 d_Ledger___eq__) (D_Ledger___str__ : StrD P w mg base G 1 1 d_Ledger___str__) (D__law_pen : DefE P w mg base G "_law_pen" 1 1 [(PySem.Str.ofString "script")] d__law_pen) (D__law_draw : DefE P w mg base G "_law_draw" 1 2 [(PySem.Str.ofString "pen"), (PySem.Str.ofString "many")] d__law_draw) (D__law_pick : DefE P w mg base G "_law_pick" 2 2 [(PySem.Str.ofString "pen"), (PySem.Str.ofString "some")] d__law_pick) (D__law_text : DefE P w mg base G "_law_text" 1 3 [(PySem.Str.ofString "weights"), (PySem.Str.ofString "load"), (PySem.Str.ofString "rush")] d__law_text) (D__law_wrong : DefE P w mg base G "_law_wrong" 3 1 [(PySem.Str.ofString "line")] d__law_wrong) (D__law_right : DefE P w mg base G "_law_right" 7 1 [(PySem.Str.ofString "line")] d__law_right) (D__law_bent : DefE P w mg base G "_law_bent" 3 2 [(PySem.Str.ofString "pen"), (PySem.Str.ofString "line")] d__law_bent) (D__law_weights : DefE P w mg base G "_law_weights" 3 1 [(PySem.Str.ofString "pen")] d__law_weights) : FnV P w G.K mg base 8 f fd [(PySem.Str.ofString "script")] (spV G 1 d_law) :=
  fn_body (n := 1) F sc_law rfl fun cdv A outer s H E hr hg => ((ss_cons (s_set 1 sc_law.nd rfl (.inl rfl) (v_callE D__law_pen rfl hr (by decide) hg (takes_of rfl rfl rfl rfl) (va_cons (v_var 0 rfl (.inl rfl)) va_nil) rfl))
  (ss_cons (s_for (passes_of rfl) rfl (vi_range1 rfl B.n_range (va_cons v_int va_nil)) (pg_name (i := 2) sc_law.nd rfl (.inl rfl)) (tg_name 2)
  (ss_cons (s_set 5 sc_law.nd rfl (.inl rfl) (v_callE D__law_weights rfl hr (by decide) hg (takes_of rfl rfl rfl rfl) (va_cons (v_var 1 rfl (.inl rfl)) va_nil) rfl))
  (ss_cons (s_par (i := 8) (j := 9) rfl sc_law.nd rfl rfl (by decide) rfl rfl (va_cons (v_callE D__law_pick rfl hr (by decide) hg (takes_of rfl rfl rfl rfl) (va_cons (v_var 1 rfl (.inl rfl)) (va_cons (v_lst (own := false) (va_cons v_non (va_cons v_int (va_cons (v_op op_pow s_pow v_int v_int) (va_cons (v_callE D__law_draw rfl hr (by decide) hg (takes_of rfl rfl rfl rfl) (va_cons (v_var 1 rfl (.inl rfl)) (va_cons v_int va_nil)) rfl) va_nil))))) va_nil)) rfl) (va_cons (v_callE D__law_pick rfl hr (by decide) hg (takes_of rfl rfl rfl rfl) (va_cons (v_var 1 rfl (.inl rfl)) (va_cons (v_lst (own := false) (va_cons v_non (va_cons v_int (va_cons (v_op op_pow s_pow v_int v_int) (va_cons (v_callE D__law_draw rfl hr (by decide) hg (takes_of rfl rfl rfl rfl) (va_cons (v_var 1 rfl (.inl rfl)) (va_cons v_int va_nil)) rfl) va_nil))))) va_nil)) rfl) va_nil)) rfl)
  (ss_cons (s_par (i := 10) (j := 11) rfl sc_law.nd rfl rfl (by decide) rfl rfl (va_cons (v_makeD D_Ledger___init__ rfl hr (by decide) hg (takes_of rfl rfl rfl rfl) B.k_Ledger rfl rfl (by intro l hl; exact match l, hl with | [_, _, _, _], _ => rfl) (va_cons (v_var 5 rfl (.inl rfl)) va_nil) (vp_cons (v_var 8 rfl (.inl rfl)) (vp_cons (v_var 9 rfl (.inl rfl)) vp_nil)) rfl) (va_cons (v_callE D__law_text rfl hr (by decide) hg (takes_of rfl rfl rfl rfl) (va_cons (v_var 5 rfl (.inl rfl)) (va_cons (v_var 8 rfl (.inl rfl)) (va_cons (v_var 9 rfl (.inl rfl)) va_nil))) rfl) va_nil)) rfl)
  (ss_cons (s_if (PW.pt (wb_or (vb_cmp (op_ne' hr.units) s_ne (v_strD D_Ledger___str__ rfl hr (by decide) hg B.n_str rfl (v_var 10 rfl (.inl rfl))) (v_var 11 rfl (.inl rfl)) (by with_unfolding_all rfl)) (wb_or (vb_neD D_Ledger___eq__ rfl hr (by decide) hg (v_cmD D_Ledger_read rfl hr (by decide) hg (takes_of rfl rfl rfl rfl) B.k_Ledger rfl (va_cons (v_var 11 rfl (.inl rfl)) va_nil)) (v_var 10 rfl (.inl rfl))) (wb_or1 (vb_not (vb_val (v_callE D__law_right rfl hr (by decide) hg (takes_of rfl rfl rfl rfl) (va_cons (v_var 11 rfl (.inl rfl)) va_nil) rfl)))))))
  (ss_one (s_ret v_bl))
  ss_nil)
  (ss_cons (s_for (passes_of rfl) rfl (vi_range1 rfl B.n_range (va_cons v_int va_nil)) (pg_name (i := 6) sc_law.nd rfl (.inl rfl)) (tg_name 6)
  (ss_cons (s_set 12 sc_law.nd rfl (.inl rfl) (v_callE D__law_bent rfl hr (by decide) hg (takes_of rfl rfl rfl rfl) (va_cons (v_var 1 rfl (.inl rfl)) (va_cons (v_var 11 rfl (.inl rfl)) va_nil)) rfl))
  (ss_one (s_if (PW.pt (wb_or (vb_not (vb_val (v_callE D__law_right rfl hr (by decide) hg (takes_of rfl rfl rfl rfl) (va_cons (v_var 12 rfl (.inl rfl)) va_nil) rfl))) (wb_or1 (vb_not (vb_val (v_callE D__law_right rfl hr (by decide) hg (takes_of rfl rfl rfl rfl) (va_cons (v_callE D__law_bent rfl hr (by decide) hg (takes_of rfl rfl rfl rfl) (va_cons (v_var 1 rfl (.inl rfl)) (va_cons (v_var 12 rfl (.inl rfl)) va_nil)) rfl) va_nil) rfl))))))
  (ss_one (s_ret v_bl))
  ss_nil))))
  (ss_cons (s_par (i := 13) (j := 14) rfl sc_law.nd rfl rfl (by decide) rfl rfl (va_cons (v_callE D__law_pick rfl hr (by decide) hg (takes_of rfl rfl rfl rfl) (va_cons (v_var 1 rfl (.inl rfl)) (va_cons (v_lst (own := false) (va_cons v_non (va_cons v_int (va_cons (v_lst (own := false) (va_cons (v_var 11 rfl (.inl rfl)) va_nil)) (va_cons (v_tup (va_cons (v_var 11 rfl (.inl rfl)) va_nil)) (va_cons v_d0 (va_cons v_bl (va_cons (v_var 10 rfl (.inl rfl)) va_nil)))))))) va_nil)) rfl) (va_cons v_non va_nil)) rfl)
  (ss_cons (s_tryT (c := 0) (i := 7) (j := 14) lit16 lit17 rfl rfl sc_law.nd rfl rfl (by decide) rfl rfl (.inl rfl) ⟨rfl, by decide, .inl B.e_InvalidText.gC⟩ (takes_of rfl rfl rfl rfl) B.te_InvalidText B.x_InvalidText.xf B.nf_row B.nf_word
  (fun W1 pn1 xe1 t1 po1 => (ss_one (s_expr (v_cmD D_Ledger_read rfl hr (by decide) hg t1 B.k_Ledger rfl (va_cons (v_var 13 rfl (.inl rfl)) va_nil))))))
  (ss_one (s_if (vb_cmp (op_ne' hr.units) s_ne (v_var 14 rfl (.inl rfl)) (v_tup (va_cons v_int (va_cons v_int va_nil))) (by with_unfolding_all rfl))
  (ss_one (s_ret v_bl))
  ss_nil))))))))))
  (ss_cons (s_set 3 sc_law.nd rfl (.inl rfl) (v_join rfl (v_str [10] lit8) (va_cons (v_op op_add' (s_add (own := false)) (v_lc (own := false) rfl sc_law.nd (vsl := [((PySem.Str.ofString "tag"), 15)]) (vi_str (v_str [97, 98, 99, 100, 101, 102, 103, 104, 105] lit42)) (blkOk_by (by show blkC N_law (defScope st_law) _ _ = true; decide +kernel)) (fun _ _ _ _ _ => (pg_name (i := 15) sc_law.nd rfl (.inl rfl))) (tg_name 15) (by decide) (fun _ _ _ _ _ => vts_nil) (fun _ _ _ _ _ => (v_op op_add' (s_add (own := false)) (v_op op_add' (s_add (own := false)) (v_str [119, 101, 105, 103, 104, 116, 32] lit12) (v_var 15 rfl (.inl rfl))) (v_str [32, 49] lit43)))) (v_lst (own := false) (va_cons (v_str [108, 111, 97, 100, 32, 45] lit20) (va_cons (v_str [114, 117, 115, 104, 32, 45] lit44) va_nil)))) va_nil)))
  (ss_cons (s_set 4 sc_law.nd rfl (.inl rfl) (v_lst (own := false) (va_cons (v_str [] lit2) (va_cons (v_str [108, 111, 97, 100, 32, 45] lit20) (va_cons (v_str [108, 111, 97, 100, 32, 45, 10, 114, 117, 115, 104, 32, 45] lit45) (va_cons (v_str [108, 111, 97, 100, 32, 45, 10, 114, 117, 115, 104, 32, 45, 10] lit46) (va_cons (v_str [108, 111, 97, 100, 32, 48, 10, 114, 117, 115, 104, 32, 48, 32] lit47) (va_cons (v_str [32, 108, 111, 97, 100, 32, 48, 10, 114, 117, 115, 104, 32, 48] lit48) (va_cons (v_str [114, 117, 115, 104, 32, 48, 10, 108, 111, 97, 100, 32, 48] lit49) (va_cons (v_var 3 rfl (.inl rfl)) va_nil))))))))))
  (ss_one (s_ret (v_and (v_cmp (op_eq' hr.units) s_eq (v_lc (own := false) rfl sc_law.nd (vsl := [((PySem.Str.ofString "line"), 11)]) (vi_list rfl (v_var 4 rfl (.inl rfl))) (blkOk_by (by show blkC N_law (defScope st_law) _ _ = true; decide +kernel)) (fun _ _ _ _ _ => (pg_name (i := 11) sc_law.nd rfl (.inl rfl))) (tg_name 11) (by decide) (fun _ _ _ _ _ => (vts_one (vb_not (vb_val (v_callE D__law_right rfl hr (by decide) hg LamX.takes0 (va_cons (v_var 11 rfl (.inl rfl)) va_nil) rfl))))) (fun _ _ _ _ _ => (v_var 11 rfl (.inl rfl)))) (v_lst (own := false) va_nil) (by with_unfolding_all rfl)) (v_one (v_cmp (op_eq' hr.units) s_eq (v_callE D__law_wrong rfl hr (by decide) hg (takes_of rfl rfl rfl rfl) (va_cons (v_var 3 rfl (.inl rfl)) va_nil) rfl) (v_tup (va_cons v_int (va_cons v_int va_nil))) (by with_unfolding_all rfl)))))))))))
theorem def_law (B : Bnds P mg G) (F : Fun G.K "law" "law" st_law f fd) (hm : mg "law" = some (.ref f)) (D_Ledger___init__ : InitD P w mg base G 1 4 4 1 [(PySem.Str.ofString "self"), (PySem.Str.ofString "weights"), (PySem.Str.ofString "load"), (PySem.Str.ofString "rush")] [(PySem.Str.ofString "load"), (PySem.Str.ofString "rush")] [0, 1, 2, 3] d_Ledger___init__) (D_Ledger_read : CmD P w mg base G 1 6 (PySem.Str.ofString "read") (PySem.Str.ofString "text") d_Ledger_read) (D_Ledger___eq__ : EqD P w mg base G 1 1 d_Ledger___eq__) (D_Ledger___str__ : StrD P w mg base G 1 1 d_Ledger___str__) (D__law_pen : DefE P w mg base G "_law_pen" 1 1 [(PySem.Str.ofString "script")] d__law_pen) (D__law_draw : DefE P w mg base G "_law_draw" 1 2 [(PySem.Str.ofString "pen"), (PySem.Str.ofString "many")] d__law_draw) (D__law_pick : DefE P w mg base G "_law_pick" 2 2 [(PySem.Str.ofString "pen"), (PySem.Str.ofString "some")] d__law_pick) (D__law_text : DefE P w mg base G "_law_text" 1 3 [(PySem.Str.ofString "weights"), (PySem.Str.ofString "load"), (PySem.Str.ofString "rush")] d__law_text) (D__law_wrong : DefE P w mg base G "_law_wrong" 3 1 [(PySem.Str.ofString "line")] d__law_wrong) (D__law_right : DefE P w mg base G "_law_right" 7 1 [(PySem.Str.ofString "line")] d__law_right) (D__law_bent : DefE P w mg base G "_law_bent" 3 2 [(PySem.Str.ofString "pen"), (PySem.Str.ofString "line")] d__law_bent) (D__law_weights : DefE P w mg base G "_law_weights" 3 1 [(PySem.Str.ofString "pen")] d__law_weights) : DefE P w mg base G "law" 8 1 [(PySem.Str.ofString "script")] d_law :=
  ⟨f, fd, hm, F.kp, ok_law B F D_Ledger___init__ D_Ledger_read D_Ledger___eq__ D_Ledger___str__ D__law_pen D__law_draw D__law_pick D__law_text D__law_wrong D__law_right D__law_bent D__law_weights, bnd0_of F (fun _ _ _ _ _ _ us hl => match us, hl with | [_], _ => rfl), fun h => bnd1_of F fun _ _ _ _ _ _ _ => rfl⟩
end
end K82

/-! k82: texts and numbers, in plain Lean. -/
namespace K82
open PySem PySem.NumText PySem.W.KIN PyProof.Rows VL
/-! ### cutting at a sign -/
abbrev sp (b : Nat) (t : T) : List T := TL.spl [b] 0 [] t
theorem spl_cons (b c : Nat) (acc r : T) : TL.spl [b] 0 acc (c :: r) = if c = b then acc :: TL.spl [b] 0 [] r else TL.spl [b] 0 (acc ++ [c]) r := by
  have e : TL.pre [b] (c :: r) = decide (c = b) := by
    unfold TL.pre
    by_cases h : c = b
    · subst h; simp
    · simp [h]
  by_cases h : c = b
  · rw [if_pos h, TL.spl_hit (by rw [e]; exact decide_eq_true h)]
    rfl
  · rw [if_neg h, TL.spl_miss (by rw [e]; exact decide_eq_false h)]
theorem spl_nil' (b : Nat) (acc : T) : TL.spl [b] 0 acc [] = [acc] := TL.spl_nil _ _ _
theorem spl_ne (b : Nat) : ∀ (t acc : T), TL.spl [b] 0 acc t ≠ []
  | [], acc => by rw [spl_nil']; simp
  | c :: r, acc => by
    rw [spl_cons]
    by_cases h : c = b
    · rw [if_pos h]; simp
    · rw [if_neg h]; exact spl_ne b r _
theorem joinL_cons {b : Nat} {p : T} {l : List T} (h : l ≠ []) : TL.joinL [b] (p :: l) = p ++ b :: TL.joinL [b] l := by
  cases l with
  | nil => exact absurd rfl h
  | cons q r => rfl
theorem join_spl (b : Nat) : ∀ (t acc : T), TL.joinL [b] (TL.spl [b] 0 acc t) = acc ++ t
  | [], acc => by rw [spl_nil']; simp [TL.joinL]
  | c :: r, acc => by
    rw [spl_cons]
    by_cases h : c = b
    · rw [if_pos h, joinL_cons (spl_ne b r []), join_spl b r [], h]; simp
    · rw [if_neg h, join_spl b r]; simp
theorem join_sp (b : Nat) (t : T) : TL.joinL [b] (sp b t) = t := by rw [join_spl]; rfl
/-- all signs of the parts, and the parts -/
def tot (ps : List T) : Nat := (ps.map List.length).sum + ps.length
theorem tot_cons (p : T) (ps : List T) : tot (p :: ps) = p.length + 1 + tot ps := by simp [tot]; omega
theorem tot_app (ps qs : List T) : tot (ps ++ qs) = tot ps + tot qs := by simp [tot]; omega
theorem tot_spl (b : Nat) : ∀ (t acc : T), tot (TL.spl [b] 0 acc t) = acc.length + t.length + 1
  | [], acc => by rw [spl_nil', tot_cons]; simp [tot]
  | c :: r, acc => by
    rw [spl_cons]
    by_cases h : c = b
    · rw [if_pos h, tot_cons, tot_spl b r []]; simp; omega
    · rw [if_neg h, tot_spl b r]; simp; omega
theorem tot_sp (b : Nat) (t : T) : tot (sp b t) = t.length + 1 := by rw [tot_spl]; simp
theorem joinL_len (b : Nat) : ∀ ps : List T, (TL.joinL [b] ps).length ≤ tot ps
  | [] => by simp [TL.joinL]
  | [p] => by simp [TL.joinL, tot]
  | p :: q :: r => by
    have := joinL_len b (q :: r)
    rw [joinL_cons (by simp), tot_cons]
    simp; omega
theorem tot_mem {p : T} : ∀ {ps : List T}, p ∈ ps → p.length + 1 ≤ tot ps
  | q :: ps, h => by
    rw [tot_cons]
    rcases List.mem_cons.mp h with e | h
    · subst e; omega
    · have := tot_mem h; omega
theorem tot_len : ∀ ps : List T, ps.length ≤ tot ps := fun ps => by simp [tot]
theorem tot_take (n : Nat) (ps : List T) : tot (ps.take n) ≤ tot ps := by
  have := tot_app (ps.take n) (ps.drop n)
  rw [List.take_append_drop] at this
  omega
theorem tot_drop (n : Nat) (ps : List T) : tot (ps.drop n) ≤ tot ps := by
  have := tot_app (ps.take n) (ps.drop n)
  rw [List.take_append_drop] at this
  omega
theorem tot_set {p : T} : ∀ (n : Nat) (ps : List T), tot (ps.set n p) ≤ tot ps + p.length
  | _, [] => by simp [tot]
  | 0, q :: ps => by rw [List.set_cons_zero, tot_cons, tot_cons]; omega
  | n + 1, q :: ps => by
    have := tot_set (p := p) n ps
    rw [List.set_cons_succ, tot_cons, tot_cons]; omega
theorem sp_join {b : Nat} {ps : List T} (h : ps ≠ []) (hp : ∀ p ∈ ps, b ∉ p) : sp b (TL.joinL [b] ps) = ps := TL.spl_join h hp
/-! ### numbers -/
def DIG : T := [48, 49, 50, 51, 52, 53, 54, 55, 56, 57]
theorem dig_iff (c : Nat) : c ∈ DIG ↔ 48 ≤ c ∧ c ≤ 57 := by
  unfold DIG
  simp only [List.mem_cons, List.not_mem_nil, or_false]
  omega
def digs (t : T) : Bool := t.all fun c => decide (c ∈ DIG)
theorem digs_all {t : T} (h : digs t = true) : AllDigits t := fun c m => (dig_iff c).mp (of_decide_eq_true (List.all_eq_true.mp h c m))
theorem chr_back : ∀ c < 58, (Char.ofNat c).toNat = c := by decide
theorem map_back : ∀ {t : T}, AllDigits t → (t.map Char.ofNat).map Char.toNat = t
  | [], _ => rfl
  | c :: t, h => by
    have := h.head
    rw [List.map_cons, List.map_cons, chr_back c (by omega), map_back h.tail]
theorem itx_nat (m : Nat) : itx (m : Int) = (Nat.toDigits 10 m).map Char.toNat := signs_num m
theorem itx_val (m : Nat) : digitsVal (itx (m : Int)) = m := by rw [itx_nat, val_back]
theorem drop_digs {t : T} (h : AllDigits t) : AllDigits (t.dropWhile (· == 48)) := fun c m => h c ((List.dropWhile_sublist _).subset m)
theorem itx_dig {t : T} (h : AllDigits t) : itx ((digitsVal t : Nat) : Int) = match t.dropWhile (· == 48) with
    | [] => [48]
    | c :: r => c :: r := by
  rw [itx_nat, toDigits_all t h]
  have hd := drop_digs h
  cases e : t.dropWhile (· == 48) with
  | nil => rfl
  | cons c r =>
    rw [e] at hd
    exact map_back hd
theorem itx_digs (m : Nat) : AllDigits (itx (m : Int)) := by
  intro c hc
  rw [itx_nat] at hc
  obtain ⟨ch, hch, e⟩ := List.mem_map.mp hc
  have r := digit_range (Nat.isDigit_of_mem_toDigits (by decide) (by decide) hch)
  rw [← e]
  exact r
theorem itx_ne (m : Nat) : itx (m : Int) ≠ [] := by
  rw [itx_nat]
  intro e
  have h := toDigits_len_ge 10 m
  rw [List.map_eq_nil_iff.mp e] at h
  exact absurd h (by decide)
/-- a number as it is written: no zero ahead -/
def plain (t : T) : Prop := t = [48] ∨ ∃ c r, t = c :: r ∧ 49 ≤ c
theorem plain_iff {t : T} (h : AllDigits t) (hne : t ≠ []) : itx ((digitsVal t : Nat) : Int) = t ↔ plain t := by
  rw [itx_dig h]
  cases t with
  | nil => exact absurd rfl hne
  | cons c r =>
    have hc := h.head
    by_cases e : c = 48
    · subst e
      have e1 : (48 :: r).dropWhile (· == 48) = r.dropWhile (· == 48) := rfl
      rw [e1]
      constructor
      · intro q
        have hl : (r.dropWhile (· == 48)).length ≤ r.length := (List.dropWhile_sublist _).length_le
        cases e2 : r.dropWhile (· == 48) with
        | nil => rw [e2] at q; exact .inl q.symm
        | cons d s =>
          rw [e2] at q hl
          have := congrArg List.length q
          simp at this hl
          omega
      · intro q
        rcases q with q | ⟨d, s, q, hd⟩
        · have : r = [] := (List.cons.inj q).2
          subst this
          rfl
        · have := (List.cons.inj q).1
          omega
    · have e1 : (c :: r).dropWhile (· == 48) = c :: r := by rw [List.dropWhile_cons, if_neg (by rw [beq_iff_eq]; exact e)]
      rw [e1]
      exact ⟨fun _ => .inr ⟨c, r, rfl, by omega⟩, fun _ => rfl⟩
theorem itx_plain (m : Nat) : plain (itx (m : Int)) := (plain_iff (itx_digs m) (itx_ne m)).mp (by rw [itx_val])
theorem val_lt : ∀ {t : T} (a : Nat), AllDigits t → t.foldl (fun acc c => acc * 10 + (c - 48)) a < (a + 1) * 10 ^ t.length
  | [], a, _ => by simp
  | c :: t, a, h => by
    have hc := h.head
    have ih := val_lt (t := t) (a * 10 + (c - 48)) h.tail
    rw [List.foldl_cons, List.length_cons, Nat.pow_succ]
    refine Nat.lt_of_lt_of_le ih ?_
    have : a * 10 + (c - 48) + 1 ≤ (a + 1) * 10 := by omega
    calc (a * 10 + (c - 48) + 1) * 10 ^ t.length ≤ ((a + 1) * 10) * 10 ^ t.length := Nat.mul_le_mul_right _ this
      _ = (a + 1) * (10 ^ t.length * 10) := by rw [Nat.mul_assoc, Nat.mul_comm 10]
theorem val_ge : ∀ (t : T) (a : Nat), a * 10 ^ t.length ≤ t.foldl (fun acc c => acc * 10 + (c - 48)) a
  | [], a => by simp
  | c :: t, a => by
    rw [List.foldl_cons, List.length_cons, Nat.pow_succ]
    refine Nat.le_trans ?_ (val_ge t _)
    calc a * (10 ^ t.length * 10) = (a * 10) * 10 ^ t.length := by rw [Nat.mul_assoc, Nat.mul_comm 10]
      _ ≤ _ := Nat.mul_le_mul_right _ (by omega)
theorem plain_ge {c : Nat} {r : T} (hc : 49 ≤ c) : 10 ^ r.length ≤ digitsVal (c :: r) := by
  have := val_ge r (0 * 10 + (c - 48))
  refine Nat.le_trans ?_ this
  calc 10 ^ r.length = 1 * 10 ^ r.length := (Nat.one_mul _).symm
    _ ≤ _ := Nat.mul_le_mul_right _ (by omega)
theorem plain_len {t : T} {k : Nat} (p : plain t) (h : digitsVal t < 10 ^ (k + 1)) : t.length ≤ k + 1 := by
  rcases p with rfl | ⟨c, r, rfl, hc⟩
  · simp
  · have h1 := plain_ge (r := r) hc
    have h2 : 10 ^ r.length < 10 ^ (k + 1) := Nat.lt_of_le_of_lt h1 h
    have := (Nat.pow_lt_pow_iff_right (by decide : 1 < 10)).mp h2
    simp; omega
/-- what the program takes for a number: its value -/
def numIn (t : T) (m : Nat) : Option Nat := if t ≠ [] ∧ digs t = true ∧ t.length ≤ (itx (m : Int)).length ∧ itx ((digitsVal t : Nat) : Int) = t ∧ digitsVal t ≤ m then some (digitsVal t) else none
/-- what the law takes for one -/
def isNumL (t : T) (m : Nat) : Prop := t ≠ [] ∧ t.length ≤ 11 ∧ digs t = true ∧ (t = [48] ∨ t.head? ≠ some 48) ∧ digitsVal t ≤ m
instance (t : T) (m : Nat) : Decidable (isNumL t m) := by unfold isNumL; infer_instance
structure Most (m k : Nat) : Prop where
  len : (itx (m : Int)).length = k + 1
  lt : m < 10 ^ (k + 1)
  k : k + 1 ≤ 11
theorem most9 : Most 1000000000 9 := ⟨by decide +kernel, by decide, by decide⟩
theorem most10 : Most 10000000000 10 := ⟨by decide +kernel, by decide, by decide⟩
theorem plain_head {t : T} (h : AllDigits t) (hne : t ≠ []) : plain t ↔ (t = [48] ∨ t.head? ≠ some 48) := by
  cases t with
  | nil => exact absurd rfl hne
  | cons c r =>
    have hc := h.head
    constructor
    · rintro (q | ⟨d, s, q, hd⟩)
      · exact .inl q
      · refine .inr ?_
        have := (List.cons.inj q).1
        simp; omega
    · rintro (q | q)
      · exact .inl q
      · refine .inr ⟨c, r, rfl, ?_⟩
        simp at q
        omega
theorem num_same {t : T} {m k : Nat} (M : Most m k) : isNumL t m ↔ (numIn t m).isSome = true := by
  unfold isNumL numIn
  have hk := M.k
  constructor
  · rintro ⟨h1, h2, h3, h4, h5⟩
    have ha := digs_all h3
    have hp := (plain_head ha h1).mpr h4
    have hl := plain_len hp (Nat.lt_of_le_of_lt h5 M.lt)
    rw [if_pos ⟨h1, h3, by rw [M.len]; exact hl, (plain_iff ha h1).mpr hp, h5⟩]
    rfl
  · intro h
    split at h
    · rename_i q
      obtain ⟨h1, h3, h2, h4, h5⟩ := q
      have ha := digs_all h3
      exact ⟨h1, by rw [M.len] at h2; omega, h3, (plain_head ha h1).mp ((plain_iff ha h1).mp h4), h5⟩
    · cases h
theorem numIn_some {t : T} {m n : Nat} (h : numIn t m = some n) : itx (n : Int) = t ∧ n ≤ m := by
  unfold numIn at h
  split at h
  · rename_i q
    cases h
    exact ⟨q.2.2.2.1, q.2.2.2.2⟩
  · cases h
theorem numIn_itx {m n k : Nat} (M : Most m k) (h : n ≤ m) : numIn (itx (n : Int)) m = some n := by
  have ha := itx_digs n
  have hd : digs (itx (n : Int)) = true := List.all_eq_true.mpr fun c hc => decide_eq_true ((dig_iff c).mpr (ha c hc))
  have hp := itx_plain n
  have hv := itx_val n
  unfold numIn
  rw [if_pos ⟨itx_ne n, hd, by rw [M.len]; exact plain_len hp (by rw [hv]; exact Nat.lt_of_le_of_lt h M.lt), by rw [hv], by rw [hv]; exact h⟩, hv]
end K82

/-! k82: what each def computes. -/
namespace K82
open PySem PySem.Spec PySem.NumText PyProof.Rows L2 LamX VL
theorem sl_eq : sizeLine = 16777216 := rfl
theorem e_int (i : Int) (τ : Store) : d_is_integer [.d (.int i)] τ = .ok (.d (.bl true)) τ := by
  simp [callD, outR, retU, gSeq, gIf, gRet, gRetN, gSet, gExpr, VL.gNil, gNever, gUnp, gPar, gPar3, eVar, eC, elNil, elCons, eCall, gCall, eCB, gCB, vws_cons, vws_nil, c1, c2, eOp, opD, bOf, bAnd, bOr, bNeg, eAnd, eOr, eNot, eIf, eIs, isN, eIsi, D.ty, isTy, eChain, oLe, oLt, oGt, oGe, oEq, oNe, bNot, oAdd, oSub, fLen, fLenD, D.seq, eTup, gTupD, frzs, eLst, gLstD, allocL, eIx, oIx, fMin, take_self, R.bind, liftE, RS.seq, tName, tTupN, tNames, eMt, gMt, tyD, d_is_integer, g_is_integer]
theorem e_between (i m : Int) (τ : Store) : d_is_between [.d (.int i), .d (.int m)] τ = .ok (.d (.bl (decide (0 ≤ i ∧ i ≤ m)))) τ := by
  simp [callD, outR, retU, gSeq, gIf, gRet, gRetN, gSet, gExpr, VL.gNil, gNever, gUnp, gPar, gPar3, eVar, eC, elNil, elCons, eCall, gCall, eCB, gCB, vws_cons, vws_nil, c1, c2, eOp, opD, bOf, bAnd, bOr, bNeg, eAnd, eOr, eNot, eIf, eIs, isN, eIsi, D.ty, isTy, eChain, oLe, oLt, oGt, oGe, oEq, oNe, bNot, oAdd, oSub, fLen, fLenD, D.seq, eTup, gTupD, frzs, eLst, gLstD, allocL, eIx, oIx, fMin, take_self, R.bind, liftE, RS.seq, tName, tTupN, tNames, eMt, gMt, tyD, d_is_between, g_is_between, e_int]
  by_cases h : 0 ≤ i
  · simp [h]
  · simp [h]
theorem e_cap_non (τ : Store) : d_is_cap [.d .non] τ = .ok (.d (.bl true)) τ := by
  simp [callD, outR, retU, gSeq, gIf, gRet, gRetN, gSet, gExpr, VL.gNil, gNever, gUnp, gPar, gPar3, eVar, eC, elNil, elCons, eCall, gCall, eCB, gCB, vws_cons, vws_nil, c1, c2, eOp, opD, bOf, bAnd, bOr, bNeg, eAnd, eOr, eNot, eIf, eIs, isN, eIsi, D.ty, isTy, eChain, oLe, oLt, oGt, oGe, oEq, oNe, bNot, oAdd, oSub, fLen, fLenD, D.seq, eTup, gTupD, frzs, eLst, gLstD, allocL, eIx, oIx, fMin, take_self, R.bind, liftE, RS.seq, tName, tTupN, tNames, eMt, gMt, tyD, d_is_cap, g_is_cap]
theorem e_cap_int (i : Int) (τ : Store) : d_is_cap [.d (.int i)] τ = .ok (.d (.bl (decide (0 ≤ i ∧ i ≤ 10000000000)))) τ := by
  simp [callD, outR, retU, gSeq, gIf, gRet, gRetN, gSet, gExpr, VL.gNil, gNever, gUnp, gPar, gPar3, eVar, eC, elNil, elCons, eCall, gCall, eCB, gCB, vws_cons, vws_nil, c1, c2, eOp, opD, bOf, bAnd, bOr, bNeg, eAnd, eOr, eNot, eIf, eIs, isN, eIsi, D.ty, isTy, eChain, oLe, oLt, oGt, oGe, oEq, oNe, bNot, oAdd, oSub, fLen, fLenD, D.seq, eTup, gTupD, frzs, eLst, gLstD, allocL, eIx, oIx, fMin, take_self, R.bind, liftE, RS.seq, tName, tTupN, tNames, eMt, gMt, tyD, d_is_cap, g_is_cap, e_between]
/-- a letter -/
def LET : T := [97, 98, 99, 100, 101, 102, 103, 104, 105, 106, 107, 108, 109, 110, 111, 112, 113, 114, 115, 116, 117, 118, 119, 120, 121, 122]
def SHO : T := [115, 104, 111, 114, 101]
def isName (t : T) : Bool := decide (1 ≤ t.length ∧ t.length ≤ 8) && t.all fun c => decide (c ∈ LET)
def isOwn (t : T) : Bool := isName t && decide (t ≠ SHO)
theorem bls_map {α : Type} (f : α → Bool) (l : List α) : blsOf (l.map fun x => D.bl (f x)) = some (l.map f) := by
  have := blsOf_map (l.map f)
  rwa [List.map_map] at this
/-- the signs of a text, each looked up in another one -/
theorem signs_in (w : T) (ρ : VL.Env) (i : Nat) (hi : i < ρ.length) (t : T) (h : t.length ≤ 100000) (τ : Store) :
    ∃ ds, compGo (tName i) bYes (eOp (oInG false) (eVar i) (eC (.str w))) ρ (t.map fun c => D.str [c]) τ [] = .ok ds τ ∧ blsOf ds = some (t.map fun c => decide (c ∈ w)) := by
  have hs : t.length ≤ sizeLine := by rw [sl_eq]; omega
  refine ⟨[] ++ (t.map fun c => D.str [c]).map fun d => match d with | .str [c] => .bl (decide (c ∈ w)) | _ => .non, compGo_all _ [] (fun x m => ?_) (by simp; omega), ?_⟩
  · obtain ⟨c, _, rfl⟩ := List.mem_map.mp m
    refine ⟨_, rfl, ?_⟩
    simp only [eOp, eVar, eC, List.getElem?_set_self hi, R.bind_ok, opD_d, oInG, Bool.false_eq_true, if_false]
  · rw [List.nil_append, List.map_map]
    exact bls_map _ _
theorem e_name (t : T) (h : t.length ≤ 100000) (τ : Store) : d_is_name [.d (.str t)] τ = .ok (.d (.bl (isName t))) τ := by
  have hs : t.length ≤ sizeLine := by rw [sl_eq]; omega
  obtain ⟨ds, g1, g2⟩ := signs_in LET (wipeE [some (.d (.str t)), none] [1]) 1 (by simp [wipeE]) t h τ
  unfold LET at g1
  have e2 : isName t = (decide (1 ≤ t.length ∧ t.length ≤ 8) && (t.map fun c => decide (c ∈ LET)).all id) := by
    unfold isName
    rw [List.all_map]
    rfl
  rw [e2]
  generalize (t.map fun c => decide (c ∈ LET)) = bs at g2
  by_cases h1 : 1 ≤ t.length
  · have h1' : (1 : Int) ≤ (t.length : Int) := by omega
    by_cases h2 : t.length ≤ 8
    · have h2' : (t.length : Int) ≤ 8 := by omega
      simp [callD, outR, retU, gSeq, gIf, gRet, gRetN, gSet, gExpr, VL.gNil, gNever, gUnp, gPar, gPar3, eVar, eC, elNil, elCons, eCall, gCall, eCB, gCB, vws_cons, vws_nil, c1, c2, eOp, opD, bOf, bAnd, bOr, bNeg, eAnd, eOr, eNot, eIf, eIs, isN, eIsi, D.ty, isTy, eChain, oLe, oLt, oGt, oGe, oEq, oNe, bNot, oAdd, oSub, fLen, fLenD, D.seq, eTup, gTupD, frzs, eLst, gLstD, allocL, eIx, oIx, fMin, take_self, R.bind, liftE, RS.seq, tName, tTupN, tNames, eMt, gMt, tyD, d_is_name, g_is_name, eLc, dSigns, gSigns, fBls, D.lsts, hs, h1', h2', g1, g2, h1, h2]
    · have h2' : ¬ (t.length : Int) ≤ 8 := by omega
      simp [callD, outR, retU, gSeq, gIf, gRet, gRetN, gSet, gExpr, VL.gNil, gNever, gUnp, gPar, gPar3, eVar, eC, elNil, elCons, eCall, gCall, eCB, gCB, vws_cons, vws_nil, c1, c2, eOp, opD, bOf, bAnd, bOr, bNeg, eAnd, eOr, eNot, eIf, eIs, isN, eIsi, D.ty, isTy, eChain, oLe, oLt, oGt, oGe, oEq, oNe, bNot, oAdd, oSub, fLen, fLenD, D.seq, eTup, gTupD, frzs, eLst, gLstD, allocL, eIx, oIx, fMin, take_self, R.bind, liftE, RS.seq, tName, tTupN, tNames, eMt, gMt, tyD, d_is_name, g_is_name, eLc, dSigns, gSigns, fBls, D.lsts, hs, h1', h2', h1, h2]
  · have h1' : ¬ (1 : Int) ≤ (t.length : Int) := by omega
    simp [callD, outR, retU, gSeq, gIf, gRet, gRetN, gSet, gExpr, VL.gNil, gNever, gUnp, gPar, gPar3, eVar, eC, elNil, elCons, eCall, gCall, eCB, gCB, vws_cons, vws_nil, c1, c2, eOp, opD, bOf, bAnd, bOr, bNeg, eAnd, eOr, eNot, eIf, eIs, isN, eIsi, D.ty, isTy, eChain, oLe, oLt, oGt, oGe, oEq, oNe, bNot, oAdd, oSub, fLen, fLenD, D.seq, eTup, gTupD, frzs, eLst, gLstD, allocL, eIx, oIx, fMin, take_self, R.bind, liftE, RS.seq, tName, tTupN, tNames, eMt, gMt, tyD, d_is_name, g_is_name, eLc, dSigns, gSigns, fBls, D.lsts, hs, h1', h1]
theorem e_own (t : T) (h : t.length ≤ 100000) (τ : Store) : d_is_own_name [.d (.str t)] τ = .ok (.d (.bl (isOwn t))) τ := by
  unfold isOwn SHO
  cases e : isName t with
  | true => simp [callD, outR, retU, gSeq, gIf, gRet, gRetN, gSet, gExpr, VL.gNil, gNever, gUnp, gPar, gPar3, eVar, eC, elNil, elCons, eCall, gCall, eCB, gCB, vws_cons, vws_nil, c1, c2, eOp, opD, bOf, bAnd, bOr, bNeg, eAnd, eOr, eNot, eIf, eIs, isN, eIsi, D.ty, isTy, eChain, oLe, oLt, oGt, oGe, oEq, oNe, bNot, oAdd, oSub, fLen, fLenD, D.seq, eTup, gTupD, frzs, eLst, gLstD, allocL, eIx, oIx, fMin, take_self, R.bind, liftE, RS.seq, tName, tTupN, tNames, eMt, gMt, tyD, d_is_own_name, g_is_own_name, e_name t h, e]
  | false => simp [callD, outR, retU, gSeq, gIf, gRet, gRetN, gSet, gExpr, VL.gNil, gNever, gUnp, gPar, gPar3, eVar, eC, elNil, elCons, eCall, gCall, eCB, gCB, vws_cons, vws_nil, c1, c2, eOp, opD, bOf, bAnd, bOr, bNeg, eAnd, eOr, eNot, eIf, eIs, isN, eIsi, D.ty, isTy, eChain, oLe, oLt, oGt, oGe, oEq, oNe, bNot, oAdd, oSub, fLen, fLenD, D.seq, eTup, gTupD, frzs, eLst, gLstD, allocL, eIx, oIx, fMin, take_self, R.bind, liftE, RS.seq, tName, tTupN, tNames, eMt, gMt, tyD, d_is_own_name, g_is_own_name, e_name t h, e]
/-- weights as a dict of the program -/
structure WOk (kvs : List (Ky × D)) : Prop where
  few : kvs.length ≤ 8
  all : ∀ p ∈ kvs, ∃ t w, p = ((Sum.inr t : Ky), D.int w) ∧ isOwn t = true ∧ 0 ≤ w ∧ w ≤ 1000000000
theorem isOwn_len {t : T} (h : isOwn t = true) : t.length ≤ 8 := by
  unfold isOwn isName at h
  simp only [Bool.and_eq_true, decide_eq_true_eq] at h
  exact h.1.1.2
theorem dget_mem {kvs : List (Ky × D)} {p : Ky × D} (h : p ∈ kvs) : ∃ q ∈ kvs, q.1 = p.1 ∧ dget kvs p.1 = some q.2 := by
  unfold dget
  cases e : kvs.find? fun q => decide (q.1 = p.1) with
  | none => exact absurd (List.find?_eq_none.mp e p h) (by simp)
  | some q =>
    have h1 := List.find?_some e
    exact ⟨q, List.mem_of_find?_eq_some e, of_decide_eq_true h1, rfl⟩
theorem e_weights {kvs : List (Ky × D)} (H : WOk kvs) (τ : Store) : d_are_weights [.d (.dct kvs)] τ = .ok (.d (.bl true)) τ := by
  have hf := H.few
  have hn : ¬ (8 : Int) < (kvs.length : Int) := by omega
  have go : compGo (tName 1) bYes (eAnd (eCall 1 d_is_own_name (elCons (eVar 1) elNil)) (eCall 2 d_is_between (elCons (eDGet (eVar 0) (eVar 1)) (elCons (eC (.int 1000000000)) elNil)))) (wipeE [some (.d (.dct kvs)), none] [1]) (kvs.map fun p => p.1.d) τ [] = .ok ([] ++ (kvs.map fun p => p.1.d).map fun _ => D.bl true) τ := by
    refine compGo_all _ [] (fun x m => ?_) (by rw [sl_eq]; simp; omega)
    obtain ⟨p, hp, rfl⟩ := List.mem_map.mp m
    obtain ⟨t, w, rfl, h1, h2, h3⟩ := H.all p hp
    obtain ⟨q, hq, e1, e2⟩ := dget_mem hp
    obtain ⟨t', w', rfl, h1', h2', h3'⟩ := H.all q hq
    refine ⟨_, rfl, ?_⟩
    have := isOwn_len h1
    simp [callD, outR, retU, gSeq, gIf, gRet, gRetN, gSet, gExpr, VL.gNil, gNever, gUnp, gPar, gPar3, eVar, eC, elNil, elCons, eCall, gCall, eCB, gCB, vws_cons, vws_nil, c1, c2, eOp, opD, bOf, bAnd, bOr, bNeg, eAnd, eOr, eNot, eIf, eIs, isN, eIsi, D.ty, isTy, eChain, oLe, oLt, oGt, oGe, oEq, oNe, bNot, oAdd, oSub, fLen, fLenD, D.seq, eTup, gTupD, frzs, eLst, gLstD, allocL, eIx, oIx, fMin, take_self, R.bind, liftE, RS.seq, tName, tTupN, tNames, eMt, gMt, tyD, wipeE, Ky.d, e_own t (by omega), h1, eDGet, gDGet, D.ky, e2, e_between, h2', h3']
  have e2 : blsOf ((kvs.map fun p => p.1.d).map fun _ => D.bl true) = some ((kvs.map fun p => p.1.d).map fun _ => true) := bls_map _ _
  have e3 : ((kvs.map fun p => p.1.d).map fun _ => true).all id = true := by simp
  generalize ((kvs.map fun p => p.1.d).map fun _ => D.bl true) = ds at go e2
  generalize ((kvs.map fun p => p.1.d).map fun _ => true) = bs at e2 e3
  simp [callD, outR, retU, gSeq, gIf, gRet, gRetN, gSet, gExpr, VL.gNil, gNever, gUnp, gPar, gPar3, eVar, eC, elNil, elCons, eCall, gCall, eCB, gCB, vws_cons, vws_nil, c1, c2, eOp, opD, bOf, bAnd, bOr, bNeg, eAnd, eOr, eNot, eIf, eIs, isN, eIsi, D.ty, isTy, eChain, oLe, oLt, oGt, oGe, oEq, oNe, bNot, oAdd, oSub, fLen, fLenD, D.seq, eTup, gTupD, frzs, eLst, gLstD, allocL, eIx, oIx, fMin, take_self, R.bind, liftE, RS.seq, tName, tTupN, tNames, eMt, gMt, tyD, d_are_weights, g_are_weights, hn, eLc, dKeys, gKeys, go, fBls, D.lsts, e2, e3]
/-! ### numbers -/
def optD : Option Nat → D
  | none => .non
  | some n => .int n
theorem log_ok {n : Nat} (h : n < 10 ^ 12) : n.log2 < 1920 := by
  by_cases e : n = 0
  · subst e; decide
  · have : n.log2 < 64 := (Nat.log2_lt e).mpr (Nat.lt_of_lt_of_le h (by decide))
    omega
theorem int_text {t : T} (h : digs t = true) (hne : t ≠ []) (hl : t.length ≤ 600) : PySem.intText? t.s = some ((PySem.NumText.digitsVal t : Nat) : Int) := by
  have e : t.s.cps.toList = t := by simp [T.s]
  have := intText_digits (x := t.s) (by rw [e]; exact digs_all h) (by rw [e]; exact hne) (by rw [T.len]; omega)
  rwa [e] at this
theorem most_lt {m k : Nat} (M : Most m k) : m < 10 ^ 12 := Nat.lt_of_lt_of_le M.lt (Nat.pow_le_pow_right (by decide) (by have := M.k; omega))
theorem e_number {t : T} {m k : Nat} (M : Most m k) (h : t.length ≤ 100000) (τ : Store) : d_number_in [.d (.str t), .d (.int m)] τ = .ok (.d (optD (numIn t m))) τ := by
  have hs : t.length ≤ sizeLine := by rw [sl_eq]; omega
  obtain ⟨ds, g1, g2⟩ := signs_in DIG (wipeE [some (.d (.str t)), some (.d (.int m)), none] [2]) 2 (by simp [wipeE]) t h τ
  unfold DIG at g1
  have hm := log_ok (most_lt M)
  have hL : (itx (m : Int)).length ≤ sizeLine := by rw [sl_eq, M.len]; have := M.k; omega
  have e2 : digs t = (t.map fun c => decide (c ∈ DIG)).all id := by
    unfold digs
    rw [List.all_map]
    rfl
  by_cases h1 : t = []
  · have e3 : numIn t m = none := by unfold numIn; rw [if_neg fun q => q.1 h1]
    subst h1
    rw [e3]
    simp [callD, outR, retU, gSeq, gIf, gRet, gRetN, gSet, gExpr, VL.gNil, gNever, gUnp, gPar, gPar3, eVar, eC, elNil, elCons, eCall, gCall, eCB, gCB, vws_cons, vws_nil, c1, c2, eOp, opD, bOf, bAnd, bOr, bNeg, eAnd, eOr, eNot, eIf, eIs, isN, eIsi, D.ty, isTy, eChain, oLe, oLt, oGt, oGe, oEq, oNe, bNot, oAdd, oSub, fLen, fLenD, D.seq, eTup, gTupD, frzs, eLst, gLstD, allocL, eIx, oIx, fMin, take_self, R.bind, liftE, RS.seq, tName, tTupN, tNames, eMt, gMt, tyD, d_number_in, g_number_in, optD]
  cases h2 : digs t with
  | false =>
    have e3 : numIn t m = none := by unfold numIn; rw [if_neg fun q => by rw [h2] at q; exact Bool.false_ne_true q.2.1]
    rw [e2] at h2
    generalize (t.map fun c => decide (c ∈ DIG)) = bs at g2 h2
    simp [callD, outR, retU, gSeq, gIf, gRet, gRetN, gSet, gExpr, VL.gNil, gNever, gUnp, gPar, gPar3, eVar, eC, elNil, elCons, eCall, gCall, eCB, gCB, vws_cons, vws_nil, c1, c2, eOp, opD, bOf, bAnd, bOr, bNeg, eAnd, eOr, eNot, eIf, eIs, isN, eIsi, D.ty, isTy, eChain, oLe, oLt, oGt, oGe, oEq, oNe, bNot, oAdd, oSub, fLen, fLenD, D.seq, eTup, gTupD, frzs, eLst, gLstD, allocL, eIx, oIx, fMin, take_self, R.bind, liftE, RS.seq, tName, tTupN, tNames, eMt, gMt, tyD, d_number_in, g_number_in, h1, e3, optD, eLc, dSigns, gSigns, fBls, D.lsts, g1, g2, h2]
  | true =>
    have h2' := h2
    rw [e2] at h2
    generalize (t.map fun c => decide (c ∈ DIG)) = bs at g2 h2
    by_cases h3 : t.length ≤ (itx (m : Int)).length
    · have h3' : ¬ ((itx (m : Int)).length : Int) < (t.length : Int) := by omega
      have hl : t.length ≤ 11 := by rw [M.len] at h3; have := M.k; omega
      have hl6 : t.length ≤ 640 := by omega
      have hv : PySem.NumText.digitsVal t < 10 ^ 12 := by
        have := val_lt 0 (digs_all h2')
        have h5 : 10 ^ t.length ≤ 10 ^ 11 := Nat.pow_le_pow_right (by decide) hl
        have h6 : (10 : Nat) ^ 11 < 10 ^ 12 := by decide
        have h7 : PySem.NumText.digitsVal t < (0 + 1) * 10 ^ t.length := this
        omega
      have hg := log_ok hv
      have hi := int_text h2' h1 (by omega)
      by_cases h4 : itx ((PySem.NumText.digitsVal t : Nat) : Int) = t
      · by_cases h5 : PySem.NumText.digitsVal t ≤ m
        · have h5' : ((PySem.NumText.digitsVal t : Nat) : Int) ≤ (m : Int) := by omega
          have e3 : numIn t m = some (PySem.NumText.digitsVal t) := by unfold numIn; rw [if_pos ⟨h1, h2', h3, h4, h5⟩]
          simp [callD, outR, retU, gSeq, gIf, gRet, gRetN, gSet, gExpr, VL.gNil, gNever, gUnp, gPar, gPar3, eVar, eC, elNil, elCons, eCall, gCall, eCB, gCB, vws_cons, vws_nil, c1, c2, eOp, opD, bOf, bAnd, bOr, bNeg, eAnd, eOr, eNot, eIf, eIs, isN, eIsi, D.ty, isTy, eChain, oLe, oLt, oGt, oGe, oEq, oNe, bNot, oAdd, oSub, fLen, fLenD, D.seq, eTup, gTupD, frzs, eLst, gLstD, allocL, eIx, oIx, fMin, take_self, R.bind, liftE, RS.seq, tName, tTupN, tNames, eMt, gMt, tyD, d_number_in, g_number_in, h1, e3, optD, eLc, dSigns, gSigns, fBls, D.lsts, g1, g2, h2, fStr, hm, hs, hL, h3', fIntT, hi, hl6, hg, h4, h5']
        · have h5' : ¬ ((PySem.NumText.digitsVal t : Nat) : Int) ≤ (m : Int) := by omega
          have e3 : numIn t m = none := by unfold numIn; rw [if_neg fun q => h5 q.2.2.2.2]
          simp [callD, outR, retU, gSeq, gIf, gRet, gRetN, gSet, gExpr, VL.gNil, gNever, gUnp, gPar, gPar3, eVar, eC, elNil, elCons, eCall, gCall, eCB, gCB, vws_cons, vws_nil, c1, c2, eOp, opD, bOf, bAnd, bOr, bNeg, eAnd, eOr, eNot, eIf, eIs, isN, eIsi, D.ty, isTy, eChain, oLe, oLt, oGt, oGe, oEq, oNe, bNot, oAdd, oSub, fLen, fLenD, D.seq, eTup, gTupD, frzs, eLst, gLstD, allocL, eIx, oIx, fMin, take_self, R.bind, liftE, RS.seq, tName, tTupN, tNames, eMt, gMt, tyD, d_number_in, g_number_in, h1, e3, optD, eLc, dSigns, gSigns, fBls, D.lsts, g1, g2, h2, fStr, hm, hs, hL, h3', fIntT, hi, hl6, hg, h4, h5']
      · have e3 : numIn t m = none := by unfold numIn; rw [if_neg fun q => h4 q.2.2.2.1]
        simp [callD, outR, retU, gSeq, gIf, gRet, gRetN, gSet, gExpr, VL.gNil, gNever, gUnp, gPar, gPar3, eVar, eC, elNil, elCons, eCall, gCall, eCB, gCB, vws_cons, vws_nil, c1, c2, eOp, opD, bOf, bAnd, bOr, bNeg, eAnd, eOr, eNot, eIf, eIs, isN, eIsi, D.ty, isTy, eChain, oLe, oLt, oGt, oGe, oEq, oNe, bNot, oAdd, oSub, fLen, fLenD, D.seq, eTup, gTupD, frzs, eLst, gLstD, allocL, eIx, oIx, fMin, take_self, R.bind, liftE, RS.seq, tName, tTupN, tNames, eMt, gMt, tyD, d_number_in, g_number_in, h1, e3, optD, eLc, dSigns, gSigns, fBls, D.lsts, g1, g2, h2, fStr, hm, hs, hL, h3', fIntT, hi, hl6, hg, h4]
    · have h3' : ((itx (m : Int)).length : Int) < (t.length : Int) := by omega
      have e3 : numIn t m = none := by unfold numIn; rw [if_neg fun q => h3 q.2.2.1]
      simp [callD, outR, retU, gSeq, gIf, gRet, gRetN, gSet, gExpr, VL.gNil, gNever, gUnp, gPar, gPar3, eVar, eC, elNil, elCons, eCall, gCall, eCB, gCB, vws_cons, vws_nil, c1, c2, eOp, opD, bOf, bAnd, bOr, bNeg, eAnd, eOr, eNot, eIf, eIs, isN, eIsi, D.ty, isTy, eChain, oLe, oLt, oGt, oGe, oEq, oNe, bNot, oAdd, oSub, fLen, fLenD, D.seq, eTup, gTupD, frzs, eLst, gLstD, allocL, eIx, oIx, fMin, take_self, R.bind, liftE, RS.seq, tName, tTupN, tNames, eMt, gMt, tyD, d_number_in, g_number_in, h1, e3, optD, eLc, dSigns, gSigns, fBls, D.lsts, g1, g2, h2, fStr, hm, hs, hL, h3']
/-! ### rows -/
def ROW : T := [114, 111, 119]
def WORD : T := [119, 111, 114, 100]
def WEI : T := [119, 101, 105, 103, 104, 116]
theorem atI_nat {α : Type} (l : List α) (k : Nat) : atI l (k : Int) = l[k]? := by
  unfold atI ixN
  rw [if_pos (by omega)]
  by_cases h : k < l.length
  · rw [if_pos (by omega)]
    rfl
  · rw [if_neg (by omega)]
    show none = _
    rw [List.getElem?_eq_none (by omega)]
theorem at0 {ws : List T} {a : T} {r : List T} (h : ws = a :: r) : atI (ws.map D.str) 0 = some (.str a) := by
  subst h
  exact atI_nat _ 0
theorem at1 {ws : List T} {a b : T} {r : List T} (h : ws = a :: b :: r) : atI (ws.map D.str) 1 = some (.str b) := by
  subst h
  exact atI_nat _ 1
theorem at2 {ws : List T} {a b c : T} {r : List T} (h : ws = a :: b :: c :: r) : atI (ws.map D.str) 2 = some (.str c) := by
  subst h
  exact atI_nat _ 2
def xcp (r e : Int) : List (T × D) := [(WORD, .int e), (ROW, .int r)]
theorem e_refuse (r a : Int) (ws : List D) (h : ¬ (ws.length : Int) < a) (τ : Store) : d_refuse [.d (.int r), .d (.lst ws), .d (.int a)] τ = .exc 0 (xcp r a) τ := by
  simp [callD, outR, retU, gSeq, gIf, gRet, gRetN, gSet, gExpr, VL.gNil, gNever, gUnp, gPar, gPar3, eVar, eC, elNil, elCons, eCall, gCall, eCB, gCB, vws_cons, vws_nil, c1, c2, eOp, opD, bOf, bAnd, bOr, bNeg, eAnd, eOr, eNot, eIf, eIs, isN, eIsi, D.ty, isTy, eChain, oLe, oLt, oGt, oGe, oEq, oNe, bNot, oAdd, oSub, fLen, fLenD, D.seq, eTup, gTupD, frzs, eLst, gLstD, allocL, eIx, oIx, fMin, take_self, R.bind, liftE, RS.seq, tName, tTupN, tNames, eMt, gMt, tyD, d_refuse, g_refuse, gRaise, xcp, ROW, WORD, h]
theorem e_size_ok (r : Int) (ws : List D) (a : Int) (h : (ws.length : Int) = a) (τ : Store) : d_need_size [.d (.int r), .d (.lst ws), .d (.int a)] τ = .ok (.d .non) τ := by
  simp [callD, outR, retU, gSeq, gIf, gRet, gRetN, gSet, gExpr, VL.gNil, gNever, gUnp, gPar, gPar3, eVar, eC, elNil, elCons, eCall, gCall, eCB, gCB, vws_cons, vws_nil, c1, c2, eOp, opD, bOf, bAnd, bOr, bNeg, eAnd, eOr, eNot, eIf, eIs, isN, eIsi, D.ty, isTy, eChain, oLe, oLt, oGt, oGe, oEq, oNe, bNot, oAdd, oSub, fLen, fLenD, D.seq, eTup, gTupD, frzs, eLst, gLstD, allocL, eIx, oIx, fMin, take_self, R.bind, liftE, RS.seq, tName, tTupN, tNames, eMt, gMt, tyD, d_need_size, g_need_size, h]
theorem e_size_no (r : Int) (ws : List D) (a : Int) (h : a < (ws.length : Int)) (τ : Store) : d_need_size [.d (.int r), .d (.lst ws), .d (.int a)] τ = .exc 0 (xcp r a) τ := by
  have h1 : ¬ (ws.length : Int) < a := by omega
  have h2 : ¬ (ws.length : Int) = a := by omega
  simp [callD, outR, retU, gSeq, gIf, gRet, gRetN, gSet, gExpr, VL.gNil, gNever, gUnp, gPar, gPar3, eVar, eC, elNil, elCons, eCall, gCall, eCB, gCB, vws_cons, vws_nil, c1, c2, eOp, opD, bOf, bAnd, bOr, bNeg, eAnd, eOr, eNot, eIf, eIs, isN, eIsi, D.ty, isTy, eChain, oLe, oLt, oGt, oGe, oEq, oNe, bNot, oAdd, oSub, fLen, fLenD, D.seq, eTup, gTupD, frzs, eLst, gLstD, allocL, eIx, oIx, fMin, take_self, R.bind, liftE, RS.seq, tName, tTupN, tNames, eMt, gMt, tyD, d_need_size, g_need_size, h2, e_refuse r a ws h1]
/-- a row of a weight, by its words -/
def rowW (ws : List T) (last : T) : Except Nat (T × Nat) := match ws with
  | _ :: b :: rest => if isOwn b = true ∧ last < b then (match rest with
    | c :: more => match numIn c 1000000000 with
      | some n => if more = [] then .ok (b, n) else .error 3
      | none => .error 2
    | [] => .error 2) else .error 1
  | _ => .error 1
def resW (r : Int) (τ : Store) : Except Nat (T × Nat) → R U
  | .ok (b, n) => .ok (.d (.tup [.str b, .int n])) τ
  | .error e => .exc 0 (xcp r e) τ
/-- all words are short -/
def Short (ws : List T) : Prop := ∀ w ∈ ws, w.length ≤ 100000
theorem e_weight_in (r : Int) (ws : List T) (last : T) (hne : ws ≠ []) (hs : Short ws) (τ : Store) : d_weight_in [.d (.int r), .d (.lst (ws.map .str)), .d (.str last)] τ = resW r τ (rowW ws last) := by
  have hx : ∀ a : Int, ¬ (ws.length : Int) < a → d_refuse [.d (.int r), .d (.lst (ws.map .str)), .d (.int a)] τ = .exc 0 (xcp r a) τ := fun a h => e_refuse r a _ (by rw [List.length_map]; exact h) τ
  have hy : (ws.length : Int) = 3 → d_need_size [.d (.int r), .d (.lst (ws.map .str)), .d (.int 3)] τ = .ok (.d .non) τ := fun h => e_size_ok r _ 3 (by rw [List.length_map]; exact h) τ
  have hz : 3 < (ws.length : Int) → d_need_size [.d (.int r), .d (.lst (ws.map .str)), .d (.int 3)] τ = .exc 0 (xcp r 3) τ := fun h => e_size_no r _ 3 (by rw [List.length_map]; exact h) τ
  rcases Nat.lt_or_ge ws.length 2 with l2 | l2
  · obtain ⟨a, hw⟩ : ∃ a, ws = [a] := by
      match ws, hne, l2 with
      | [a], _, _ => exact ⟨a, rfl⟩
    have l1 : ws.length = 1 := by rw [hw]; rfl
    have h1 := hx 1 (by omega)
    have e3 : rowW ws last = .error 1 := by rw [hw]; rfl
    have n2 : (ws.length : Int) < 2 := by omega
    rw [e3]
    simp [callD, outR, retU, gSeq, gIf, gRet, gRetN, gSet, gExpr, VL.gNil, gNever, gUnp, gPar, gPar3, eVar, eC, elNil, elCons, eCall, gCall, eCB, gCB, vws_cons, vws_nil, c1, c2, eOp, opD, bOf, bAnd, bOr, bNeg, eAnd, eOr, eNot, eIf, eIs, isN, eIsi, D.ty, isTy, eChain, oLe, oLt, oGt, oGe, oEq, oNe, bNot, oAdd, oSub, fLen, fLenD, D.seq, eTup, gTupD, frzs, eLst, gLstD, allocL, eIx, oIx, fMin, take_self, R.bind, liftE, RS.seq, tName, tTupN, tNames, eMt, gMt, tyD, d_weight_in, g_weight_in, h1, n2, resW]
  obtain ⟨a, b, rest, hw⟩ : ∃ a b rest, ws = a :: b :: rest := by
    match ws, l2 with
    | a :: b :: rest, _ => exact ⟨a, b, rest, rfl⟩
  have n2 : ¬ (ws.length : Int) < 2 := by omega
  have a1 := at1 hw
  have ho := e_own b (hs b (by rw [hw]; simp)) τ
  by_cases q : isOwn b = true ∧ last < b
  · obtain ⟨q1, q2⟩ := q
    rcases Nat.lt_or_ge ws.length 3 with l3 | l3
    · have : rest = [] := by
        rw [hw] at l3
        simp at l3
        exact List.length_eq_zero_iff.mp (by omega)
      have e3 : rowW ws last = .error 2 := by rw [hw, this]; simp [rowW, q1, q2]
      have n3 : (ws.length : Int) < 3 := by omega
      have h1 := hx 2 (by omega)
      rw [e3]
      simp [callD, outR, retU, gSeq, gIf, gRet, gRetN, gSet, gExpr, VL.gNil, gNever, gUnp, gPar, gPar3, eVar, eC, elNil, elCons, eCall, gCall, eCB, gCB, vws_cons, vws_nil, c1, c2, eOp, opD, bOf, bAnd, bOr, bNeg, eAnd, eOr, eNot, eIf, eIs, isN, eIsi, D.ty, isTy, eChain, oLe, oLt, oGt, oGe, oEq, oNe, bNot, oAdd, oSub, fLen, fLenD, D.seq, eTup, gTupD, frzs, eLst, gLstD, allocL, eIx, oIx, fMin, take_self, R.bind, liftE, RS.seq, tName, tTupN, tNames, eMt, gMt, tyD, d_weight_in, g_weight_in, n2, a1, ho, q1, q2, n3, h1, resW]
    · obtain ⟨c, more, hr⟩ : ∃ c more, rest = c :: more := by
        cases rest with
        | nil => rw [hw] at l3; simp at l3
        | cons c more => exact ⟨c, more, rfl⟩
      rw [hr] at hw
      have n3 : ¬ (ws.length : Int) < 3 := by omega
      have a2 := at2 hw
      have hc := hs c (by rw [hw]; simp)
      have hn : d_number_in [.d (.str c), .d (.int 1000000000)] τ = .ok (.d (optD (numIn c 1000000000))) τ := e_number (t := c) most9 hc τ
      cases e4 : numIn c 1000000000 with
      | none =>
        have e3 : rowW ws last = .error 2 := by rw [hw]; simp [rowW, q1, q2, e4]
        have h1 := hx 2 (by omega)
        rw [e3]
        rw [e4] at hn
        simp only [optD] at hn
        simp [callD, outR, retU, gSeq, gIf, gRet, gRetN, gSet, gExpr, VL.gNil, gNever, gUnp, gPar, gPar3, eVar, eC, elNil, elCons, eCall, gCall, eCB, gCB, vws_cons, vws_nil, c1, c2, eOp, opD, bOf, bAnd, bOr, bNeg, eAnd, eOr, eNot, eIf, eIs, isN, eIsi, D.ty, isTy, eChain, oLe, oLt, oGt, oGe, oEq, oNe, bNot, oAdd, oSub, fLen, fLenD, D.seq, eTup, gTupD, frzs, eLst, gLstD, allocL, eIx, oIx, fMin, take_self, R.bind, liftE, RS.seq, tName, tTupN, tNames, eMt, gMt, tyD, d_weight_in, g_weight_in, n2, a1, ho, q1, q2, n3, a2, hn, h1, resW]
      | some n =>
        rw [e4] at hn
        simp only [optD] at hn
        by_cases l4 : ws.length = 3
        · have hm : more = [] := by
            rw [hw] at l4
            simp at l4
            exact l4
          have e3 : rowW ws last = .ok (b, n) := by rw [hw]; simp [rowW, q1, q2, e4, hm]
          have h1 := hy (by omega)
          rw [e3]
          have hq := numIn_some e4
          have hi : PySem.intText? c.s = some (n : Int) ∧ c.length ≤ 640 := by
            unfold numIn at e4
            split at e4
            · rename_i qq
              have : n = digitsVal c := (Option.some.inj e4).symm
              subst this
              have hl : c.length ≤ 11 := by
                have := qq.2.2.1
                have := most9.len
                omega
              exact ⟨int_text qq.2.1 qq.1 (by omega), by omega⟩
            · cases e4
          have two : 2 ≤ sizeLine := by rw [sl_eq]; omega
          simp [callD, outR, retU, gSeq, gIf, gRet, gRetN, gSet, gExpr, VL.gNil, gNever, gUnp, gPar, gPar3, eVar, eC, elNil, elCons, eCall, gCall, eCB, gCB, vws_cons, vws_nil, c1, c2, eOp, opD, bOf, bAnd, bOr, bNeg, eAnd, eOr, eNot, eIf, eIs, isN, eIsi, D.ty, isTy, eChain, oLe, oLt, oGt, oGe, oEq, oNe, bNot, oAdd, oSub, fLen, fLenD, D.seq, eTup, gTupD, frzs, eLst, gLstD, allocL, eIx, oIx, fMin, take_self, R.bind, liftE, RS.seq, tName, tTupN, tNames, eMt, gMt, tyD, d_weight_in, g_weight_in, n2, a1, ho, q1, q2, n3, a2, hn, h1, resW, fIntT, hi.1, hi.2, two]
        · have hm : more ≠ [] := fun z => l4 (by rw [hw, z]; rfl)
          have e3 : rowW ws last = .error 3 := by rw [hw]; simp [rowW, q1, q2, e4, hm]
          have h1 := hz (by omega)
          rw [e3]
          simp [callD, outR, retU, gSeq, gIf, gRet, gRetN, gSet, gExpr, VL.gNil, gNever, gUnp, gPar, gPar3, eVar, eC, elNil, elCons, eCall, gCall, eCB, gCB, vws_cons, vws_nil, c1, c2, eOp, opD, bOf, bAnd, bOr, bNeg, eAnd, eOr, eNot, eIf, eIs, isN, eIsi, D.ty, isTy, eChain, oLe, oLt, oGt, oGe, oEq, oNe, bNot, oAdd, oSub, fLen, fLenD, D.seq, eTup, gTupD, frzs, eLst, gLstD, allocL, eIx, oIx, fMin, take_self, R.bind, liftE, RS.seq, tName, tTupN, tNames, eMt, gMt, tyD, d_weight_in, g_weight_in, n2, a1, ho, q1, q2, n3, a2, hn, h1, resW]
  · have e3 : rowW ws last = .error 1 := by rw [hw]; simp only [rowW]; rw [if_neg q]
    have h1 := hx 1 (by omega)
    rw [e3]
    cases q1 : isOwn b with
    | false =>
      rw [q1] at ho
      simp [callD, outR, retU, gSeq, gIf, gRet, gRetN, gSet, gExpr, VL.gNil, gNever, gUnp, gPar, gPar3, eVar, eC, elNil, elCons, eCall, gCall, eCB, gCB, vws_cons, vws_nil, c1, c2, eOp, opD, bOf, bAnd, bOr, bNeg, eAnd, eOr, eNot, eIf, eIs, isN, eIsi, D.ty, isTy, eChain, oLe, oLt, oGt, oGe, oEq, oNe, bNot, oAdd, oSub, fLen, fLenD, D.seq, eTup, gTupD, frzs, eLst, gLstD, allocL, eIx, oIx, fMin, take_self, R.bind, liftE, RS.seq, tName, tTupN, tNames, eMt, gMt, tyD, d_weight_in, g_weight_in, n2, a1, ho, h1, resW]
    | true =>
      rw [q1] at ho
      have q2 : ¬ last < b := fun z => q ⟨q1, z⟩
      simp [callD, outR, retU, gSeq, gIf, gRet, gRetN, gSet, gExpr, VL.gNil, gNever, gUnp, gPar, gPar3, eVar, eC, elNil, elCons, eCall, gCall, eCB, gCB, vws_cons, vws_nil, c1, c2, eOp, opD, bOf, bAnd, bOr, bNeg, eAnd, eOr, eNot, eIf, eIs, isN, eIsi, D.ty, isTy, eChain, oLe, oLt, oGt, oGe, oEq, oNe, bNot, oAdd, oSub, fLen, fLenD, D.seq, eTup, gTupD, frzs, eLst, gLstD, allocL, eIx, oIx, fMin, take_self, R.bind, liftE, RS.seq, tName, tTupN, tNames, eMt, gMt, tyD, d_weight_in, g_weight_in, n2, a1, ho, q2, h1, resW]
/-! ### a row of a cap -/
def capWs (ws : List T) (title : T) : Except Nat (Option Nat) := match ws with
  | a :: r => if a = title then (match r with
    | b :: more => if b = [45] then (if more = [] then .ok none else .error 2) else (match numIn b 10000000000 with
      | some n => if more = [] then .ok (some n) else .error 2
      | none => .error 1)
    | [] => .error 1) else .error 0
  | [] => .error 0
def wordsAt (rows : List T) (i : Nat) : List T := match rows[i]? with
  | some r => sp 32 r
  | none => [[]]
def resC (r : Int) (τ : Store) : Except Nat (Option Nat) → R U
  | .ok o => .ok (.d (optD o)) τ
  | .error e => .exc 0 (xcp r e) τ
theorem short_sp {r : T} (h : r.length ≤ 100000) (b : Nat) : Short (sp b r) := fun w m => by
  have := tot_mem m
  rw [tot_sp] at this
  omega
theorem num_len {c : T} {m k n : Nat} (M : Most m k) (e : numIn c m = some n) : PySem.intText? c.s = some (n : Int) ∧ c.length ≤ 640 := by
  unfold numIn at e
  split at e
  · rename_i q
    have : n = digitsVal c := (Option.some.inj e).symm
    subst this
    have hl : c.length ≤ 11 := by
      have := q.2.2.1
      have := M.len
      have := M.k
      omega
    exact ⟨int_text q.2.1 q.1 (by omega), by omega⟩
  · cases e
theorem e_cap_in (rows : List T) (i : Nat) (title : T) (hs : Short rows) (ht : title ≠ []) (τ : Store) : d_cap_in [.d (.lst (rows.map .str)), .d (.int i), .d (.str title)] τ = resC i τ (capWs (wordsAt rows i) title) := by
  rcases Nat.lt_or_ge i rows.length with hi | hi
  · have hi' : (i : Int) < (rows.length : Int) := by omega
    have hg : rows[i]? = some rows[i] := List.getElem?_eq_getElem hi
    have hw : wordsAt rows i = sp 32 rows[i] := by unfold wordsAt; rw [hg]
    have hr := hs rows[i] (List.getElem_mem hi)
    have ha : atI (rows.map D.str) (i : Int) = some (.str rows[i]) := by rw [atI_nat, List.getElem?_map, hg]; rfl
    rw [hw]
    have hsw := short_sp hr 32
    have hne : sp 32 rows[i] ≠ [] := spl_ne 32 rows[i] []
    have hr2 : rows[i].length + 2 ≤ sizeLine := by rw [sl_eq]; omega
    generalize rows[i] = r at ha hr2 hsw hne
    obtain ⟨ws, hW⟩ : ∃ ws, TL.spl [32] 0 [] r = ws := ⟨_, rfl⟩
    have hW' : sp 32 r = ws := hW
    rw [hW'] at hsw hne
    rw [hW']
    have hx : ∀ a : Int, ¬ (ws.length : Int) < a → d_refuse [.d (.int i), .d (.lst (ws.map .str)), .d (.int a)] τ = .exc 0 (xcp i a) τ := fun a h => e_refuse i a _ (by rw [List.length_map]; exact h) τ
    have hy : (ws.length : Int) = 2 → d_need_size [.d (.int i), .d (.lst (ws.map .str)), .d (.int 2)] τ = .ok (.d .non) τ := fun h => e_size_ok i _ 2 (by rw [List.length_map]; exact h) τ
    have hz : 2 < (ws.length : Int) → d_need_size [.d (.int i), .d (.lst (ws.map .str)), .d (.int 2)] τ = .exc 0 (xcp i 2) τ := fun h => e_size_no i _ 2 (by rw [List.length_map]; exact h) τ
    obtain ⟨a, r1, e0⟩ : ∃ a r1, ws = a :: r1 := by
      cases ws with
      | nil => exact absurd rfl hne
      | cons a r1 => exact ⟨a, r1, rfl⟩
    have a0 := at0 e0
    by_cases h0 : a = title
    · cases r1 with
      | nil =>
        have l1 : ws.length = 1 := by rw [e0]; rfl
        have n2 : (ws.length : Int) < 2 := by omega
        have h1 := hx 1 (by omega)
        have e3 : capWs ws title = .error 1 := by rw [e0]; simp [capWs, h0]
        rw [e3]
        simp [callD, outR, retU, gSeq, gIf, gRet, gRetN, gSet, gExpr, VL.gNil, gNever, gUnp, gPar, gPar3, eVar, eC, elNil, elCons, eCall, gCall, eCB, gCB, vws_cons, vws_nil, c1, c2, eOp, opD, bOf, bAnd, bOr, bNeg, eAnd, eOr, eNot, eIf, eIs, isN, eIsi, D.ty, isTy, eChain, oLe, oLt, oGt, oGe, oEq, oNe, bNot, oAdd, oSub, fLen, fLenD, D.seq, eTup, gTupD, frzs, eLst, gLstD, allocL, eIx, oIx, fMin, take_self, R.bind, liftE, RS.seq, tName, tTupN, tNames, eMt, gMt, tyD, d_cap_in, g_cap_in, hi', ha, mSplit, hr2, hW, a0, h0, n2, h1, resC]
      | cons b more =>
        have l2 : 2 ≤ ws.length := by rw [e0]; simp
        have n2 : ¬ (ws.length : Int) < 2 := by omega
        have a1 := at1 e0
        have hb := hsw b (by rw [e0]; simp)
        by_cases hd : b = [45]
        · by_cases hm : more = []
          · have e3 : capWs ws title = .ok none := by rw [e0]; simp [capWs, h0, hd, hm]
            have h1 := hy (by rw [e0, hm]; rfl)
            rw [e3]
            simp [callD, outR, retU, gSeq, gIf, gRet, gRetN, gSet, gExpr, VL.gNil, gNever, gUnp, gPar, gPar3, eVar, eC, elNil, elCons, eCall, gCall, eCB, gCB, vws_cons, vws_nil, c1, c2, eOp, opD, bOf, bAnd, bOr, bNeg, eAnd, eOr, eNot, eIf, eIs, isN, eIsi, D.ty, isTy, eChain, oLe, oLt, oGt, oGe, oEq, oNe, bNot, oAdd, oSub, fLen, fLenD, D.seq, eTup, gTupD, frzs, eLst, gLstD, allocL, eIx, oIx, fMin, take_self, R.bind, liftE, RS.seq, tName, tTupN, tNames, eMt, gMt, tyD, d_cap_in, g_cap_in, hi', ha, mSplit, hr2, hW, a0, h0, n2, a1, hd, h1, resC, optD]
          · have e3 : capWs ws title = .error 2 := by rw [e0]; simp [capWs, h0, hd, hm]
            have h1 := hz (by
              have : more.length ≠ 0 := fun z => hm (List.length_eq_zero_iff.mp z)
              rw [e0]; simp; omega)
            rw [e3]
            simp [callD, outR, retU, gSeq, gIf, gRet, gRetN, gSet, gExpr, VL.gNil, gNever, gUnp, gPar, gPar3, eVar, eC, elNil, elCons, eCall, gCall, eCB, gCB, vws_cons, vws_nil, c1, c2, eOp, opD, bOf, bAnd, bOr, bNeg, eAnd, eOr, eNot, eIf, eIs, isN, eIsi, D.ty, isTy, eChain, oLe, oLt, oGt, oGe, oEq, oNe, bNot, oAdd, oSub, fLen, fLenD, D.seq, eTup, gTupD, frzs, eLst, gLstD, allocL, eIx, oIx, fMin, take_self, R.bind, liftE, RS.seq, tName, tTupN, tNames, eMt, gMt, tyD, d_cap_in, g_cap_in, hi', ha, mSplit, hr2, hW, a0, h0, n2, a1, hd, h1, resC]
        · have hn : d_number_in [.d (.str b), .d (.int 10000000000)] τ = .ok (.d (optD (numIn b 10000000000))) τ := e_number (t := b) most10 hb τ
          cases e4 : numIn b 10000000000 with
          | none =>
            have e3 : capWs ws title = .error 1 := by rw [e0]; simp [capWs, h0, hd, e4]
            have h1 := hx 1 (by omega)
            rw [e3]
            rw [e4] at hn
            simp only [optD] at hn
            simp [callD, outR, retU, gSeq, gIf, gRet, gRetN, gSet, gExpr, VL.gNil, gNever, gUnp, gPar, gPar3, eVar, eC, elNil, elCons, eCall, gCall, eCB, gCB, vws_cons, vws_nil, c1, c2, eOp, opD, bOf, bAnd, bOr, bNeg, eAnd, eOr, eNot, eIf, eIs, isN, eIsi, D.ty, isTy, eChain, oLe, oLt, oGt, oGe, oEq, oNe, bNot, oAdd, oSub, fLen, fLenD, D.seq, eTup, gTupD, frzs, eLst, gLstD, allocL, eIx, oIx, fMin, take_self, R.bind, liftE, RS.seq, tName, tTupN, tNames, eMt, gMt, tyD, d_cap_in, g_cap_in, hi', ha, mSplit, hr2, hW, a0, h0, n2, a1, hd, hn, h1, resC]
          | some n =>
            have hq := num_len most10 e4
            rw [e4] at hn
            simp only [optD] at hn
            by_cases hm : more = []
            · have e3 : capWs ws title = .ok (some n) := by rw [e0]; simp [capWs, h0, hd, e4, hm]
              have h1 := hy (by rw [e0, hm]; rfl)
              rw [e3]
              simp [callD, outR, retU, gSeq, gIf, gRet, gRetN, gSet, gExpr, VL.gNil, gNever, gUnp, gPar, gPar3, eVar, eC, elNil, elCons, eCall, gCall, eCB, gCB, vws_cons, vws_nil, c1, c2, eOp, opD, bOf, bAnd, bOr, bNeg, eAnd, eOr, eNot, eIf, eIs, isN, eIsi, D.ty, isTy, eChain, oLe, oLt, oGt, oGe, oEq, oNe, bNot, oAdd, oSub, fLen, fLenD, D.seq, eTup, gTupD, frzs, eLst, gLstD, allocL, eIx, oIx, fMin, take_self, R.bind, liftE, RS.seq, tName, tTupN, tNames, eMt, gMt, tyD, d_cap_in, g_cap_in, hi', ha, mSplit, hr2, hW, a0, h0, n2, a1, hd, hn, h1, resC, optD, fIntT, hq.1, hq.2]
            · have e3 : capWs ws title = .error 2 := by rw [e0]; simp [capWs, h0, hd, e4, hm]
              have h1 := hz (by
                have : more.length ≠ 0 := fun z => hm (List.length_eq_zero_iff.mp z)
                rw [e0]; simp; omega)
              rw [e3]
              simp [callD, outR, retU, gSeq, gIf, gRet, gRetN, gSet, gExpr, VL.gNil, gNever, gUnp, gPar, gPar3, eVar, eC, elNil, elCons, eCall, gCall, eCB, gCB, vws_cons, vws_nil, c1, c2, eOp, opD, bOf, bAnd, bOr, bNeg, eAnd, eOr, eNot, eIf, eIs, isN, eIsi, D.ty, isTy, eChain, oLe, oLt, oGt, oGe, oEq, oNe, bNot, oAdd, oSub, fLen, fLenD, D.seq, eTup, gTupD, frzs, eLst, gLstD, allocL, eIx, oIx, fMin, take_self, R.bind, liftE, RS.seq, tName, tTupN, tNames, eMt, gMt, tyD, d_cap_in, g_cap_in, hi', ha, mSplit, hr2, hW, a0, h0, n2, a1, hd, hn, h1, resC]
    · have e3 : capWs ws title = .error 0 := by rw [e0]; simp [capWs, h0]
      have h1 := hx 0 (by omega)
      rw [e3]
      simp [callD, outR, retU, gSeq, gIf, gRet, gRetN, gSet, gExpr, VL.gNil, gNever, gUnp, gPar, gPar3, eVar, eC, elNil, elCons, eCall, gCall, eCB, gCB, vws_cons, vws_nil, c1, c2, eOp, opD, bOf, bAnd, bOr, bNeg, eAnd, eOr, eNot, eIf, eIs, isN, eIsi, D.ty, isTy, eChain, oLe, oLt, oGt, oGe, oEq, oNe, bNot, oAdd, oSub, fLen, fLenD, D.seq, eTup, gTupD, frzs, eLst, gLstD, allocL, eIx, oIx, fMin, take_self, R.bind, liftE, RS.seq, tName, tTupN, tNames, eMt, gMt, tyD, d_cap_in, g_cap_in, hi', ha, mSplit, hr2, hW, a0, h0, h1, resC]
  · have hi' : ¬ (i : Int) < (rows.length : Int) := by omega
    have hw : wordsAt rows i = [[]] := by unfold wordsAt; rw [List.getElem?_eq_none hi]
    have ht' : ¬ ([] : T) = title := fun z => ht z.symm
    have e3 : capWs (wordsAt rows i) title = .error 0 := by rw [hw]; simp [capWs, ht']
    have h1 := e_refuse i 0 [D.str []] (by simp) τ
    have h2 : atI [D.str []] 0 = some (.str []) := at0 (ws := [[]]) rfl
    have h3 : 1 ≤ sizeLine := by rw [sl_eq]; omega
    rw [e3]
    simp [callD, outR, retU, gSeq, gIf, gRet, gRetN, gSet, gExpr, VL.gNil, gNever, gUnp, gPar, gPar3, eVar, eC, elNil, elCons, eCall, gCall, eCB, gCB, vws_cons, vws_nil, c1, c2, eOp, opD, bOf, bAnd, bOr, bNeg, eAnd, eOr, eNot, eIf, eIs, isN, eIsi, D.ty, isTy, eChain, oLe, oLt, oGt, oGe, oEq, oNe, bNot, oAdd, oSub, fLen, fLenD, D.seq, eTup, gTupD, frzs, eLst, gLstD, allocL, eIx, oIx, fMin, take_self, R.bind, liftE, RS.seq, tName, tTupN, tNames, eMt, gMt, tyD, d_cap_in, g_cap_in, hi', h2, h3, ht', h1, resC]
end K82

/-! k82: the ledger: made, shown, compared. -/
namespace K82
open PySem PySem.Spec PySem.NumText PyProof.Rows L2 LamX VL
def ENT : T := [101, 110, 116, 114, 105, 101, 115]
def LIM : T := [108, 105, 109, 105, 116, 115]
abbrev WS := List (T × Nat)
def kv (p : T × Nat) : Ky × D := (.inr p.1, .int p.2)
def kk (p : T × Nat) : List Ky := [.inr p.1, .inl p.2]
def rowD (p : T × Nat) : D := .tup [.str p.1, .int p.2]
theorem kk_row (p : T × Nat) : D.tup ((kk p).map Ky.d) = rowD p := rfl
theorem itKs_kv : ∀ ws : WS, itKs (ws.map kv) = some (ws.map kk)
  | [] => rfl
  | p :: ws => by
    show (match (some (Sum.inl (p.2 : Int)) : Option Ky), itKs (ws.map kv) with
      | some y, some ks => some ([(Sum.inr p.1 : Ky), y] :: ks)
      | _, _ => none) = _
    rw [itKs_kv ws]
    rfl
/-- the weights in order -/
def Asc (ws : WS) : Prop := ws.Pairwise fun a b => a.1 < b.1
theorem kk_lt {a b : T × Nat} (h : a.1 < b.1) : kk a < kk b := by
  have h1 : (Sum.inr a.1 : Ky) < Sum.inr b.1 := h
  exact List.Lex.rel h1
theorem srt_kk {ws vs : WS} (p : vs.Perm ws) (h : Asc vs) : srt (ws.map kk) = vs.map kk := by
  refine (srt_uniq (p.map kk) ?_).symm
  exact List.pairwise_map.mpr (h.imp fun hab => Lin.ns (kk_lt hab))
structure VOk (ws : WS) : Prop where
  few : ws.length ≤ 8
  own : ∀ p ∈ ws, isOwn p.1 = true ∧ p.2 ≤ 1000000000
theorem VOk.w {ws : WS} (h : VOk ws) : WOk (ws.map kv) := ⟨by rw [List.length_map]; exact h.few, fun p m => by
  obtain ⟨q, hq, rfl⟩ := List.mem_map.mp m
  obtain ⟨h1, h2⟩ := h.own q hq
  exact ⟨q.1, q.2, rfl, h1, by omega, by omega⟩⟩
def capOk : Option Nat → Prop
  | none => True
  | some n => n ≤ 10000000000
theorem e_cap {a : Option Nat} (h : capOk a) (τ : Store) : d_is_cap [.d (optD a)] τ = .ok (.d (.bl true)) τ := by
  cases a with
  | none => exact e_cap_non τ
  | some n =>
    have h : n ≤ 10000000000 := h
    have := e_cap_int (n : Int) τ
    rw [decide_eq_true (by omega)] at this
    exact this
def led (ws : WS) (a b : Option Nat) : D := .ins 1 [(ENT, .tup (ws.map rowD)), (LIM, .tup [optD a, optD b])]
theorem set_last {α : Type} (l : List α) (x y : α) : (l ++ [x]).set l.length y = l ++ [y] := by
  rw [List.set_append_right _ _ (Nat.le_refl _)]
  simp
theorem get_last {α : Type} (l : List α) (x : α) : (l ++ [x])[l.length]? = some x := by simp
theorem e_init {ws vs : WS} (H : VOk ws) (p : vs.Perm ws) (hv : Asc vs) {a b : Option Nat} (ha : capOk a) (hb : capOk b) (τ : Store) :
    d_Ledger___init__ [.loc τ.length, .d (.dct (ws.map kv)), .d (optD a), .d (optD b)] (τ ++ [.ins 1 []]) = .ok (.d .non) (τ ++ [.ins 1 [(ENT, .tup (vs.map rowD)), (LIM, .tup [optD a, optD b])]]) := by
  have h1 := e_weights H.w (τ ++ [.ins 1 []])
  have h2 := e_cap ha (τ ++ [.ins 1 []])
  have h3 := e_cap hb (τ ++ [.ins 1 []])
  have hl : (ws.map kv).length ≤ sizeLine := by rw [sl_eq, List.length_map]; have := H.few; omega
  have hall : ((ws.map kk).all fun k => form k == [false, true]) = true := by
    rw [List.all_map]
    exact List.all_eq_true.mpr fun q _ => rfl
  have hs : fSortIt false [false, true] (ws.map kv) (τ ++ [.ins 1 []]) = .ok (.d (.lst (vs.map rowD))) (τ ++ [.ins 1 []]) := by
    unfold fSortIt
    rw [itKs_kv]
    simp only
    rw [if_pos ⟨hl, hall⟩, srt_kk p hv, List.map_map]
    rfl
  have two : 2 ≤ sizeLine := by rw [sl_eq]; omega
  generalize hkv : ws.map kv = kvs at h1 hs
  unfold ENT LIM
  simp [callD, outR, retU, gSeq, gIf, gRet, gRetN, gSet, gExpr, VL.gNil, gNever, gUnp, gPar, gPar3, eVar, eC, elNil, elCons, eCall, gCall, eCB, gCB, vws_cons, vws_nil, c1, c2, eOp, opD, bOf, bAnd, bOr, bNeg, eAnd, eOr, eNot, eIf, eIs, isN, eIsi, D.ty, isTy, eChain, oLe, oLt, oGt, oGe, oEq, oNe, bNot, oAdd, oSub, fLen, fLenD, D.seq, eTup, gTupD, frzs, eLst, gLstD, allocL, eIx, oIx, fMin, take_self, R.bind, liftE, RS.seq, tName, tTupN, tNames, eMt, gMt, tyD, d_Ledger___init__, g_Ledger___init__, h1, h2, h3, eSortIt, hs, fTuple, D.lsts, gSetF, fldAt, frz, get_last, set_last, fput, two]
  exact List.take_of_length_le (by simp)
theorem e_make {ws vs : WS} (H : VOk ws) (p : vs.Perm ws) (hv : Asc vs) {a b : Option Nat} (ha : capOk a) (hb : capOk b) (τ : Store) :
    gMake 1 d_Ledger___init__ [0, 1, 2, 3] [.d (.dct (ws.map kv))] [.d (optD a), .d (optD b)] τ = .ok (.d (led vs a b)) τ := by
  have h := e_init H p hv ha hb τ
  have hp : pickL [0, 1, 2, 3] ((.loc τ.length :: [U.d (.dct (ws.map kv))]) ++ [.d (optD a), .d (optD b)]) = [.loc τ.length, .d (.dct (ws.map kv)), .d (optD a), .d (optD b)] := rfl
  unfold gMake
  rw [hp, h]
  simp only [get_last]
  rw [List.take_left]
  rfl
/-! ### shown -/
def WEI_ : T := [119, 101, 105, 103, 104, 116, 32]
def LOA_ : T := [108, 111, 97, 100, 32]
def RUS_ : T := [114, 117, 115, 104, 32]
def lineW (p : T × Nat) : T := ((WEI_ ++ p.1) ++ [32]) ++ itx p.2
def capT : Option Nat → T
  | none => [45]
  | some n => itx n
def rowsOf (ws : WS) (a b : Option Nat) : List T := ws.map lineW ++ [LOA_ ++ capT a, RUS_ ++ capT b]
def textOf (ws : WS) (a b : Option Nat) : T := TL.joinL [10] (rowsOf ws a b)
theorem itx_small {n : Nat} (h : n ≤ 10000000000) : (itx (n : Int)).length ≤ 11 := plain_len (k := 10) (itx_plain n) (by rw [itx_val]; omega)
theorem lineW_len {p : T × Nat} (h1 : isOwn p.1 = true) (h2 : p.2 ≤ 1000000000) : (lineW p).length ≤ 40 := by
  have := isOwn_len h1
  have := itx_small (n := p.2) (by omega)
  unfold lineW WEI_
  simp
  omega
theorem capT_len {a : Option Nat} (h : capOk a) : (capT a).length ≤ 11 := by
  cases a with
  | none => decide
  | some n => exact itx_small h
theorem rows_tot {ws : WS} (H : VOk ws) {a b : Option Nat} (ha : capOk a) (hb : capOk b) : tot (rowsOf ws a b) ≤ 400 := by
  have h1 : ∀ l : WS, (∀ p ∈ l, isOwn p.1 = true ∧ p.2 ≤ 1000000000) → tot (l.map lineW) ≤ 41 * l.length := fun l => by
    induction l with
    | nil => intro _; simp [tot]
    | cons p l ih =>
      intro h
      have := ih fun q m => h q (List.mem_cons_of_mem _ m)
      have := lineW_len (h p List.mem_cons_self).1 (h p List.mem_cons_self).2
      rw [List.map_cons, tot_cons, List.length_cons]
      omega
  have h2 := h1 ws H.own
  have h3 := H.few
  have h4 := capT_len ha
  have h5 := capT_len hb
  unfold rowsOf
  rw [tot_app, tot_cons, tot_cons]
  simp [tot, LOA_, RUS_] at *
  omega
theorem text_len {ws : WS} (H : VOk ws) {a b : Option Nat} (ha : capOk a) (hb : capOk b) : (textOf ws a b).length ≤ 400 := Nat.le_trans (joinL_len _ _) (rows_tot H ha hb)
/-! ### str(x) -/
theorem e_fmt_str {t : T} (h : t.length ≤ 100000) (τ : Store) : gFmt (.d (.str t)) τ = .ok (.d (.str t)) τ := by
  unfold gFmt
  simp only
  rw [if_pos (by rw [sl_eq]; omega)]
theorem e_fmt_int {n : Nat} (h : n ≤ 10000000000) (τ : Store) : gFmt (.d (.int n)) τ = .ok (.d (.str (itx n))) τ := by
  unfold gFmt
  simp only
  rw [if_pos (by rw [Int.natAbs_natCast]; exact log_ok (by omega))]
theorem e_str {ws : WS} (H : VOk ws) {a b : Option Nat} (ha : capOk a) (hb : capOk b) (τ : Store) : d_Ledger___str__ [.d (led ws a b)] τ = .ok (.d (.str (textOf ws a b))) τ := by
  have go1 : ∀ ρ : VL.Env, 6 < ρ.length → compGo (tTupN [5, 6]) bYes (eJs [(eC (.str [119, 101, 105, 103, 104, 116, 32])), (eFmt (eVar 5)), (eC (.str [32])), (eFmt (eVar 6))]) ρ (ws.map rowD) τ [] = .ok ([] ++ (ws.map rowD).map fun d => match d with
      | .tup [.str t, .int n] => .str (((WEI_ ++ t) ++ [32]) ++ itx n)
      | _ => .non) τ := fun ρ hρ => by
    refine compGo_all _ [] (fun x m => ?_) (by rw [sl_eq]; simp; have := H.few; omega)
    obtain ⟨p, hp, rfl⟩ := List.mem_map.mp m
    obtain ⟨h1, h2⟩ := H.own p hp
    have l1 := isOwn_len h1
    have l2 := itx_small (n := p.2) (by omega)
    refine ⟨_, rfl, ?_⟩
    have i5 : ((ρ.set 5 (some (.d (.str p.1)))).set 6 (some (.d (.int p.2))))[5]? = some (some (.d (.str p.1))) := by
      rw [List.getElem?_set_ne (by decide), List.getElem?_set_self (by omega)]
    have i6 : ((ρ.set 5 (some (.d (.str p.1)))).set 6 (some (.d (.int p.2))))[6]? = some (some (.d (.int p.2))) := List.getElem?_set_self (by simpa using hρ)
    have f1 := e_fmt_str (t := p.1) (by omega) τ
    have f2 := e_fmt_int (n := p.2) (by omega) τ
    have z1 : p.1.length + 1 + 1 + 1 + 1 + 1 + 1 + 1 ≤ sizeLine := by rw [sl_eq]; omega
    have z2 : p.1.length + 1 + 1 + 1 + 1 + 1 + 1 + 1 + 1 ≤ sizeLine := by rw [sl_eq]; omega
    have z3 : p.1.length + ((itx (p.2 : Int)).length + 1) + 1 + 1 + 1 + 1 + 1 + 1 + 1 ≤ sizeLine := by rw [sl_eq]; omega
    have z0 : 7 ≤ sizeLine := by rw [sl_eq]; omega
    show (eJs _) ((ρ.set 5 (some (.d (.str p.1)))).set 6 (some (.d (.int p.2)))) τ = _
    have st : ∀ t : T, t.length ≤ 100 → (if t.length ≤ sizeLine then (1 : Nat) else 0) = 1 := fun t h => if_pos (by rw [sl_eq]; omega)
    simp only [eJs, jsGo, eC, eFmt, eVar, i5, i6, R.bind_ok, f1, f2, List.nil_append]
    rw [if_pos (by rw [sl_eq]; simp), if_pos (by rw [sl_eq]; simp; omega), if_pos (by rw [sl_eq]; simp; omega), if_pos (by rw [sl_eq]; simp; omega)]
    rfl
  have e1 : ((ws.map rowD).map fun d => match d with
      | .tup [.str t, .int n] => .str (((WEI_ ++ t) ++ [32]) ++ itx n)
      | _ => D.non) = (ws.map lineW).map D.str := by
    rw [List.map_map, List.map_map]
    rfl
  have go2 : ∀ ρ : VL.Env, 4 < ρ.length → compGo (tName 4) bYes (eIf (bOf (eIs false (eVar 4))) (eC (.str [45])) (eCB (c1 fStr) (elCons (eVar 4) elNil))) ρ [optD a, optD b] τ [] = .ok ([] ++ [optD a, optD b].map fun d => match d with
      | .int n => .str (itx n)
      | _ => .str [45]) τ := fun ρ hρ => by
    refine compGo_all _ [] (fun x m => ?_) (by rw [sl_eq]; simp)
    obtain ⟨c, hc, rfl⟩ : ∃ c, capOk c ∧ x = optD c := by
      simp only [List.mem_cons, List.not_mem_nil, or_false] at m
      rcases m with rfl | rfl
      · exact ⟨a, ha, rfl⟩
      · exact ⟨b, hb, rfl⟩
    refine ⟨_, rfl, ?_⟩
    have i4 : (ρ.set 4 (some (.d (optD c))))[4]? = some (some (.d (optD c))) := List.getElem?_set_self hρ
    cases c with
    | none => simp [callD, outR, retU, gSeq, gIf, gRet, gRetN, gSet, gExpr, VL.gNil, gNever, gUnp, gPar, gPar3, eVar, eC, elNil, elCons, eCall, gCall, eCB, gCB, vws_cons, vws_nil, c1, c2, eOp, opD, bOf, bAnd, bOr, bNeg, eAnd, eOr, eNot, eIf, eIs, isN, eIsi, D.ty, isTy, eChain, oLe, oLt, oGt, oGe, oEq, oNe, bNot, oAdd, oSub, fLen, fLenD, D.seq, eTup, gTupD, frzs, eLst, gLstD, allocL, eIx, oIx, fMin, take_self, R.bind, liftE, RS.seq, tName, tTupN, tNames, eMt, gMt, tyD, hρ, optD]
    | some n =>
      have hc : n ≤ 10000000000 := hc
      have hl : n.log2 < 1920 := log_ok (by omega)
      simp [callD, outR, retU, gSeq, gIf, gRet, gRetN, gSet, gExpr, VL.gNil, gNever, gUnp, gPar, gPar3, eVar, eC, elNil, elCons, eCall, gCall, eCB, gCB, vws_cons, vws_nil, c1, c2, eOp, opD, bOf, bAnd, bOr, bNeg, eAnd, eOr, eNot, eIf, eIs, isN, eIsi, D.ty, isTy, eChain, oLe, oLt, oGt, oGe, oEq, oNe, bNot, oAdd, oSub, fLen, fLenD, D.seq, eTup, gTupD, frzs, eLst, gLstD, allocL, eIx, oIx, fMin, take_self, R.bind, liftE, RS.seq, tName, tTupN, tNames, eMt, gMt, tyD, hρ, optD, fStr, hl]
  have e2 : [optD a, optD b].map (fun d => match d with
      | .int n => D.str (itx n)
      | _ => .str [45]) = [.str (capT a), .str (capT b)] := by
    cases a <;> cases b <;> rfl
  have la := capT_len ha
  have lb := capT_len hb
  have fa := e_fmt_str (t := capT a) (by omega) τ
  have fb := e_fmt_str (t := capT b) (by omega) τ
  have g1 := go1 (wipeE [some (.d (led ws a b)), none, none, none, none, none, none] [5, 6]) (by simp [wipeE])
  rw [e1] at g1
  have g2 := go2 (wipeE [some (.d (led ws a b)), some (.d (.lst ((ws.map lineW).map D.str))), none, none, none, none, none] [4]) (by simp [wipeE])
  rw [e2] at g2
  have hE : gFld 1 [101, 110, 116, 114, 105, 101, 115] (.d (led ws a b)) τ = .ok (.d (.tup (ws.map rowD))) τ := rfl
  have hL : gFld 1 [108, 105, 109, 105, 116, 115] (.d (led ws a b)) τ = .ok (.d (.tup [optD a, optD b])) τ := rfl
  have hj : ∀ (w t : T) (i : Nat) (ρ : VL.Env), w.length ≤ 100 → t.length ≤ 100 → ρ[i]? = some (some (.d (.str t))) → eJs [(eC (.str w)), (eFmt (eVar i))] ρ τ = .ok (.d (.str (w ++ t))) τ := fun w t i ρ hw ht hi => by
    simp only [eJs, jsGo, eC, eFmt, eVar, hi, R.bind_ok, e_fmt_str (t := t) (by omega) τ, List.nil_append]
    rw [if_pos (by rw [sl_eq]; omega), if_pos (by rw [sl_eq]; simp; omega)]
  have tt := rows_tot H ha hb
  have ef : frzs τ (((ws.map lineW).map D.str).map U.d ++ [.d (.str (LOA_ ++ capT a)), .d (.str (RUS_ ++ capT b))]) = some ((rowsOf ws a b).map D.str, τ) := by
    have : ((ws.map lineW).map D.str).map U.d ++ [.d (.str (LOA_ ++ capT a)), .d (.str (RUS_ ++ capT b))] = ((rowsOf ws a b).map D.str).map U.d := by simp [rowsOf]
    rw [this]
    exact frzs_d τ _
  have hr : ((rowsOf ws a b).map D.str).length ≤ sizeLine := by
    have := tot_len (rowsOf ws a b)
    rw [sl_eq, List.length_map]
    omega
  have hm : mJoin (.str [10]) [.lst ((rowsOf ws a b).map D.str)] τ = .ok (.d (.str (textOf ws a b))) τ := by
    unfold mJoin
    simp only [D.seq, strsOf_map]
    rw [if_pos (by
      have e : tot (rowsOf ws a b) = ((rowsOf ws a b).map (·.length)).sum + (rowsOf ws a b).length := rfl
      simp only [List.length_singleton, Nat.mul_one]
      omega)]
    rfl
  have la' : (capT a).length ≤ 100 := by omega
  have lb' : (capT b).length ≤ 100 := by omega
  have j1 := hj LOA_ (capT a) 2
  have j2 := hj RUS_ (capT b) 3
  unfold LOA_ at j1 ef
  unfold RUS_ at j2 ef
  simp only [List.cons_append, List.nil_append] at j1 j2 ef
  generalize (ws.map lineW).map D.str = ls at g1 g2 ef
  generalize (rowsOf ws a b).map D.str = rs at ef hr hm
  generalize led ws a b = dl at g1 g2 hE hL
  generalize ws.map rowD = dr at g1 hE
  simp [callD, outR, retU, gSeq, gIf, gRet, gRetN, gSet, gExpr, VL.gNil, gNever, gUnp, gPar, gPar3, eVar, eC, elNil, elCons, eCall, gCall, eCB, gCB, vws_cons, vws_nil, c1, c2, eOp, opD, bOf, bAnd, bOr, bNeg, eAnd, eOr, eNot, eIf, eIs, isN, eIsi, D.ty, isTy, eChain, oLe, oLt, oGt, oGe, oEq, oNe, bNot, oAdd, oSub, fLen, fLenD, D.seq, eTup, gTupD, frzs, eLst, gLstD, allocL, eIx, oIx, fMin, take_self, R.bind, liftE, RS.seq, tName, tTupN, tNames, eMt, gMt, tyD, d_Ledger___str__, g_Ledger___str__, eLc, dTup, eFld, hE, hL, gItT, g1, g2, tLstN, elStar, j1, j2, la', lb', ef, hr, hm]
end K82

/-! k82: the ledger compared, read. -/
namespace K82
open PySem PySem.Spec PySem.NumText PyProof.Rows L2 LamX VL
def pyR (p : T × Nat) : PyData := .tuple [.str p.1.s, .int p.2]
def pyO : Option Nat → PyData
  | none => .none
  | some n => .int n
theorem pys_rows : ∀ ws : WS, pys (ws.map rowD) = some (ws.map pyR)
  | [] => rfl
  | p :: ws => by
    show (match D.py (rowD p), pys (ws.map rowD) with
      | some x, some xs => some (x :: xs)
      | _, _ => none) = _
    rw [pys_rows ws]
    rfl
theorem py_opt (a : Option Nat) : D.py (optD a) = some (pyO a) := by cases a <;> rfl
theorem lay_rows : ∀ ws : WS, (∀ p ∈ ws, isOwn p.1 = true) → PyData.canLayAll0 (ws.map pyR) = true ∧ PyData.depthAll (ws.map pyR) ≤ 1
  | [], _ => by simp [PyData.canLayAll0, PyData.depthAll]
  | p :: ws, h => by
    obtain ⟨i1, i2⟩ := lay_rows ws fun q m => h q (List.mem_cons_of_mem _ m)
    have h1 := h p List.mem_cons_self
    have h2 : PyData.strOk p.1.s = true := by
      unfold isOwn isName at h1
      simp only [Bool.and_eq_true] at h1
      unfold PyData.strOk T.s
      rw [← Array.all_toList]
      refine List.all_eq_true.mpr fun c hc => ?_
      have := of_decide_eq_true (List.all_eq_true.mp h1.1.2 c (by simpa using hc))
      unfold LET at this
      simp only [List.mem_cons, List.not_mem_nil, or_false] at this
      exact decide_eq_true (by omega)
    simp [pyR, PyData.canLayAll0, PyData.canLay0, PyData.depthAll, PyData.depth, i1, h2]
    omega
theorem e_eq {ws : WS} (H : VOk ws) (a b : Option Nat) (τ : Store) : d_Ledger___eq__ [.d (led ws a b), .d (led ws a b)] τ = .ok (.d (.bl true)) τ := by
  obtain ⟨l1, l2⟩ := lay_rows ws fun p m => (H.own p m).1
  have hE : gFld 1 [101, 110, 116, 114, 105, 101, 115] (.d (led ws a b)) τ = .ok (.d (.tup (ws.map rowD))) τ := rfl
  have hL : gFld 1 [108, 105, 109, 105, 116, 115] (.d (led ws a b)) τ = .ok (.d (.tup [optD a, optD b])) τ := rfl
  have hi : gIsC 1 (.d (led ws a b)) τ = .ok (.d (.bl true)) τ := rfl
  have lay : (PyData.tuple [.tuple (ws.map pyR), .tuple [pyO a, pyO b]]).canLay0 = true := by
    cases a <;> cases b <;> simp [PyData.canLay0, PyData.canLayAll0, l1, pyO]
  have dep : (PyData.tuple [.tuple (ws.map pyR), .tuple [pyO a, pyO b]]).depth ≤ 64 := by
    cases a <;> cases b <;> (simp [PyData.depth, PyData.depthAll, pyO]; omega)
  have sh : shp (PyData.tuple [.tuple (ws.map pyR), .tuple [pyO a, pyO b]]) = true := by
    unfold shp SeqAt.shaped
    rw [lay, decide_eq_true dep]
    rfl
  have two : 2 ≤ sizeLine := by rw [sl_eq]; omega
  have hq : oEq (.tup [.tup (ws.map rowD), .tup [optD a, optD b]]) (.tup [.tup (ws.map rowD), .tup [optD a, optD b]]) τ = .ok (.d (.bl true)) τ := by
    have e : D.py (.tup [.tup (ws.map rowD), .tup [optD a, optD b]]) = some (.tuple [.tuple (ws.map pyR), .tuple [pyO a, pyO b]]) := by
      simp [D.py, pys, pys_rows, py_opt]
    unfold oEq
    simp only [e]
    rw [if_pos ⟨sh, sh⟩, SeqAt.eqv_refl _ lay]
  have hq' : ∀ u w, u = U.d (.tup [.tup (ws.map rowD), .tup [optD a, optD b]]) → w = U.d (.tup [.tup (ws.map rowD), .tup [optD a, optD b]]) → opD oEq u w τ = .ok (.d (.bl true)) τ := fun u w h1 h2 => by
    subst h1 h2
    exact hq
  generalize led ws a b = dl at hE hL hi
  have t2 : ∀ u : U, gTupD [.d (.tup (ws.map rowD)), .d (.tup [optD a, optD b])] τ = .ok (.d (.tup [.tup (ws.map rowD), .tup [optD a, optD b]])) τ := fun _ => by
    simp [gTupD, two]
  simp [d_Ledger___eq__, g_Ledger___eq__, callD, gSeq, gIf, bNeg, bOf, eIsC, eVar, R.bind, hi, liftE, RS.seq, VL.gNil, gRet, eOp, eTup, elCons, elNil, eFld, hE, hL, t2 (.d .non), hq', outR, retU]
/-! ### the rows of weights -/
def goR : List T → Nat → T → WS → Except (Nat × Nat) WS
  | [], _, _, acc => .ok acc
  | r :: rs, k, last, acc => if k < 8 ∧ (sp 32 r).head? = some WEI then (match rowW (sp 32 r) last with
    | .ok p => goR rs (k + 1) p.1 (acc ++ [p])
    | .error e => .error (k, e)) else .ok acc
theorem rowW_ok {ws : List T} {last : T} {p : T × Nat} (h : rowW ws last = .ok p) : ∃ a, ws = [a, p.1, itx p.2] ∧ isOwn p.1 = true ∧ last < p.1 ∧ p.2 ≤ 1000000000 := by
  unfold rowW at h
  split at h
  · rename_i a b rest
    split at h
    · rename_i q
      split at h
      · rename_i c more
        split at h
        · rename_i n e
          split at h
          · rename_i hm
            have : p = (b, n) := (Except.ok.inj h).symm
            subst this
            obtain ⟨e1, e2⟩ := numIn_some e
            exact ⟨a, by rw [hm, e1], q.1, q.2, e2⟩
          · cases h
        · cases h
      · cases h
    · cases h
  · cases h
theorem rowW_err {ws : List T} {last : T} {e : Nat} (h : rowW ws last = .error e) : 1 ≤ e ∧ e ≤ 3 := by
  unfold rowW at h
  repeat' (split at h)
  all_goals cases h
  all_goals decide
theorem row_line {r : T} {p : T × Nat} (h : sp 32 r = [WEI, p.1, itx p.2]) : r = lineW p := by
  rw [← join_sp 32 r, h]
  simp [TL.joinL, lineW, WEI, WEI_]
structure GoOk (rs : List T) (acc ws : WS) (new : WS) : Prop where
  app : ws = acc ++ new
  len : new.length ≤ rs.length
  lines : rs.take new.length = new.map lineW
  ok : VOk ws
  asc : Asc ws
theorem goR_ok : ∀ (rs : List T) (k : Nat) (last : T) (acc ws : WS), goR rs k last acc = .ok ws → acc.length = k → VOk acc → Asc acc → (∀ p ∈ acc, ∀ t, last < t → p.1 < t) → ∃ new, GoOk rs acc ws new
  | [], k, last, acc, ws, h, hk, hv, ha, hl => by
    have : ws = acc := (Except.ok.inj h).symm
    subst this
    exact ⟨[], by simp, by simp, rfl, hv, ha⟩
  | r :: rs, k, last, acc, ws, h, hk, hv, ha, hl => by
    unfold goR at h
    by_cases q : k < 8 ∧ (sp 32 r).head? = some WEI
    · rw [if_pos q] at h
      cases e : rowW (sp 32 r) last with
      | error e' => rw [e] at h; cases h
      | ok p =>
        rw [e] at h
        simp only at h
        obtain ⟨a, e1, h1, h2, h3⟩ := rowW_ok e
        have ea : a = WEI := by
          have := q.2
          rw [e1] at this
          exact Option.some.inj this
        subst ea
        have hv' : VOk (acc ++ [p]) := ⟨by simp; omega, fun x m => by
          rcases List.mem_append.mp m with m | m
          · exact hv.own x m
          · rw [List.mem_singleton.mp m]; exact ⟨h1, h3⟩⟩
        have ha' : Asc (acc ++ [p]) := List.pairwise_append.mpr ⟨ha, by simp, fun x m y my => by rw [List.mem_singleton.mp my]; exact hl x m _ h2⟩
        obtain ⟨new, g⟩ := goR_ok rs (k + 1) p.1 (acc ++ [p]) ws h (by simp; omega) hv' ha' fun x m t ht => by
          rcases List.mem_append.mp m with m | m
          · exact hl x m t (Lin.tr _ _ _ h2 ht)
          · rw [List.mem_singleton.mp m]; exact ht
        refine ⟨p :: new, by rw [g.app]; simp, by have := g.len; simp; omega, ?_, g.ok, g.asc⟩
        rw [List.length_cons, List.take_succ_cons, g.lines, List.map_cons, row_line e1]
    · rw [if_neg q] at h
      have : ws = acc := (Except.ok.inj h).symm
      subst this
      exact ⟨[], by simp, by simp, rfl, hv, ha⟩
theorem goR_err : ∀ (rs : List T) (k : Nat) (last : T) (acc : WS) (r e : Nat), goR rs k last acc = .error (r, e) → r < 8 ∧ 1 ≤ e ∧ e ≤ 3
  | [], k, last, acc, r, e, h => by cases h
  | x :: rs, k, last, acc, r, e, h => by
    unfold goR at h
    by_cases q : k < 8 ∧ (sp 32 x).head? = some WEI
    · rw [if_pos q] at h
      cases e1 : rowW (sp 32 x) last with
      | error e' =>
        rw [e1] at h
        have h : (Except.error (k, e') : Except (Nat × Nat) WS) = .error (r, e) := h
        have := Except.error.inj h
        cases this
        exact ⟨q.1, rowW_err e1⟩
      | ok p => rw [e1] at h; exact goR_err rs (k + 1) p.1 (acc ++ [p]) r e h
    · rw [if_neg q] at h; cases h
def LOA : T := [108, 111, 97, 100]
def RUS : T := [114, 117, 115, 104]
/-- a whole text, by its rows -/
def rdR (rows : List T) : Except (Nat × Nat) (WS × Option Nat × Option Nat) := match goR rows 0 [] [] with
  | .error e => .error e
  | .ok ws => match capWs (wordsAt rows ws.length) LOA with
    | .error e => .error (ws.length, e)
    | .ok a => match capWs (wordsAt rows (ws.length + 1)) RUS with
      | .error e => .error (ws.length + 1, e)
      | .ok b => if ws.length + 2 < rows.length then .error (ws.length + 2, 0) else .ok (ws, a, b)
theorem nil_ok : VOk [] := ⟨by simp, fun p m => by simp at m⟩
theorem goR0 {rows : List T} {ws : WS} (h : goR rows 0 [] [] = .ok ws) : GoOk rows [] ws ws := by
  obtain ⟨new, g⟩ := goR_ok rows 0 [] [] ws h rfl nil_ok List.Pairwise.nil fun p m => by simp at m
  have : ws = new := by rw [g.app]; rfl
  subst this
  exact g
theorem capWs_err {ws : List T} {t : T} {e : Nat} (h : capWs ws t = .error e) : e ≤ 2 := by
  unfold capWs at h
  repeat' (split at h)
  all_goals cases h
  all_goals decide
theorem capWs_ok {r t : T} {a : Option Nat} (h : capWs (sp 32 r) t = .ok a) : capOk a ∧ r = t ++ 32 :: capT a := by
  rw [← join_sp 32 r]
  generalize sp 32 r = ws at h
  unfold capWs at h
  split at h
  · rename_i x rest
    split at h
    · rename_i e0
      split at h
      · rename_i b more
        split at h
        · rename_i e1
          split at h
          · rename_i e2
            have : a = none := (Except.ok.inj h).symm
            subst this
            subst e0 e1 e2
            exact ⟨trivial, rfl⟩
          · cases h
        · split at h
          · rename_i n e1
            split at h
            · rename_i e2
              have : a = some n := (Except.ok.inj h).symm
              subst this
              obtain ⟨q1, q2⟩ := numIn_some e1
              subst e0 e2
              exact ⟨q2, by rw [← q1]; rfl⟩
            · cases h
          · cases h
      · cases h
    · cases h
  · cases h
theorem capWs_nil {t : T} (ht : t ≠ []) : capWs [[]] t = .error 0 := by
  have : ¬ ([] : T) = t := fun z => ht z.symm
  simp [capWs, this]
end K82

/-! k82: there and back. -/
namespace K82
open PySem PySem.Spec PySem.NumText PyProof.Rows L2 LamX VL
theorem two_rows {rows : List T} {m : Nat} {x y : T} (h1 : rows[m]? = some x) (h2 : rows[m + 1]? = some y) (h3 : ¬ m + 2 < rows.length) : rows = rows.take m ++ [x, y] := by
  have l2 := (List.getElem?_eq_some_iff.mp h2).1
  have e1 : rows.drop m = x :: rows.drop (m + 1) := by
    obtain ⟨h, e⟩ := List.getElem?_eq_some_iff.mp h1
    rw [List.drop_eq_getElem_cons h, e]
  have e2 : rows.drop (m + 1) = y :: rows.drop (m + 2) := by
    obtain ⟨h, e⟩ := List.getElem?_eq_some_iff.mp h2
    rw [List.drop_eq_getElem_cons h, e]
  have e3 : rows.drop (m + 2) = [] := List.drop_eq_nil_of_le (by omega)
  conv => lhs; rw [← List.take_append_drop m rows, e1, e2, e3]
theorem words_row {rows : List T} {i : Nat} {t : T} {a : Option Nat} (ht : t ≠ []) (h : capWs (wordsAt rows i) t = .ok a) : ∃ r, rows[i]? = some r ∧ capOk a ∧ r = t ++ 32 :: capT a := by
  unfold wordsAt at h
  cases e : rows[i]? with
  | none => rw [e] at h; simp only at h; rw [capWs_nil ht] at h; cases h
  | some r =>
    rw [e] at h
    obtain ⟨q1, q2⟩ := capWs_ok h
    exact ⟨r, rfl, q1, q2⟩
theorem loa_ne : LOA ≠ [] := by decide
theorem rus_ne : RUS ≠ [] := by decide
structure RdOk (ws : WS) (a b : Option Nat) : Prop where
  ok : VOk ws
  asc : Asc ws
  ca : capOk a
  cb : capOk b
theorem rd_text {line : T} {ws : WS} {a b : Option Nat} (h : rdR (sp 10 line) = .ok (ws, a, b)) : RdOk ws a b ∧ textOf ws a b = line := by
  unfold rdR at h
  cases e : goR (sp 10 line) 0 [] [] with
  | error x => rw [e] at h; cases h
  | ok vs =>
    rw [e] at h
    have g := goR0 e
    simp only at h
    cases e1 : capWs (wordsAt (sp 10 line) vs.length) LOA with
    | error x => rw [e1] at h; cases h
    | ok a' =>
      rw [e1] at h
      simp only at h
      cases e2 : capWs (wordsAt (sp 10 line) (vs.length + 1)) RUS with
      | error x => rw [e2] at h; cases h
      | ok b' =>
        rw [e2] at h
        simp only at h
        by_cases q : vs.length + 2 < (sp 10 line).length
        · rw [if_pos q] at h; cases h
        · rw [if_neg q] at h
          have h := Except.ok.inj h
          cases h
          obtain ⟨r1, f1, c1, t1⟩ := words_row loa_ne e1
          obtain ⟨r2, f2, c2, t2⟩ := words_row rus_ne e2
          refine ⟨⟨g.ok, g.asc, c1, c2⟩, ?_⟩
          have er := two_rows f1 f2 q
          rw [g.lines, t1, t2] at er
          have : rowsOf ws a b = sp 10 line := er.symm
          unfold textOf
          rw [this, join_sp]
/-! ### back -/
theorem own_free {t : T} (h : isOwn t = true) {c : Nat} (hc : c < 97) : c ∉ t := fun m => by
  unfold isOwn isName at h
  simp only [Bool.and_eq_true] at h
  have := of_decide_eq_true (List.all_eq_true.mp h.1.2 c m)
  unfold LET at this
  simp only [List.mem_cons, List.not_mem_nil, or_false] at this
  omega
theorem itx_free (n : Nat) {c : Nat} (hc : c < 48) : c ∉ itx (n : Int) := fun m => by
  have := itx_digs n c m
  omega
theorem cap_free (a : Option Nat) {c : Nat} (hc : c < 45) : c ∉ capT a := by
  cases a with
  | none => simp [capT]; omega
  | some n => exact itx_free n (by omega)
theorem line_words {p : T × Nat} (h : isOwn p.1 = true) : sp 32 (lineW p) = [WEI, p.1, itx p.2] := by
  have e : lineW p = TL.joinL [32] [WEI, p.1, itx p.2] := by simp [TL.joinL, lineW, WEI, WEI_]
  rw [e]
  refine sp_join (by simp) fun q m => ?_
  simp only [List.mem_cons, List.not_mem_nil, or_false] at m
  rcases m with rfl | rfl | rfl
  · decide
  · exact own_free h (by omega)
  · exact itx_free _ (by omega)
theorem cap_words (t : T) (ht : 32 ∉ t) (a : Option Nat) : sp 32 (t ++ 32 :: capT a) = [t, capT a] := by
  have e : t ++ 32 :: capT a = TL.joinL [32] [t, capT a] := rfl
  rw [e]
  refine sp_join (by simp) fun q m => ?_
  simp only [List.mem_cons, List.not_mem_nil, or_false] at m
  rcases m with rfl | rfl
  · exact ht
  · exact cap_free _ (by omega)
theorem rowW_back {p : T × Nat} {last : T} (h1 : isOwn p.1 = true) (h2 : p.2 ≤ 1000000000) (h3 : last < p.1) : rowW [WEI, p.1, itx p.2] last = .ok p := by
  simp [rowW, h1, h3, numIn_itx most9 h2]
theorem goR_back (tail : List T) (hT : ∀ r ∈ tail.head?, (sp 32 r).head? ≠ some WEI) : ∀ (ws : WS) (k : Nat) (last : T) (acc : WS), k + ws.length ≤ 8 → (∀ p ∈ ws, isOwn p.1 = true ∧ p.2 ≤ 1000000000) → Asc ws → (∀ p ∈ ws, last < p.1) → goR (ws.map lineW ++ tail) k last acc = .ok (acc ++ ws)
  | [], k, last, acc, _, _, _, _ => by
    cases tail with
    | nil => simp [goR]
    | cons r rs =>
      show goR (r :: rs) k last acc = _
      unfold goR
      rw [if_neg fun q => hT r rfl q.2]
      simp
  | p :: ws, k, last, acc, hk, hv, ha, hl => by
    obtain ⟨h1, h2⟩ := hv p List.mem_cons_self
    show goR (lineW p :: (ws.map lineW ++ tail)) k last acc = _
    unfold goR
    rw [line_words h1, if_pos ⟨by simp at hk; omega, rfl⟩, rowW_back h1 h2 (hl p List.mem_cons_self)]
    have ha' := List.pairwise_cons.mp ha
    have := goR_back tail hT ws (k + 1) p.1 (acc ++ [p]) (by simp at hk; omega) (fun q m => hv q (List.mem_cons_of_mem _ m)) ha'.2 ha'.1
    simp only
    rw [this]
    simp
theorem capWs_back {t : T} {a : Option Nat} (h : capOk a) : capWs [t, capT a] t = .ok a := by
  cases a with
  | none => simp [capWs, capT]
  | some n =>
    have h : n ≤ 10000000000 := h
    have hn : ¬ itx (n : Int) = [45] := fun z => by
      have := itx_free n (c := 45) (by omega)
      rw [z] at this
      exact this (by simp)
    simp [capWs, capT, hn, numIn_itx most10 h]
theorem name_pos {t : T} (h : isOwn t = true) : [] < t := by
  have : t ≠ [] := fun z => by rw [z] at h; revert h; decide
  cases t with
  | nil => exact absurd rfl this
  | cons c r => exact List.Lex.nil
theorem rows_sp {ws : WS} {a b : Option Nat} (H : RdOk ws a b) : sp 10 (textOf ws a b) = rowsOf ws a b := by
  refine sp_join (by simp [rowsOf]) fun p m => ?_
  unfold rowsOf at m
  rcases List.mem_append.mp m with m | m
  · obtain ⟨q, hq, rfl⟩ := List.mem_map.mp m
    have h1 := own_free (H.ok.own q hq).1 (c := 10) (by omega)
    have h2 := itx_free q.2 (c := 10) (by omega)
    unfold lineW WEI_
    simp [h1, h2]
  · simp only [List.mem_cons, List.not_mem_nil, or_false] at m
    rcases m with rfl | rfl
    · have := cap_free a (c := 10) (by omega)
      unfold LOA_
      simp [this]
    · have := cap_free b (c := 10) (by omega)
      unfold RUS_
      simp [this]
theorem loa_row (a : Option Nat) : LOA_ ++ capT a = LOA ++ 32 :: capT a := rfl
theorem rus_row (a : Option Nat) : RUS_ ++ capT a = RUS ++ 32 :: capT a := rfl
theorem rd_back {ws : WS} {a b : Option Nat} (H : RdOk ws a b) : rdR (sp 10 (textOf ws a b)) = .ok (ws, a, b) := by
  rw [rows_sp H]
  have g : goR (rowsOf ws a b) 0 [] [] = .ok ws := by
    have := goR_back [LOA_ ++ capT a, RUS_ ++ capT b] (fun r hr => by
      have : r = LOA_ ++ capT a := (Option.some.inj hr).symm
      rw [this, loa_row, cap_words LOA (by decide)]
      simp [LOA, WEI]) ws 0 [] [] (by have := H.ok.few; omega) H.ok.own H.asc fun p m => name_pos (H.ok.own p m).1
    exact this
  have w1 : wordsAt (rowsOf ws a b) ws.length = [LOA, capT a] := by
    have : (rowsOf ws a b)[ws.length]? = some (LOA_ ++ capT a) := by simp [rowsOf]
    unfold wordsAt
    rw [this, loa_row]
    exact cap_words LOA (by decide) a
  have w2 : wordsAt (rowsOf ws a b) (ws.length + 1) = [RUS, capT b] := by
    have : (rowsOf ws a b)[ws.length + 1]? = some (RUS_ ++ capT b) := by
      unfold rowsOf
      rw [List.getElem?_append_right (by simp)]
      simp
    unfold wordsAt
    rw [this, rus_row]
    exact cap_words RUS (by decide) b
  have hl : ¬ ws.length + 2 < (rowsOf ws a b).length := by simp [rowsOf]
  unfold rdR
  rw [g]
  simp only [w1, w2, capWs_back H.ca, capWs_back H.cb]
  rw [if_neg hl]
theorem rd_err {rows : List T} {r e : Nat} (h : rdR rows = .error (r, e)) : r ≤ 10 ∧ e ≤ 3 := by
  unfold rdR at h
  cases e0 : goR rows 0 [] [] with
  | error x =>
    rw [e0] at h
    have h : (Except.error x : Except (Nat × Nat) (WS × Option Nat × Option Nat)) = .error (r, e) := h
    have := Except.error.inj h
    subst this
    have := goR_err rows 0 [] [] r e e0
    omega
  | ok vs =>
    rw [e0] at h
    have g := (goR0 e0).ok.few
    simp only at h
    cases e1 : capWs (wordsAt rows vs.length) LOA with
    | error x =>
      rw [e1] at h
      have h := Except.error.inj h
      cases h
      have := capWs_err e1
      omega
    | ok a' =>
      rw [e1] at h
      simp only at h
      cases e2 : capWs (wordsAt rows (vs.length + 1)) RUS with
      | error x =>
        rw [e2] at h
        have h := Except.error.inj h
        cases h
        have := capWs_err e2
        omega
      | ok b' =>
        rw [e2] at h
        simp only at h
        by_cases q : vs.length + 2 < rows.length
        · rw [if_pos q] at h
          have h := Except.error.inj h
          cases h
          omega
        · rw [if_neg q] at h; cases h
end K82

/-! k82: the law's own reader. -/
namespace K82
open PySem PySem.Spec PySem.NumText PyProof.Rows L2 LamX VL
/-- a text of plain signs, not too long -/
structure Fine (t : T) : Prop where
  len : t.length ≤ 50000
  sg : ∀ c ∈ t, c < 128
theorem mem_joinL {b c : Nat} {p : T} : ∀ {ps : List T}, p ∈ ps → c ∈ p → c ∈ TL.joinL [b] ps
  | [q], m, h => by rw [List.mem_singleton.mp m] at h; exact h
  | q :: r :: ps, m, h => by
    rw [joinL_cons (by simp)]
    rcases List.mem_cons.mp m with e | m
    · rw [e] at h; exact List.mem_append_left _ h
    · exact List.mem_append_right _ (List.mem_cons_of_mem _ (mem_joinL m h))
theorem fine_sp {t p : T} {b : Nat} (h : Fine t) (m : p ∈ sp b t) : Fine p := by
  refine ⟨?_, fun c hc => h.sg c ?_⟩
  · have := tot_mem m
    rw [tot_sp] at this
    have := h.len
    omega
  · have := mem_joinL (b := b) m hc
    rwa [join_sp] at this
theorem lay_strs : ∀ l : List T, (∀ t ∈ l, ∀ c ∈ t, c < 128) → PyData.canLayAll0 (l.map fun t => PyData.str t.s) = true ∧ PyData.depthAll (l.map fun t => PyData.str t.s) = 0
  | [], _ => by simp [PyData.canLayAll0, PyData.depthAll]
  | t :: l, h => by
    obtain ⟨i1, i2⟩ := lay_strs l fun u m => h u (List.mem_cons_of_mem _ m)
    have h2 : PyData.strOk t.s = true := by
      unfold PyData.strOk T.s
      rw [← Array.all_toList]
      exact List.all_eq_true.mpr fun c hc => decide_eq_true (by have := h t List.mem_cons_self c (by simpa using hc); omega)
    simp [PyData.canLayAll0, PyData.canLay0, PyData.depthAll, PyData.depth, i1, i2, h2]
theorem pys_strs : ∀ l : List T, pys (l.map D.str) = some (l.map fun t => PyData.str t.s)
  | [] => rfl
  | t :: l => by
    show (match D.py (.str t), pys (l.map D.str) with
      | some x, some xs => some (x :: xs)
      | _, _ => none) = _
    rw [pys_strs l]
    rfl
theorem eq_nil (l : List T) (h : ∀ t ∈ l, ∀ c ∈ t, c < 128) (τ : Store) : oEq (.lst (l.map .str)) (.lst []) τ = .ok (.d (.bl l.isEmpty)) τ := by
  obtain ⟨l1, l2⟩ := lay_strs l h
  have e1 : D.py (.lst (l.map .str)) = some (.list (l.map fun t => PyData.str t.s)) := by simp [D.py, pys_strs]
  have e2 : D.py (.lst []) = some (.list []) := by simp [D.py, pys]
  have s1 : shp (.list (l.map fun t => PyData.str t.s)) = true := by
    unfold shp SeqAt.shaped
    simp [PyData.canLay0, PyData.depth, l1, l2]
  have s2 : shp (.list []) = true := by decide
  unfold oEq
  simp only [e1, e2]
  rw [if_pos ⟨s1, s2⟩]
  cases l <;> simp [PyData.eqv, PyData.eqvAll]
theorem signs_out (w : T) (ρ : VL.Env) (i : Nat) (hi : i < ρ.length) (t : T) (h : Fine t) (τ : Store) :
    ∃ ds, compGo (tName i) (bOf (eOp (oInG true) (eVar i) (eC (.str w)))) (eVar i) ρ (t.map fun c => D.str [c]) τ [] = .ok ds τ ∧ oEq (.lst ds) (.lst []) τ = .ok (.d (.bl (t.all fun c => decide (c ∈ w)))) τ := by
  have hl := h.len
  refine ⟨[] ++ ((t.map fun c => D.str [c]).filter fun d => match d with | .str [c] => !decide (c ∈ w) | _ => false).map id, compGo_some _ [] (fun x m => ?_) (by rw [sl_eq]; simp; omega), ?_⟩
  · obtain ⟨c, _, rfl⟩ := List.mem_map.mp m
    refine ⟨_, rfl, ?_, fun _ => ?_⟩
    · simp only [bOf, eOp, eVar, eC, List.getElem?_set_self hi, R.bind_ok, opD_d, oInG, if_true]
    · simp only [eVar, List.getElem?_set_self hi, id]
  · have e : ((t.map fun c => D.str [c]).filter fun d => match d with | .str [c] => !decide (c ∈ w) | _ => false) = ((t.filter fun c => !decide (c ∈ w)).map fun c => [c]).map D.str := by
      rw [List.filter_map, List.map_map]
      rfl
    rw [List.nil_append, List.map_id, e, eq_nil _ (fun u m c hc => by
      obtain ⟨d, hd, rfl⟩ := List.mem_map.mp m
      rw [List.mem_singleton.mp hc]
      exact h.sg d (List.mem_filter.mp hd).1)]
    congr 3
    rw [Bool.eq_iff_iff, List.isEmpty_iff, List.map_eq_nil_iff, List.filter_eq_nil_iff, List.all_eq_true]
    exact ⟨fun q c m => by have := q c m; simpa using this, fun q c m => by have := q c m; simpa using this⟩
theorem e_tag {t : T} (h : Fine t) (τ : Store) : d__law_is_tag [.d (.str t)] τ = .ok (.d (.bl (isOwn t))) τ := by
  have hl := h.len
  have hs : t.length ≤ sizeLine := by rw [sl_eq]; omega
  obtain ⟨ds, g1, g2⟩ := signs_out LET (wipeE [some (.d (.str t)), none] [1]) 1 (by simp [wipeE]) t h τ
  unfold LET at g1
  have e2 : isOwn t = (decide (1 ≤ t.length ∧ t.length ≤ 8) && (t.all fun c => decide (c ∈ LET)) && decide (t ≠ SHO)) := rfl
  rw [e2]
  generalize (t.all fun c => decide (c ∈ LET)) = b at g2
  by_cases h1 : 1 ≤ t.length
  · have h1' : (1 : Int) ≤ (t.length : Int) := by omega
    by_cases h2 : t.length ≤ 8
    · have h2' : (t.length : Int) ≤ 8 := by omega
      by_cases h3 : t = [115, 104, 111, 114, 101]
      · have h4 : decide (t ≠ SHO) = false := decide_eq_false (fun z => z h3)
        rw [h4]
        have hne : oNe (.str t) (.str [115, 104, 111, 114, 101]) τ = .ok (.d (.bl false)) τ := by simp [oNe, oEq, bNot, h3]
        simp [d__law_is_tag, g__law_is_tag, callD, gRet, eAnd, eChain, eC, R.bind, elCons, elNil, eVar, eCB, gCB, vws_cons, c1, fLen, hs, opD, oLe, h1', h2', eOp, hne, liftE, outR, retU, h1, h2]
      · have h4 : decide (t ≠ SHO) = true := decide_eq_true h3
        rw [h4]
        have hne : oNe (.str t) (.str [115, 104, 111, 114, 101]) τ = .ok (.d (.bl true)) τ := by simp [oNe, oEq, bNot, h3]
        simp [d__law_is_tag, g__law_is_tag, callD, gRet, eAnd, eChain, eC, R.bind, elCons, elNil, eVar, eCB, gCB, vws_cons, c1, fLen, hs, opD, oLe, h1', h2', eOp, hne, eLc, dSigns, gSigns, g1, allocL, eLst, gLstD, frzs, g2, liftE, outR, retU, h1, h2]
    · have h2' : ¬ (t.length : Int) ≤ 8 := by omega
      simp [callD, outR, retU, gSeq, gIf, gRet, gRetN, gSet, gExpr, VL.gNil, gNever, gUnp, gPar, gPar3, eVar, eC, elNil, elCons, eCall, gCall, eCB, gCB, vws_cons, vws_nil, c1, c2, eOp, opD, bOf, bAnd, bOr, bNeg, eAnd, eOr, eNot, eIf, eIs, isN, eIsi, D.ty, isTy, eChain, oLe, oLt, oGt, oGe, oEq, oNe, bNot, oAdd, oSub, fLen, fLenD, D.seq, eTup, gTupD, frzs, eLst, gLstD, allocL, eIx, oIx, fMin, take_self, R.bind, liftE, RS.seq, tName, tTupN, tNames, eMt, gMt, tyD, d__law_is_tag, g__law_is_tag, hs, h1', h2', h1, h2]
  · have h1' : ¬ (1 : Int) ≤ (t.length : Int) := by omega
    simp [callD, outR, retU, gSeq, gIf, gRet, gRetN, gSet, gExpr, VL.gNil, gNever, gUnp, gPar, gPar3, eVar, eC, elNil, elCons, eCall, gCall, eCB, gCB, vws_cons, vws_nil, c1, c2, eOp, opD, bOf, bAnd, bOr, bNeg, eAnd, eOr, eNot, eIf, eIs, isN, eIsi, D.ty, isTy, eChain, oLe, oLt, oGt, oGe, oEq, oNe, bNot, oAdd, oSub, fLen, fLenD, D.seq, eTup, gTupD, frzs, eLst, gLstD, allocL, eIx, oIx, fMin, take_self, R.bind, liftE, RS.seq, tName, tTupN, tNames, eMt, gMt, tyD, d__law_is_tag, g__law_is_tag, hs, h1', h1]
/-! ### numbers and rows, as the law sees them -/
theorem at_str {t : T} {c : Nat} {r : T} (h : t = c :: r) : atI t 0 = some c := by
  subst h
  exact atI_nat _ 0
theorem e_isnum {t : T} {m k : Nat} (M : Most m k) (h : Fine t) (τ : Store) : d__law_is_number [.d (.str t), .d (.int m)] τ = .ok (.d (.bl (numIn t m).isSome)) τ := by
  have hl := h.len
  have hs : t.length ≤ sizeLine := by rw [sl_eq]; omega
  have key := num_same (t := t) M
  have e0 : (numIn t m).isSome = decide (isNumL t m) := by
    rw [Bool.eq_iff_iff, decide_eq_true_iff]
    exact key.symm
  rw [e0]
  obtain ⟨ds, g1, g2⟩ := signs_out DIG (wipeE [some (.d (.str t)), some (.d (.int m)), none] [2]) 2 (by simp [wipeE]) t h τ
  unfold DIG at g1
  have g2 : oEq (.lst ds) (.lst []) τ = .ok (.d (.bl (digs t))) τ := g2
  by_cases h1 : t = []
  · have q1 : oEq (.str t) (.str []) τ = .ok (.d (.bl true)) τ := by simp [oEq, h1]
    have e3 : decide (isNumL t m) = false := decide_eq_false fun z => z.1 h1
    rw [e3]
    simp [callD, outR, retU, gSeq, gIf, gRet, gRetN, gSet, gExpr, VL.gNil, gNever, gUnp, gPar, gPar3, eVar, eC, elNil, elCons, eCall, gCall, eCB, gCB, vws_cons, vws_nil, c1, c2, eOp, opD, bOf, bAnd, bOr, bNeg, eAnd, eOr, eNot, eIf, eIs, isN, eIsi, D.ty, isTy, eChain, oLe, oLt, oGt, oGe, oAdd, oSub, fLen, fLenD, D.seq, eTup, gTupD, frzs, eLst, gLstD, allocL, eIx, oIx, fMin, take_self, R.bind, liftE, RS.seq, tName, tTupN, tNames, eMt, gMt, tyD, d__law_is_number, g__law_is_number, q1]
  have q1 : oEq (.str t) (.str []) τ = .ok (.d (.bl false)) τ := by simp [oEq, h1]
  by_cases h2 : t.length ≤ 11
  · have h2' : ¬ (11 : Int) < (t.length : Int) := by omega
    cases h3 : digs t with
    | false =>
      have e3 : decide (isNumL t m) = false := decide_eq_false fun z => by have := z.2.2.1; rw [h3] at this; exact Bool.false_ne_true this
      rw [h3] at g2
      have g3 : oNe (.lst ds) (.lst []) τ = .ok (.d (.bl true)) τ := by simp [oNe, g2, bNot]
      rw [e3]
      simp [callD, outR, retU, gSeq, gIf, gRet, gRetN, gSet, gExpr, VL.gNil, gNever, gUnp, gPar, gPar3, eVar, eC, elNil, elCons, eCall, gCall, eCB, gCB, vws_cons, vws_nil, c1, c2, eOp, opD, bOf, bAnd, bOr, bNeg, eAnd, eOr, eNot, eIf, eIs, isN, eIsi, D.ty, isTy, eChain, oLe, oLt, oGt, oGe, oAdd, oSub, fLen, fLenD, D.seq, eTup, gTupD, frzs, eLst, gLstD, allocL, eIx, oIx, fMin, take_self, R.bind, liftE, RS.seq, tName, tTupN, tNames, eMt, gMt, tyD, d__law_is_number, g__law_is_number, q1, hs, h2', eLc, dSigns, gSigns, g1, g3]
    | true =>
      rw [h3] at g2
      have g3 : oNe (.lst ds) (.lst []) τ = .ok (.d (.bl false)) τ := by simp [oNe, g2, bNot]
      have hi := int_text h3 h1 (by omega)
      have hl6 : t.length ≤ 640 := by omega
      obtain ⟨c, r, ec⟩ : ∃ c r, t = c :: r := by
        cases t with
        | nil => exact absurd rfl h1
        | cons c r => exact ⟨c, r, rfl⟩
      have ha := at_str ec
      by_cases h5 : digitsVal t ≤ m
      · have h5' : ((digitsVal t : Nat) : Int) ≤ (m : Int) := by omega
        by_cases h4 : t = [48]
        · have q2 : oEq (.str t) (.str [48]) τ = .ok (.d (.bl true)) τ := by simp [oEq, h4]
          have e3 : decide (isNumL t m) = true := decide_eq_true ⟨h1, h2, h3, .inl h4, h5⟩
          rw [e3]
          simp [callD, outR, retU, gSeq, gIf, gRet, gRetN, gSet, gExpr, VL.gNil, gNever, gUnp, gPar, gPar3, eVar, eC, elNil, elCons, eCall, gCall, eCB, gCB, vws_cons, vws_nil, c1, c2, eOp, opD, bOf, bAnd, bOr, bNeg, eAnd, eOr, eNot, eIf, eIs, isN, eIsi, D.ty, isTy, eChain, oLe, oLt, oGt, oGe, oAdd, oSub, fLen, fLenD, D.seq, eTup, gTupD, frzs, eLst, gLstD, allocL, eIx, oIx, fMin, take_self, R.bind, liftE, RS.seq, tName, tTupN, tNames, eMt, gMt, tyD, d__law_is_number, g__law_is_number, q1, hs, h2', eLc, dSigns, gSigns, g1, g3, q2, fIntT, hi, hl6, h5']
        · have q2 : oEq (.str t) (.str [48]) τ = .ok (.d (.bl false)) τ := by simp [oEq, h4]
          by_cases h6 : c = 48
          · have q3 : oNe (.str [c]) (.str [48]) τ = .ok (.d (.bl false)) τ := by simp [oNe, oEq, bNot, h6]
            have e3 : decide (isNumL t m) = false := decide_eq_false fun z => by
              rcases z.2.2.2.1 with z | z
              · exact h4 z
              · exact z (by rw [ec, h6]; rfl)
            rw [e3]
            simp [callD, outR, retU, gSeq, gIf, gRet, gRetN, gSet, gExpr, VL.gNil, gNever, gUnp, gPar, gPar3, eVar, eC, elNil, elCons, eCall, gCall, eCB, gCB, vws_cons, vws_nil, c1, c2, eOp, opD, bOf, bAnd, bOr, bNeg, eAnd, eOr, eNot, eIf, eIs, isN, eIsi, D.ty, isTy, eChain, oLe, oLt, oGt, oGe, oAdd, oSub, fLen, fLenD, D.seq, eTup, gTupD, frzs, eLst, gLstD, allocL, eIx, oIx, fMin, take_self, R.bind, liftE, RS.seq, tName, tTupN, tNames, eMt, gMt, tyD, d__law_is_number, g__law_is_number, q1, hs, h2', eLc, dSigns, gSigns, g1, g3, q2, ha, q3]
          · have q3 : oNe (.str [c]) (.str [48]) τ = .ok (.d (.bl true)) τ := by simp [oNe, oEq, bNot, h6]
            have e3 : decide (isNumL t m) = true := decide_eq_true ⟨h1, h2, h3, .inr (by rw [ec]; simp; exact h6), h5⟩
            rw [e3]
            simp [callD, outR, retU, gSeq, gIf, gRet, gRetN, gSet, gExpr, VL.gNil, gNever, gUnp, gPar, gPar3, eVar, eC, elNil, elCons, eCall, gCall, eCB, gCB, vws_cons, vws_nil, c1, c2, eOp, opD, bOf, bAnd, bOr, bNeg, eAnd, eOr, eNot, eIf, eIs, isN, eIsi, D.ty, isTy, eChain, oLe, oLt, oGt, oGe, oAdd, oSub, fLen, fLenD, D.seq, eTup, gTupD, frzs, eLst, gLstD, allocL, eIx, oIx, fMin, take_self, R.bind, liftE, RS.seq, tName, tTupN, tNames, eMt, gMt, tyD, d__law_is_number, g__law_is_number, q1, hs, h2', eLc, dSigns, gSigns, g1, g3, q2, ha, q3, fIntT, hi, hl6, h5']
      · have h5' : ¬ ((digitsVal t : Nat) : Int) ≤ (m : Int) := by omega
        have e3 : decide (isNumL t m) = false := decide_eq_false fun z => h5 z.2.2.2.2
        rw [e3]
        by_cases h4 : t = [48]
        · have q2 : oEq (.str t) (.str [48]) τ = .ok (.d (.bl true)) τ := by simp [oEq, h4]
          simp [callD, outR, retU, gSeq, gIf, gRet, gRetN, gSet, gExpr, VL.gNil, gNever, gUnp, gPar, gPar3, eVar, eC, elNil, elCons, eCall, gCall, eCB, gCB, vws_cons, vws_nil, c1, c2, eOp, opD, bOf, bAnd, bOr, bNeg, eAnd, eOr, eNot, eIf, eIs, isN, eIsi, D.ty, isTy, eChain, oLe, oLt, oGt, oGe, oAdd, oSub, fLen, fLenD, D.seq, eTup, gTupD, frzs, eLst, gLstD, allocL, eIx, oIx, fMin, take_self, R.bind, liftE, RS.seq, tName, tTupN, tNames, eMt, gMt, tyD, d__law_is_number, g__law_is_number, q1, hs, h2', eLc, dSigns, gSigns, g1, g3, q2, fIntT, hi, hl6, h5']
        · have q2 : oEq (.str t) (.str [48]) τ = .ok (.d (.bl false)) τ := by simp [oEq, h4]
          by_cases h6 : c = 48
          · have q3 : oNe (.str [c]) (.str [48]) τ = .ok (.d (.bl false)) τ := by simp [oNe, oEq, bNot, h6]
            simp [callD, outR, retU, gSeq, gIf, gRet, gRetN, gSet, gExpr, VL.gNil, gNever, gUnp, gPar, gPar3, eVar, eC, elNil, elCons, eCall, gCall, eCB, gCB, vws_cons, vws_nil, c1, c2, eOp, opD, bOf, bAnd, bOr, bNeg, eAnd, eOr, eNot, eIf, eIs, isN, eIsi, D.ty, isTy, eChain, oLe, oLt, oGt, oGe, oAdd, oSub, fLen, fLenD, D.seq, eTup, gTupD, frzs, eLst, gLstD, allocL, eIx, oIx, fMin, take_self, R.bind, liftE, RS.seq, tName, tTupN, tNames, eMt, gMt, tyD, d__law_is_number, g__law_is_number, q1, hs, h2', eLc, dSigns, gSigns, g1, g3, q2, ha, q3]
          · have q3 : oNe (.str [c]) (.str [48]) τ = .ok (.d (.bl true)) τ := by simp [oNe, oEq, bNot, h6]
            simp [callD, outR, retU, gSeq, gIf, gRet, gRetN, gSet, gExpr, VL.gNil, gNever, gUnp, gPar, gPar3, eVar, eC, elNil, elCons, eCall, gCall, eCB, gCB, vws_cons, vws_nil, c1, c2, eOp, opD, bOf, bAnd, bOr, bNeg, eAnd, eOr, eNot, eIf, eIs, isN, eIsi, D.ty, isTy, eChain, oLe, oLt, oGt, oGe, oAdd, oSub, fLen, fLenD, D.seq, eTup, gTupD, frzs, eLst, gLstD, allocL, eIx, oIx, fMin, take_self, R.bind, liftE, RS.seq, tName, tTupN, tNames, eMt, gMt, tyD, d__law_is_number, g__law_is_number, q1, hs, h2', eLc, dSigns, gSigns, g1, g3, q2, ha, q3, fIntT, hi, hl6, h5']
  · have h2' : (11 : Int) < (t.length : Int) := by omega
    have e3 : decide (isNumL t m) = false := decide_eq_false fun z => h2 z.2.1
    rw [e3]
    simp [callD, outR, retU, gSeq, gIf, gRet, gRetN, gSet, gExpr, VL.gNil, gNever, gUnp, gPar, gPar3, eVar, eC, elNil, elCons, eCall, gCall, eCB, gCB, vws_cons, vws_nil, c1, c2, eOp, opD, bOf, bAnd, bOr, bNeg, eAnd, eOr, eNot, eIf, eIs, isN, eIsi, D.ty, isTy, eChain, oLe, oLt, oGt, oGe, oAdd, oSub, fLen, fLenD, D.seq, eTup, gTupD, frzs, eLst, gLstD, allocL, eIx, oIx, fMin, take_self, R.bind, liftE, RS.seq, tName, tTupN, tNames, eMt, gMt, tyD, d__law_is_number, g__law_is_number, q1, hs, h2']
/-- what the law says of a row of a weight -/
def codeW (ws : List T) (last : T) (k : Nat) : Int := if ws.head? = some WEI ∧ k < 8 then (match rowW ws last with
  | .ok _ => -1
  | .error e => (e : Int)) else -2
theorem e_row_wrong {ws : List T} {last : T} {k : Nat} (hne : ws ≠ []) (hf : ∀ w ∈ ws, Fine w) (τ : Store) : d__law_row_wrong [.d (.lst (ws.map .str)), .d (.str last), .d (.int k)] τ = .ok (.d (.int (codeW ws last k))) τ := by
  obtain ⟨a, r1, e0⟩ : ∃ a r1, ws = a :: r1 := by
    cases ws with
    | nil => exact absurd rfl hne
    | cons a r1 => exact ⟨a, r1, rfl⟩
  have a0 := at0 e0
  by_cases ha : a = WEI
  · have q0 : oEq (.str a) (.str [119, 101, 105, 103, 104, 116]) τ = .ok (.d (.bl true)) τ := by simp [oEq, ha, WEI]
    by_cases hk : k < 8
    · have hk' : (k : Int) < 8 := by omega
      have hc : codeW ws last k = match rowW ws last with
        | .ok _ => -1
        | .error e => (e : Int) := by
        unfold codeW
        rw [if_pos ⟨by rw [e0, ha]; rfl, hk⟩]
      rw [hc]
      cases r1 with
      | nil =>
        have n2 : (ws.length : Int) < 2 := by rw [e0]; simp
        have e3 : rowW ws last = .error 1 := by rw [e0]; rfl
        rw [e3]
        simp [callD, outR, retU, gSeq, gIf, gRet, gRetN, gSet, gExpr, VL.gNil, gNever, gUnp, gPar, gPar3, eVar, eC, elNil, elCons, eCall, gCall, eCB, gCB, vws_cons, vws_nil, c1, c2, eOp, opD, bOf, bAnd, bOr, bNeg, eAnd, eOr, eNot, eIf, eIs, isN, eIsi, D.ty, isTy, eChain, oLe, oLt, oGt, oGe, oAdd, oSub, fLen, fLenD, D.seq, eTup, gTupD, frzs, eLst, gLstD, allocL, eIx, oIx, fMin, take_self, R.bind, liftE, RS.seq, tName, tTupN, tNames, eMt, gMt, tyD, d__law_row_wrong, g__law_row_wrong, a0, q0, hk', n2]
      | cons b rest =>
        have n2 : ¬ (ws.length : Int) < 2 := by rw [e0]; simp; omega
        have a1 := at1 e0
        have ho := e_tag (hf b (by rw [e0]; simp)) τ
        by_cases q : isOwn b = true ∧ last < b
        · obtain ⟨q1, q2⟩ := q
          cases rest with
          | nil =>
            have n3 : (ws.length : Int) < 3 := by rw [e0]; simp
            have e3 : rowW ws last = .error 2 := by rw [e0]; simp [rowW, q1, q2]
            rw [e3]
            simp [callD, outR, retU, gSeq, gIf, gRet, gRetN, gSet, gExpr, VL.gNil, gNever, gUnp, gPar, gPar3, eVar, eC, elNil, elCons, eCall, gCall, eCB, gCB, vws_cons, vws_nil, c1, c2, eOp, opD, bOf, bAnd, bOr, bNeg, eAnd, eOr, eNot, eIf, eIs, isN, eIsi, D.ty, isTy, eChain, oLe, oLt, oGt, oGe, oAdd, oSub, fLen, fLenD, D.seq, eTup, gTupD, frzs, eLst, gLstD, allocL, eIx, oIx, fMin, take_self, R.bind, liftE, RS.seq, tName, tTupN, tNames, eMt, gMt, tyD, d__law_row_wrong, g__law_row_wrong, a0, q0, hk', n2, a1, ho, q1, q2, n3]
          | cons c more =>
            have n3 : ¬ (ws.length : Int) < 3 := by rw [e0]; simp; omega
            have a2 := at2 e0
            have hn : d__law_is_number [.d (.str c), .d (.int 1000000000)] τ = .ok (.d (.bl (numIn c 1000000000).isSome)) τ := e_isnum most9 (hf c (by rw [e0]; simp)) τ
            cases e4 : numIn c 1000000000 with
            | none =>
              rw [e4] at hn
              have e3 : rowW ws last = .error 2 := by rw [e0]; simp [rowW, q1, q2, e4]
              rw [e3]
              simp [callD, outR, retU, gSeq, gIf, gRet, gRetN, gSet, gExpr, VL.gNil, gNever, gUnp, gPar, gPar3, eVar, eC, elNil, elCons, eCall, gCall, eCB, gCB, vws_cons, vws_nil, c1, c2, eOp, opD, bOf, bAnd, bOr, bNeg, eAnd, eOr, eNot, eIf, eIs, isN, eIsi, D.ty, isTy, eChain, oLe, oLt, oGt, oGe, oAdd, oSub, fLen, fLenD, D.seq, eTup, gTupD, frzs, eLst, gLstD, allocL, eIx, oIx, fMin, take_self, R.bind, liftE, RS.seq, tName, tTupN, tNames, eMt, gMt, tyD, d__law_row_wrong, g__law_row_wrong, a0, q0, hk', n2, a1, ho, q1, q2, n3, a2, oPow, hn]
            | some n =>
              rw [e4] at hn
              by_cases hm : more = []
              · have n4 : ¬ (3 : Int) < (ws.length : Int) := by rw [e0, hm]; simp
                have e3 : rowW ws last = .ok (b, n) := by rw [e0]; simp [rowW, q1, q2, e4, hm]
                rw [e3]
                simp [callD, outR, retU, gSeq, gIf, gRet, gRetN, gSet, gExpr, VL.gNil, gNever, gUnp, gPar, gPar3, eVar, eC, elNil, elCons, eCall, gCall, eCB, gCB, vws_cons, vws_nil, c1, c2, eOp, opD, bOf, bAnd, bOr, bNeg, eAnd, eOr, eNot, eIf, eIs, isN, eIsi, D.ty, isTy, eChain, oLe, oLt, oGt, oGe, oAdd, oSub, fLen, fLenD, D.seq, eTup, gTupD, frzs, eLst, gLstD, allocL, eIx, oIx, fMin, take_self, R.bind, liftE, RS.seq, tName, tTupN, tNames, eMt, gMt, tyD, d__law_row_wrong, g__law_row_wrong, a0, q0, hk', n2, a1, ho, q1, q2, n3, a2, oPow, hn, n4, eNeg]
              · have n4 : (3 : Int) < (ws.length : Int) := by
                  have : more.length ≠ 0 := fun z => hm (List.length_eq_zero_iff.mp z)
                  rw [e0]; simp; omega
                have e3 : rowW ws last = .error 3 := by rw [e0]; simp [rowW, q1, q2, e4, hm]
                rw [e3]
                simp [callD, outR, retU, gSeq, gIf, gRet, gRetN, gSet, gExpr, VL.gNil, gNever, gUnp, gPar, gPar3, eVar, eC, elNil, elCons, eCall, gCall, eCB, gCB, vws_cons, vws_nil, c1, c2, eOp, opD, bOf, bAnd, bOr, bNeg, eAnd, eOr, eNot, eIf, eIs, isN, eIsi, D.ty, isTy, eChain, oLe, oLt, oGt, oGe, oAdd, oSub, fLen, fLenD, D.seq, eTup, gTupD, frzs, eLst, gLstD, allocL, eIx, oIx, fMin, take_self, R.bind, liftE, RS.seq, tName, tTupN, tNames, eMt, gMt, tyD, d__law_row_wrong, g__law_row_wrong, a0, q0, hk', n2, a1, ho, q1, q2, n3, a2, oPow, hn, n4]
        · have e3 : rowW ws last = .error 1 := by rw [e0]; simp only [rowW]; rw [if_neg q]
          rw [e3]
          cases q1 : isOwn b with
          | false =>
            rw [q1] at ho
            simp [callD, outR, retU, gSeq, gIf, gRet, gRetN, gSet, gExpr, VL.gNil, gNever, gUnp, gPar, gPar3, eVar, eC, elNil, elCons, eCall, gCall, eCB, gCB, vws_cons, vws_nil, c1, c2, eOp, opD, bOf, bAnd, bOr, bNeg, eAnd, eOr, eNot, eIf, eIs, isN, eIsi, D.ty, isTy, eChain, oLe, oLt, oGt, oGe, oAdd, oSub, fLen, fLenD, D.seq, eTup, gTupD, frzs, eLst, gLstD, allocL, eIx, oIx, fMin, take_self, R.bind, liftE, RS.seq, tName, tTupN, tNames, eMt, gMt, tyD, d__law_row_wrong, g__law_row_wrong, a0, q0, hk', n2, a1, ho]
          | true =>
            rw [q1] at ho
            have q2 : ¬ last < b := fun z => q ⟨q1, z⟩
            simp [callD, outR, retU, gSeq, gIf, gRet, gRetN, gSet, gExpr, VL.gNil, gNever, gUnp, gPar, gPar3, eVar, eC, elNil, elCons, eCall, gCall, eCB, gCB, vws_cons, vws_nil, c1, c2, eOp, opD, bOf, bAnd, bOr, bNeg, eAnd, eOr, eNot, eIf, eIs, isN, eIsi, D.ty, isTy, eChain, oLe, oLt, oGt, oGe, oAdd, oSub, fLen, fLenD, D.seq, eTup, gTupD, frzs, eLst, gLstD, allocL, eIx, oIx, fMin, take_self, R.bind, liftE, RS.seq, tName, tTupN, tNames, eMt, gMt, tyD, d__law_row_wrong, g__law_row_wrong, a0, q0, hk', n2, a1, ho, q2]
    · have hk' : ¬ (k : Int) < 8 := by omega
      have hc : codeW ws last k = -2 := by unfold codeW; rw [if_neg fun z => hk z.2]
      rw [hc]
      simp [callD, outR, retU, gSeq, gIf, gRet, gRetN, gSet, gExpr, VL.gNil, gNever, gUnp, gPar, gPar3, eVar, eC, elNil, elCons, eCall, gCall, eCB, gCB, vws_cons, vws_nil, c1, c2, eOp, opD, bOf, bAnd, bOr, bNeg, eAnd, eOr, eNot, eIf, eIs, isN, eIsi, D.ty, isTy, eChain, oLe, oLt, oGt, oGe, oAdd, oSub, fLen, fLenD, D.seq, eTup, gTupD, frzs, eLst, gLstD, allocL, eIx, oIx, fMin, take_self, R.bind, liftE, RS.seq, tName, tTupN, tNames, eMt, gMt, tyD, d__law_row_wrong, g__law_row_wrong, a0, q0, hk', eNeg]
  · have q0 : oEq (.str a) (.str [119, 101, 105, 103, 104, 116]) τ = .ok (.d (.bl false)) τ := by
      have : ¬ a = [119, 101, 105, 103, 104, 116] := ha
      simp [oEq, this]
    have hc : codeW ws last k = -2 := by unfold codeW; rw [if_neg fun z => ha (by have := z.1; rw [e0] at this; exact Option.some.inj this)]
    rw [hc]
    simp [callD, outR, retU, gSeq, gIf, gRet, gRetN, gSet, gExpr, VL.gNil, gNever, gUnp, gPar, gPar3, eVar, eC, elNil, elCons, eCall, gCall, eCB, gCB, vws_cons, vws_nil, c1, c2, eOp, opD, bOf, bAnd, bOr, bNeg, eAnd, eOr, eNot, eIf, eIs, isN, eIsi, D.ty, isTy, eChain, oLe, oLt, oGt, oGe, oAdd, oSub, fLen, fLenD, D.seq, eTup, gTupD, frzs, eLst, gLstD, allocL, eIx, oIx, fMin, take_self, R.bind, liftE, RS.seq, tName, tTupN, tNames, eMt, gMt, tyD, d__law_row_wrong, g__law_row_wrong, a0, q0, eNeg]
/-- what the law says of a row of a cap -/
def pairD (r e : Nat) : D := .tup [.int r, .int e]
def codeC (rows : List T) (i : Nat) (t : T) : D := if i < rows.length then (match capWs (wordsAt rows i) t with
  | .ok _ => .non
  | .error e => pairD i e) else pairD rows.length 0
theorem e_cap_wrong {rows : List T} {i : Nat} {title : T} (hf : ∀ r ∈ rows, Fine r) (τ : Store) : d__law_cap_wrong [.d (.lst (rows.map .str)), .d (.int i), .d (.str title)] τ = .ok (.d (codeC rows i title)) τ := by
  have two : 2 ≤ sizeLine := by rw [sl_eq]; omega
  unfold codeC
  by_cases hi : i < rows.length
  · have hi' : ¬ (rows.length : Int) ≤ (i : Int) := by omega
    rw [if_pos hi]
    have hg : rows[i]? = some rows[i] := List.getElem?_eq_getElem hi
    have hw : wordsAt rows i = sp 32 rows[i] := by unfold wordsAt; rw [hg]
    have hr := hf rows[i] (List.getElem_mem hi)
    have ha : atI (rows.map D.str) (i : Int) = some (.str rows[i]) := by rw [atI_nat, List.getElem?_map, hg]; rfl
    rw [hw]
    have hsw : ∀ w ∈ sp 32 rows[i], Fine w := fun w m => fine_sp hr m
    have hne : sp 32 rows[i] ≠ [] := spl_ne 32 rows[i] []
    have hr2 : rows[i].length + 2 ≤ sizeLine := by rw [sl_eq]; have := hr.len; omega
    generalize rows[i] = r at ha hr2 hsw hne
    obtain ⟨ws, hW⟩ : ∃ ws, TL.spl [32] 0 [] r = ws := ⟨_, rfl⟩
    have hW' : sp 32 r = ws := hW
    rw [hW'] at hsw hne
    rw [hW']
    obtain ⟨a, r1, e0⟩ : ∃ a r1, ws = a :: r1 := by
      cases ws with
      | nil => exact absurd rfl hne
      | cons a r1 => exact ⟨a, r1, rfl⟩
    have a0 := at0 e0
    by_cases h0 : a = title
    · have q0 : oNe (.str a) (.str title) τ = .ok (.d (.bl false)) τ := by simp [oNe, oEq, bNot, h0]
      cases r1 with
      | nil =>
        have n2 : (ws.length : Int) < 2 := by rw [e0]; simp
        have e3 : capWs ws title = .error 1 := by rw [e0]; simp [capWs, h0]
        rw [e3]
        simp [callD, outR, retU, gSeq, gIf, gRet, gRetN, gSet, gExpr, VL.gNil, gNever, gUnp, gPar, gPar3, eVar, eC, elNil, elCons, eCall, gCall, eCB, gCB, vws_cons, vws_nil, c1, c2, eOp, opD, bOf, bAnd, bOr, bNeg, eAnd, eOr, eNot, eIf, eIs, isN, eIsi, D.ty, isTy, eChain, oLe, oLt, oGt, oGe, oAdd, oSub, fLen, fLenD, D.seq, eTup, gTupD, frzs, eLst, gLstD, allocL, eIx, oIx, fMin, take_self, R.bind, liftE, RS.seq, tName, tTupN, tNames, eMt, gMt, tyD, d__law_cap_wrong, g__law_cap_wrong, hi', ha, mSplit, hr2, hW, a0, q0, n2, two, pairD]
      | cons b more =>
        have n2 : ¬ (ws.length : Int) < 2 := by rw [e0]; simp; omega
        have a1 := at1 e0
        by_cases hd : b = [45]
        · have q1 : oNe (.str b) (.str [45]) τ = .ok (.d (.bl false)) τ := by simp [oNe, oEq, bNot, hd]
          by_cases hm : more = []
          · have n3 : ¬ (2 : Int) < (ws.length : Int) := by rw [e0, hm]; simp
            have e3 : capWs ws title = .ok none := by rw [e0]; simp [capWs, h0, hd, hm]
            rw [e3]
            simp [callD, outR, retU, gSeq, gIf, gRet, gRetN, gSet, gExpr, VL.gNil, gNever, gUnp, gPar, gPar3, eVar, eC, elNil, elCons, eCall, gCall, eCB, gCB, vws_cons, vws_nil, c1, c2, eOp, opD, bOf, bAnd, bOr, bNeg, eAnd, eOr, eNot, eIf, eIs, isN, eIsi, D.ty, isTy, eChain, oLe, oLt, oGt, oGe, oAdd, oSub, fLen, fLenD, D.seq, eTup, gTupD, frzs, eLst, gLstD, allocL, eIx, oIx, fMin, take_self, R.bind, liftE, RS.seq, tName, tTupN, tNames, eMt, gMt, tyD, d__law_cap_wrong, g__law_cap_wrong, hi', ha, mSplit, hr2, hW, a0, q0, n2, a1, q1, n3]
          · have n3 : (2 : Int) < (ws.length : Int) := by
              have : more.length ≠ 0 := fun z => hm (List.length_eq_zero_iff.mp z)
              rw [e0]; simp; omega
            have e3 : capWs ws title = .error 2 := by rw [e0]; simp [capWs, h0, hd, hm]
            rw [e3]
            simp [callD, outR, retU, gSeq, gIf, gRet, gRetN, gSet, gExpr, VL.gNil, gNever, gUnp, gPar, gPar3, eVar, eC, elNil, elCons, eCall, gCall, eCB, gCB, vws_cons, vws_nil, c1, c2, eOp, opD, bOf, bAnd, bOr, bNeg, eAnd, eOr, eNot, eIf, eIs, isN, eIsi, D.ty, isTy, eChain, oLe, oLt, oGt, oGe, oAdd, oSub, fLen, fLenD, D.seq, eTup, gTupD, frzs, eLst, gLstD, allocL, eIx, oIx, fMin, take_self, R.bind, liftE, RS.seq, tName, tTupN, tNames, eMt, gMt, tyD, d__law_cap_wrong, g__law_cap_wrong, hi', ha, mSplit, hr2, hW, a0, q0, n2, a1, q1, n3, two, pairD]
        · have q1 : oNe (.str b) (.str [45]) τ = .ok (.d (.bl true)) τ := by simp [oNe, oEq, bNot, hd]
          have hn : d__law_is_number [.d (.str b), .d (.int 10000000000)] τ = .ok (.d (.bl (numIn b 10000000000).isSome)) τ := e_isnum most10 (hsw b (by rw [e0]; simp)) τ
          cases e4 : numIn b 10000000000 with
          | none =>
            rw [e4] at hn
            have e3 : capWs ws title = .error 1 := by rw [e0]; simp [capWs, h0, hd, e4]
            rw [e3]
            simp [callD, outR, retU, gSeq, gIf, gRet, gRetN, gSet, gExpr, VL.gNil, gNever, gUnp, gPar, gPar3, eVar, eC, elNil, elCons, eCall, gCall, eCB, gCB, vws_cons, vws_nil, c1, c2, eOp, opD, bOf, bAnd, bOr, bNeg, eAnd, eOr, eNot, eIf, eIs, isN, eIsi, D.ty, isTy, eChain, oLe, oLt, oGt, oGe, oAdd, oSub, fLen, fLenD, D.seq, eTup, gTupD, frzs, eLst, gLstD, allocL, eIx, oIx, fMin, take_self, R.bind, liftE, RS.seq, tName, tTupN, tNames, eMt, gMt, tyD, d__law_cap_wrong, g__law_cap_wrong, hi', ha, mSplit, hr2, hW, a0, q0, n2, a1, q1, oPow, hn, two, pairD]
          | some n =>
            rw [e4] at hn
            by_cases hm : more = []
            · have n3 : ¬ (2 : Int) < (ws.length : Int) := by rw [e0, hm]; simp
              have e3 : capWs ws title = .ok (some n) := by rw [e0]; simp [capWs, h0, hd, e4, hm]
              rw [e3]
              simp [callD, outR, retU, gSeq, gIf, gRet, gRetN, gSet, gExpr, VL.gNil, gNever, gUnp, gPar, gPar3, eVar, eC, elNil, elCons, eCall, gCall, eCB, gCB, vws_cons, vws_nil, c1, c2, eOp, opD, bOf, bAnd, bOr, bNeg, eAnd, eOr, eNot, eIf, eIs, isN, eIsi, D.ty, isTy, eChain, oLe, oLt, oGt, oGe, oAdd, oSub, fLen, fLenD, D.seq, eTup, gTupD, frzs, eLst, gLstD, allocL, eIx, oIx, fMin, take_self, R.bind, liftE, RS.seq, tName, tTupN, tNames, eMt, gMt, tyD, d__law_cap_wrong, g__law_cap_wrong, hi', ha, mSplit, hr2, hW, a0, q0, n2, a1, q1, oPow, hn, n3]
            · have n3 : (2 : Int) < (ws.length : Int) := by
                have : more.length ≠ 0 := fun z => hm (List.length_eq_zero_iff.mp z)
                rw [e0]; simp; omega
              have e3 : capWs ws title = .error 2 := by rw [e0]; simp [capWs, h0, hd, e4, hm]
              rw [e3]
              simp [callD, outR, retU, gSeq, gIf, gRet, gRetN, gSet, gExpr, VL.gNil, gNever, gUnp, gPar, gPar3, eVar, eC, elNil, elCons, eCall, gCall, eCB, gCB, vws_cons, vws_nil, c1, c2, eOp, opD, bOf, bAnd, bOr, bNeg, eAnd, eOr, eNot, eIf, eIs, isN, eIsi, D.ty, isTy, eChain, oLe, oLt, oGt, oGe, oAdd, oSub, fLen, fLenD, D.seq, eTup, gTupD, frzs, eLst, gLstD, allocL, eIx, oIx, fMin, take_self, R.bind, liftE, RS.seq, tName, tTupN, tNames, eMt, gMt, tyD, d__law_cap_wrong, g__law_cap_wrong, hi', ha, mSplit, hr2, hW, a0, q0, n2, a1, q1, oPow, hn, n3, two, pairD]
    · have q0 : oNe (.str a) (.str title) τ = .ok (.d (.bl true)) τ := by simp [oNe, oEq, bNot, h0]
      have e3 : capWs ws title = .error 0 := by rw [e0]; simp [capWs, h0]
      rw [e3]
      simp [callD, outR, retU, gSeq, gIf, gRet, gRetN, gSet, gExpr, VL.gNil, gNever, gUnp, gPar, gPar3, eVar, eC, elNil, elCons, eCall, gCall, eCB, gCB, vws_cons, vws_nil, c1, c2, eOp, opD, bOf, bAnd, bOr, bNeg, eAnd, eOr, eNot, eIf, eIs, isN, eIsi, D.ty, isTy, eChain, oLe, oLt, oGt, oGe, oAdd, oSub, fLen, fLenD, D.seq, eTup, gTupD, frzs, eLst, gLstD, allocL, eIx, oIx, fMin, take_self, R.bind, liftE, RS.seq, tName, tTupN, tNames, eMt, gMt, tyD, d__law_cap_wrong, g__law_cap_wrong, hi', ha, mSplit, hr2, hW, a0, q0, two, pairD]
  · have hi' : (rows.length : Int) ≤ (i : Int) := by omega
    rw [if_neg hi]
    simp [callD, outR, retU, gSeq, gIf, gRet, gRetN, gSet, gExpr, VL.gNil, gNever, gUnp, gPar, gPar3, eVar, eC, elNil, elCons, eCall, gCall, eCB, gCB, vws_cons, vws_nil, c1, c2, eOp, opD, bOf, bAnd, bOr, bNeg, eAnd, eOr, eNot, eIf, eIs, isN, eIsi, D.ty, isTy, eChain, oLe, oLt, oGt, oGe, oAdd, oSub, fLen, fLenD, D.seq, eTup, gTupD, frzs, eLst, gLstD, allocL, eIx, oIx, fMin, take_self, R.bind, liftE, RS.seq, tName, tTupN, tNames, eMt, gMt, tyD, d__law_cap_wrong, g__law_cap_wrong, hi', two, pairD]
end K82

/-! k82: the law's reader, whole. -/
namespace K82
open PySem PySem.Spec PySem.NumText PyProof.Rows L2 LamX VL
def tL : EB := (bOf (eOp oLt (eVar 3) (eCB (c1 fLen) (elCons (eVar 2) elNil))))
def gL : GS := (gSeq (gSet 5 (eCall 3 d__law_row_wrong (elCons (eMt "str" mSplit (eIx (eVar 2) (eVar 3)) (elCons (eC (.str [32])) elNil)) (elCons (eVar 4) (elCons (eVar 3) elNil)))))
  (gSeq (gIf (bOf (eOp oEq (eVar 5) (eNeg (eC (.int 2)))))
  gBreak
  VL.gNil)
  (gSeq (gIf (bOf (eOp oGe (eVar 5) (eC (.int 0))))
  (gRet (eTup (elCons (eVar 3) (elCons (eVar 5) elNil))))
  VL.gNil)
  (gSeq (gSet 4 (eIx (eMt "str" mSplit (eIx (eVar 2) (eVar 3)) (elCons (eC (.str [32])) elNil)) (eC (.int 1))))
  (gSet 3 (eOp (oAdd false) (eVar 3) (eC (.int 1))))))))
def fL : GS := (gSeq (gSet 5 (eCall 3 d__law_cap_wrong (elCons (eVar 2) (elCons (eVar 3) (elCons (eVar 1) elNil)))))
  (gSeq (gIf (bOf (eIs true (eVar 5)))
  (gRet (eVar 5))
  VL.gNil)
  (gSet 3 (eOp (oAdd false) (eVar 3) (eC (.int 1))))))
theorem g_wrong_eq : g__law_wrong = (gSeq (gPar3 2 3 4 (elCons (eMt "str" mSplit (eVar 0) (elCons (eC (.str [10])) elNil)) (elCons (eC (.int 0)) (elCons (eC (.str [])) elNil))))
  (gSeq (gWhile (fun _ _ => 20) tL gL)
  (gSeq (gFor (dList (eLst false (elCons (eC (.str LOA)) (elCons (eC (.str RUS)) elNil)))) (tName 1) fL)
  (gRet (eIf (bOf (eOp oGt (eCB (c1 fLen) (elCons (eVar 2) elNil)) (eVar 3))) (eTup (elCons (eVar 3) (elCons (eC (.int 0)) elNil))) (eC .non)))))) := rfl
section
variable {rows : List T} {τ : Store}
theorem head_sp {r : T} {ws : List T} (h : sp 32 r = ws) : ∃ a r1, ws = a :: r1 := by
  cases ws with
  | nil => exact absurd h (spl_ne 32 r [])
  | cons a r1 => exact ⟨a, r1, rfl⟩
theorem loopL (hf : ∀ r ∈ rows, Fine r) (x0 t1 : Option U) : ∀ (n : Nat) (rs : List T) (k : Nat) (last : T) (acc : WS) (w : Option U), rows.drop k = rs → acc.length = k → k ≤ 8 → 9 ≤ n + k →
    match goR rs k last acc with
    | .ok ws => ∃ l' w', whileGo tL gL n [x0, t1, some (.d (.lst (rows.map .str))), some (.d (.int k)), some (.d (.str last)), w] τ = .nx [x0, t1, some (.d (.lst (rows.map .str))), some (.d (.int ws.length)), l', w'] τ
    | .error (r, e) => whileGo tL gL n [x0, t1, some (.d (.lst (rows.map .str))), some (.d (.int k)), some (.d (.str last)), w] τ = .rt (.d (pairD r e)) τ
  | 0, rs, k, last, acc, w, hd, hk, h8, h9 => by omega
  | n + 1, [], k, last, acc, w, hd, hk, h8, h9 => by
    have hl : ¬ (k : Int) < (rows.length : Int) := by
      have := List.drop_eq_nil_iff.mp hd
      omega
    have ht : tL [x0, t1, some (.d (.lst (rows.map .str))), some (.d (.int k)), some (.d (.str last)), w] τ = .ok false τ := by simp [callD, outR, retU, gSeq, gIf, gRet, gRetN, gSet, gExpr, VL.gNil, gNever, gUnp, gPar, gPar3, eVar, eC, elNil, elCons, eCall, gCall, eCB, gCB, vws_cons, vws_nil, c1, c2, eOp, opD, bOf, bAnd, bOr, bNeg, eAnd, eOr, eNot, eIf, eIs, isN, eIsi, D.ty, isTy, eChain, oLe, oLt, oGt, oGe, oEq, oNe, bNot, oAdd, oSub, fLen, fLenD, D.seq, eTup, gTupD, frzs, eLst, gLstD, allocL, eIx, oIx, fMin, take_self, R.bind, liftE, RS.seq, tName, tTupN, tNames, eMt, gMt, tyD, tL, hl]
    simp only [goR]
    refine ⟨some (.d (.str last)), w, ?_⟩
    · unfold whileGo
      rw [ht]
      simp only [liftE_ok, Bool.false_eq_true, if_false, hk]
  | n + 1, r :: rs, k, last, acc, w, hd, hk, h8, h9 => by
    have hlt : k < rows.length := by
      rcases Nat.lt_or_ge k rows.length with h | h
      · exact h
      · rw [List.drop_eq_nil_of_le h] at hd; cases hd
    have hl : (k : Int) < (rows.length : Int) := by omega
    have ht : tL [x0, t1, some (.d (.lst (rows.map .str))), some (.d (.int k)), some (.d (.str last)), w] τ = .ok true τ := by simp [callD, outR, retU, gSeq, gIf, gRet, gRetN, gSet, gExpr, VL.gNil, gNever, gUnp, gPar, gPar3, eVar, eC, elNil, elCons, eCall, gCall, eCB, gCB, vws_cons, vws_nil, c1, c2, eOp, opD, bOf, bAnd, bOr, bNeg, eAnd, eOr, eNot, eIf, eIs, isN, eIsi, D.ty, isTy, eChain, oLe, oLt, oGt, oGe, oEq, oNe, bNot, oAdd, oSub, fLen, fLenD, D.seq, eTup, gTupD, frzs, eLst, gLstD, allocL, eIx, oIx, fMin, take_self, R.bind, liftE, RS.seq, tName, tTupN, tNames, eMt, gMt, tyD, tL, hl]
    rw [List.drop_eq_getElem_cons hlt] at hd
    have er : rows[k] = r := (List.cons.inj hd).1
    have hd' : rows.drop (k + 1) = rs := (List.cons.inj hd).2
    have ha : atI (rows.map D.str) (k : Int) = some (.str r) := by rw [atI_nat, List.getElem?_map, List.getElem?_eq_getElem hlt, er]; rfl
    have hr : Fine r := er ▸ hf rows[k] (List.getElem_mem hlt)
    have hr2 : r.length + 2 ≤ sizeLine := by rw [sl_eq]; have := hr.len; omega
    have hsw : ∀ v ∈ sp 32 r, Fine v := fun v m => fine_sp hr m
    have two : 2 ≤ sizeLine := by rw [sl_eq]; omega
    obtain ⟨ws, hW⟩ : ∃ ws, TL.spl [32] 0 [] r = ws := ⟨_, rfl⟩
    have hW' : sp 32 r = ws := hW
    obtain ⟨a, r1, e0⟩ := head_sp hW'
    have hne : ws ≠ [] := by rw [e0]; simp
    rw [hW'] at hsw
    have hc := e_row_wrong (last := last) (k := k) hne hsw τ
    unfold goR whileGo
    rw [ht, hW']
    simp only [liftE_ok, if_true]
    by_cases q : k < 8 ∧ ws.head? = some WEI
    · rw [if_pos q]
      have hcw : codeW ws last k = match rowW ws last with
        | .ok _ => -1
        | .error e => (e : Int) := by unfold codeW; rw [if_pos ⟨q.2, q.1⟩] <;> rfl
      cases e : rowW ws last with
      | error e' =>
        rw [hcw, e] at hc
        simp only at hc
        have h2 : ¬ (e' : Int) = -2 := by omega
        have h3 : (0 : Int) ≤ (e' : Int) := by omega
        have hg : gL [x0, t1, some (.d (.lst (rows.map .str))), some (.d (.int k)), some (.d (.str last)), w] τ = .rt (.d (pairD k e')) τ := by
          simp [callD, outR, retU, gSeq, gIf, gRet, gRetN, gSet, gExpr, VL.gNil, gNever, gUnp, gPar, gPar3, eVar, eC, elNil, elCons, eCall, gCall, eCB, gCB, vws_cons, vws_nil, c1, c2, eOp, opD, bOf, bAnd, bOr, bNeg, eAnd, eOr, eNot, eIf, eIs, isN, eIsi, D.ty, isTy, eChain, oLe, oLt, oGt, oGe, oEq, oNe, bNot, oAdd, oSub, fLen, fLenD, D.seq, eTup, gTupD, frzs, eLst, gLstD, allocL, eIx, oIx, fMin, take_self, R.bind, liftE, RS.seq, tName, tTupN, tNames, eMt, gMt, tyD, gL, ha, mSplit, hr2, hW, hc, h2, h3, eNeg, two, pairD]
        rw [hg]
      | ok p =>
        rw [hcw, e] at hc
        simp only at hc
        obtain ⟨x, e1, o1, o2, o3⟩ := rowW_ok e
        have a1 := at1 e1
        have hg : gL [x0, t1, some (.d (.lst (rows.map .str))), some (.d (.int k)), some (.d (.str last)), w] τ = .nx [x0, t1, some (.d (.lst (rows.map .str))), some (.d (.int ((k + 1 : Nat) : Int))), some (.d (.str p.1)), some (.d (.int (-1)))] τ := by
          simp [callD, outR, retU, gSeq, gIf, gRet, gRetN, gSet, gExpr, VL.gNil, gNever, gUnp, gPar, gPar3, eVar, eC, elNil, elCons, eCall, gCall, eCB, gCB, vws_cons, vws_nil, c1, c2, eOp, opD, bOf, bAnd, bOr, bNeg, eAnd, eOr, eNot, eIf, eIs, isN, eIsi, D.ty, isTy, eChain, oLe, oLt, oGt, oGe, oEq, oNe, bNot, oAdd, oSub, fLen, fLenD, D.seq, eTup, gTupD, frzs, eLst, gLstD, allocL, eIx, oIx, fMin, take_self, R.bind, liftE, RS.seq, tName, tTupN, tNames, eMt, gMt, tyD, gL, ha, mSplit, hr2, hW, hc, eNeg, a1]
        rw [hg]
        exact loopL hf x0 t1 n rs (k + 1) p.1 (acc ++ [p]) (some (.d (.int (-1)))) hd' (by simp; omega) (by omega) (by omega)
    · rw [if_neg q]
      have hcw : codeW ws last k = -2 := by unfold codeW; rw [if_neg fun z => q ⟨z.2, z.1⟩]
      rw [hcw] at hc
      have hg : gL [x0, t1, some (.d (.lst (rows.map .str))), some (.d (.int k)), some (.d (.str last)), w] τ = .bk [x0, t1, some (.d (.lst (rows.map .str))), some (.d (.int k)), some (.d (.str last)), some (.d (.int (-2)))] τ := by
        simp [callD, outR, retU, gSeq, gIf, gRet, gRetN, gSet, gExpr, VL.gNil, gNever, gUnp, gPar, gPar3, eVar, eC, elNil, elCons, eCall, gCall, eCB, gCB, vws_cons, vws_nil, c1, c2, eOp, opD, bOf, bAnd, bOr, bNeg, eAnd, eOr, eNot, eIf, eIs, isN, eIsi, D.ty, isTy, eChain, oLe, oLt, oGt, oGe, oEq, oNe, bNot, oAdd, oSub, fLen, fLenD, D.seq, eTup, gTupD, frzs, eLst, gLstD, allocL, eIx, oIx, fMin, take_self, R.bind, liftE, RS.seq, tName, tTupN, tNames, eMt, gMt, tyD, gL, ha, mSplit, hr2, hW, hc, eNeg, gBreak]
      rw [hg]
      exact ⟨some (.d (.str last)), some (.d (.int (-2))), by simp only [hk]⟩
end
theorem codeC_eq {rows : List T} {i : Nat} {t : T} (ht : t ≠ []) (h : i ≤ rows.length) : codeC rows i t = match capWs (wordsAt rows i) t with
    | .ok _ => .non
    | .error e => pairD i e := by
  unfold codeC
  by_cases q : i < rows.length
  · rw [if_pos q] <;> rfl
  · have : i = rows.length := by omega
    have hw : wordsAt rows i = [[]] := by unfold wordsAt; rw [List.getElem?_eq_none (by omega)]
    rw [if_neg q, hw, capWs_nil ht, this]
def codeT : Except (Nat × Nat) (WS × Option Nat × Option Nat) → D
  | .ok _ => .non
  | .error (r, e) => pairD r e
theorem e_law_wrong {line : T} (h : Fine line) (τ : Store) : d__law_wrong [.d (.str line)] τ = .ok (.d (codeT (rdR (sp 10 line)))) τ := by
  have hf : ∀ r ∈ sp 10 line, Fine r := fun r m => fine_sp h m
  have hl2 : line.length + 2 ≤ sizeLine := by rw [sl_eq]; have := h.len; omega
  have two : 2 ≤ sizeLine := by rw [sl_eq]; omega
  obtain ⟨rows, hR⟩ : ∃ rows, TL.spl [10] 0 [] line = rows := ⟨_, rfl⟩
  have hR' : sp 10 line = rows := hR
  rw [hR'] at hf ⊢
  have lp := loopL (τ := τ) hf (some (.d (.str line))) none 20 rows 0 [] [] none (by simp) rfl (by omega) (by omega)
  have st : ∀ g : GS, callD 6 (gSeq (gPar3 2 3 4 (elCons (eMt "str" mSplit (eVar 0) (elCons (eC (.str [10])) elNil)) (elCons (eC (.int 0)) (elCons (eC (.str [])) elNil)))) g) [.d (.str line)] τ =
      outR τ.length (g [some (.d (.str line)), none, some (.d (.lst (rows.map .str))), some (.d (.int (0 : Nat))), some (.d (.str [])), none] τ) := fun g => by
    simp [callD, outR, retU, gSeq, gIf, gRet, gRetN, gSet, gExpr, VL.gNil, gNever, gUnp, gPar, gPar3, eVar, eC, elNil, elCons, eCall, gCall, eCB, gCB, vws_cons, vws_nil, c1, c2, eOp, opD, bOf, bAnd, bOr, bNeg, eAnd, eOr, eNot, eIf, eIs, isN, eIsi, D.ty, isTy, eChain, oLe, oLt, oGt, oGe, oEq, oNe, bNot, oAdd, oSub, fLen, fLenD, D.seq, eTup, gTupD, frzs, eLst, gLstD, allocL, eIx, oIx, fMin, take_self, R.bind, liftE, RS.seq, tName, tTupN, tNames, eMt, gMt, tyD, mSplit, hl2, hR]
  unfold d__law_wrong
  rw [g_wrong_eq, st]
  unfold rdR
  have sq : ∀ (g h : GS) (ρ : VL.Env), gSeq g h ρ τ = (g ρ τ).seq h := fun _ _ _ => rfl
  have wh : ∀ (t : EB) (g : GS) (ρ : VL.Env), gWhile (fun _ _ => 20) t g ρ τ = whileGo t g 20 ρ τ := fun _ _ _ => rfl
  rw [sq, wh]
  cases e0 : goR rows 0 [] [] with
  | error x =>
    obtain ⟨r, e⟩ := x
    rw [e0] at lp
    simp only at lp
    rw [lp]
    simp [codeT, outR, retU]
  | ok ws =>
    rw [e0] at lp
    obtain ⟨l', w', lp⟩ := lp
    have g := goR0 e0
    have gl := g.len
    rw [lp, RS.seq_nx]
    have c1 := e_cap_wrong (rows := rows) (i := ws.length) (title := LOA) hf τ
    rw [codeC_eq loa_ne gl] at c1
    cases e1 : capWs (wordsAt rows ws.length) LOA with
    | error x =>
      rw [e1] at c1
      simp only at c1
      simp [callD, outR, retU, gSeq, gIf, gRet, gRetN, gSet, gExpr, VL.gNil, gNever, gUnp, gPar, gPar3, eVar, eC, elNil, elCons, eCall, gCall, eCB, gCB, vws_cons, vws_nil, c1, c2, eOp, opD, bOf, bAnd, bOr, bNeg, eAnd, eOr, eNot, eIf, eIs, isN, eIsi, D.ty, isTy, eChain, oLe, oLt, oGt, oGe, oEq, oNe, bNot, oAdd, oSub, fLen, fLenD, D.seq, eTup, gTupD, frzs, eLst, gLstD, allocL, eIx, oIx, fMin, take_self, R.bind, liftE, RS.seq, tName, tTupN, tNames, eMt, gMt, tyD, fL, gFor, dList, gItL, forGo, two, c1, e1, codeT, pairD]
    | ok a =>
      rw [e1] at c1
      simp only at c1
      obtain ⟨r1, f1, _, _⟩ := words_row loa_ne e1
      have l1 : ws.length < rows.length := (List.getElem?_eq_some_iff.mp f1).1
      have c2 : d__law_cap_wrong [.d (.lst (rows.map .str)), .d (.int ((ws.length : Int) + 1)), .d (.str RUS)] τ = .ok (.d (codeC rows (ws.length + 1) RUS)) τ := e_cap_wrong (rows := rows) (i := ws.length + 1) (title := RUS) hf τ
      rw [codeC_eq rus_ne (by omega)] at c2
      cases e2 : capWs (wordsAt rows (ws.length + 1)) RUS with
      | error x =>
        rw [e2] at c2
        simp only at c2
        simp [callD, outR, retU, gSeq, gIf, gRet, gRetN, gSet, gExpr, VL.gNil, gNever, gUnp, gPar, gPar3, eVar, eC, elNil, elCons, eCall, gCall, eCB, gCB, vws_cons, vws_nil, c1, c2, eOp, opD, bOf, bAnd, bOr, bNeg, eAnd, eOr, eNot, eIf, eIs, isN, eIsi, D.ty, isTy, eChain, oLe, oLt, oGt, oGe, oEq, oNe, bNot, oAdd, oSub, fLen, fLenD, D.seq, eTup, gTupD, frzs, eLst, gLstD, allocL, eIx, oIx, fMin, take_self, R.bind, liftE, RS.seq, tName, tTupN, tNames, eMt, gMt, tyD, fL, gFor, dList, gItL, forGo, two, c1, c2, e1, e2, codeT, pairD]
      | ok b =>
        rw [e2] at c2
        simp only at c2
        by_cases q : ws.length + 2 < rows.length
        · have q' : (ws.length : Int) + 1 + 1 < (rows.length : Int) := by omega
          simp [callD, outR, retU, gSeq, gIf, gRet, gRetN, gSet, gExpr, VL.gNil, gNever, gUnp, gPar, gPar3, eVar, eC, elNil, elCons, eCall, gCall, eCB, gCB, vws_cons, vws_nil, c1, c2, eOp, opD, bOf, bAnd, bOr, bNeg, eAnd, eOr, eNot, eIf, eIs, isN, eIsi, D.ty, isTy, eChain, oLe, oLt, oGt, oGe, oEq, oNe, bNot, oAdd, oSub, fLen, fLenD, D.seq, eTup, gTupD, frzs, eLst, gLstD, allocL, eIx, oIx, fMin, take_self, R.bind, liftE, RS.seq, tName, tTupN, tNames, eMt, gMt, tyD, fL, gFor, dList, gItL, forGo, two, c1, c2, e1, e2, codeT, pairD, q, q']
          omega
        · have q' : ¬ (ws.length : Int) + 1 + 1 < (rows.length : Int) := by omega
          simp [callD, outR, retU, gSeq, gIf, gRet, gRetN, gSet, gExpr, VL.gNil, gNever, gUnp, gPar, gPar3, eVar, eC, elNil, elCons, eCall, gCall, eCB, gCB, vws_cons, vws_nil, c1, c2, eOp, opD, bOf, bAnd, bOr, bNeg, eAnd, eOr, eNot, eIf, eIs, isN, eIsi, D.ty, isTy, eChain, oLe, oLt, oGt, oGe, oEq, oNe, bNot, oAdd, oSub, fLen, fLenD, D.seq, eTup, gTupD, frzs, eLst, gLstD, allocL, eIx, oIx, fMin, take_self, R.bind, liftE, RS.seq, tName, tTupN, tNames, eMt, gMt, tyD, fL, gFor, dList, gItL, forGo, two, c1, c2, e1, e2, codeT, pairD, q, q']
end K82

/-! k82: the program's reader. -/
namespace K82
open PySem PySem.Spec PySem.NumText PyProof.Rows L2 LamX VL
def tR : EB := (bAnd (bOf (eOp oLt (eCB (c1 fLenD) (elCons (eVar 4) elNil)) (eCB (c2 fMin) (elCons (eCB (c1 fLen) (elCons (eVar 3) elNil)) (elCons (eC (.int 8)) elNil))))) (bOf (eOp oEq (eIx (eMt "str" mSplit (eIx (eVar 3) (eCB (c1 fLenD) (elCons (eVar 4) elNil))) (elCons (eC (.str [32])) elNil)) (eC (.int 0))) (eC (.str [119, 101, 105, 103, 104, 116])))))
def gR : GS := (gSeq (gUnp (tTupN [5, 8]) (eCall 3 d_weight_in (elCons (eCB (c1 fLenD) (elCons (eVar 4) elNil)) (elCons (eMt "str" mSplit (eIx (eVar 3) (eCB (c1 fLenD) (elCons (eVar 4) elNil))) (elCons (eC (.str [32])) elNil)) (elCons (eVar 5) elNil)))))
  (gPutK (eVar 4) (eVar 5) (eVar 8)))
theorem g_read_eq : g_Ledger_read = (gSeq (gIf (bNeg (bOf (eIsiI "str" 1 (eVar 1))))
  (gRaise 0 [ROW, WORD] (elCons (eC (.int 0)) (elCons (eC (.int 0)) elNil)))
  VL.gNil)
  (gSeq (gPar3 3 4 5 (elCons (eMt "str" mSplit (eVar 1) (elCons (eC (.str [10])) elNil)) (elCons eDN (elCons (eC (.str [])) elNil))))
  (gSeq (gWhile (fun _ _ => 10) tR gR)
  (gSeq (gSet 2 (eCB (c1 fLenD) (elCons (eVar 4) elNil)))
  (gSeq (gPar 6 7 (elCons (eCall 3 d_cap_in (elCons (eVar 3) (elCons (eVar 2) (elCons (eC (.str LOA)) elNil)))) (elCons (eCall 3 d_cap_in (elCons (eVar 3) (elCons (eOp (oAdd false) (eVar 2) (eC (.int 1))) (elCons (eC (.str RUS)) elNil)))) elNil)))
  (gSeq (gIf (bOf (eOp oGt (eCB (c1 fLen) (elCons (eVar 3) elNil)) (eOp (oAdd false) (eVar 2) (eC (.int 2)))))
  (gRaise 0 [ROW, WORD] (elCons (eOp (oAdd false) (eVar 2) (eC (.int 2))) (elCons (eC (.int 0)) elNil)))
  VL.gNil)
  (gRet (eMakeL 0 1 1 2 d_Ledger___init__ [0, 1, 2, 3] (elCons (eLk (eVar 4)) elNil) (elCons (eVar 6) (elCons (eVar 7) elNil)))))))))) := rfl
theorem vw_last (τ : Store) (kvs : List (Ky × D)) : vw (τ ++ [.dct kvs]) (.loc τ.length) = some (.dct kvs) := by simp [vw]
theorem vws_last (τ : Store) (kvs : List (Ky × D)) : vws (τ ++ [.dct kvs]) [.loc τ.length] = some [.dct kvs] := by
  show (match vw (τ ++ [.dct kvs]) (.loc τ.length), some ([] : List D) with
    | some d, some ds => some (d :: ds)
    | _, _ => none) = _
  rw [vw_last]
theorem dput_new {acc : WS} {p : T × Nat} (h : ∀ q ∈ acc, q.1 ≠ p.1) : dput (acc.map kv) (.inr p.1) (.int p.2) = (acc ++ [p]).map kv := by
  unfold dput
  rw [if_neg ?_]
  · rw [List.map_append]; rfl
  · rw [List.any_map]
    intro z
    obtain ⟨q, hq, e⟩ := List.any_eq_true.mp z
    have e : (kv q).1 = .inr p.1 := of_decide_eq_true e
    exact h q hq (Sum.inr.inj e)
section
variable {rows : List T} {τ : Store}
theorem loopR (hf : ∀ r ∈ rows, Fine r) (x0 x1 x2 x6 x7 : Option U) : ∀ (n : Nat) (rs : List T) (k : Nat) (last : T) (acc : WS) (w : Option U), rows.drop k = rs → acc.length = k → k ≤ 8 → 9 ≤ n + k → (∀ p ∈ acc, ∀ t, last < t → p.1 < t) →
    match goR rs k last acc with
    | .ok ws => ∃ l' w', whileGo tR gR n [x0, x1, x2, some (.d (.lst (rows.map .str))), some (.loc τ.length), some (.d (.str last)), x6, x7, w] (τ ++ [.dct (acc.map kv)]) = .nx [x0, x1, x2, some (.d (.lst (rows.map .str))), some (.loc τ.length), l', x6, x7, w'] (τ ++ [.dct (ws.map kv)])
    | .error (r, e) => ∃ ρ' cl, whileGo tR gR n [x0, x1, x2, some (.d (.lst (rows.map .str))), some (.loc τ.length), some (.d (.str last)), x6, x7, w] (τ ++ [.dct (acc.map kv)]) = .exc 0 (xcp r e) ρ' (τ ++ [cl])
  | 0, rs, k, last, acc, w, hd, hk, h8, h9, hl => by omega
  | n + 1, [], k, last, acc, w, hd, hk, h8, h9, hl => by
    have hlen : rows.length ≤ k := List.drop_eq_nil_iff.mp hd
    have h1 := vws_last τ (acc.map kv)
    have hm : ¬ (acc.length : Int) < (if (8 : Int) < (rows.length : Int) then 8 else (rows.length : Int)) := by
      split <;> omega
    have ht : tR [x0, x1, x2, some (.d (.lst (rows.map .str))), some (.loc τ.length), some (.d (.str last)), x6, x7, w] (τ ++ [.dct (acc.map kv)]) = .ok false (τ ++ [.dct (acc.map kv)]) := by
      simp [callD, outR, retU, gSeq, gIf, gRet, gRetN, gSet, gExpr, VL.gNil, gNever, gUnp, gPar, gPar3, eVar, eC, elNil, elCons, eCall, gCall, eCB, gCB, vws_cons, vws_nil, c1, c2, eOp, opD, bOf, bAnd, bOr, bNeg, eAnd, eOr, eNot, eIf, eIs, isN, eIsi, D.ty, isTy, eChain, oLe, oLt, oGt, oGe, oEq, oNe, bNot, oAdd, oSub, fLen, fLenD, D.seq, eTup, gTupD, frzs, eLst, gLstD, allocL, eIx, oIx, fMin, take_self, R.bind, liftE, RS.seq, tName, tTupN, tNames, eMt, gMt, tyD, tR, h1, hm]
    simp only [goR]
    refine ⟨some (.d (.str last)), w, ?_⟩
    unfold whileGo
    rw [ht]
    simp only [liftE_ok, Bool.false_eq_true, if_false]
  | n + 1, r :: rs, k, last, acc, w, hd, hk, h8, h9, hl => by
    have hlt : k < rows.length := by
      rcases Nat.lt_or_ge k rows.length with h | h
      · exact h
      · rw [List.drop_eq_nil_of_le h] at hd; cases hd
    rw [List.drop_eq_getElem_cons hlt] at hd
    have er : rows[k] = r := (List.cons.inj hd).1
    have hd' : rows.drop (k + 1) = rs := (List.cons.inj hd).2
    have ha : atI (rows.map D.str) (acc.length : Int) = some (.str r) := by rw [hk, atI_nat, List.getElem?_map, List.getElem?_eq_getElem hlt, er]; rfl
    have hr : Fine r := er ▸ hf rows[k] (List.getElem_mem hlt)
    have hr2 : r.length + 2 ≤ sizeLine := by rw [sl_eq]; have := hr.len; omega
    have hsw : Short (sp 32 r) := fun v m => by have := (fine_sp hr m).len; omega
    obtain ⟨ws, hW⟩ : ∃ ws, TL.spl [32] 0 [] r = ws := ⟨_, rfl⟩
    have hW' : sp 32 r = ws := hW
    obtain ⟨a, r1, e0⟩ := head_sp hW'
    have hne : ws ≠ [] := by rw [e0]; simp
    have a0 := at0 e0
    rw [hW'] at hsw
    have h1 := vws_last τ (acc.map kv)
    have hwi : d_weight_in [.d (.int acc.length), .d (.lst (ws.map .str)), .d (.str last)] (τ ++ [.dct (acc.map kv)]) = resW acc.length (τ ++ [.dct (acc.map kv)]) (rowW ws last) := e_weight_in acc.length ws last hne hsw _
    unfold goR whileGo
    rw [hW']
    by_cases h88 : k < 8
    · have hm : (acc.length : Int) < (if (8 : Int) < (rows.length : Int) then 8 else (rows.length : Int)) := by
        split <;> omega
      by_cases q : ws.head? = some WEI
      · rw [if_pos ⟨h88, q⟩]
        have ea : a = WEI := by rw [e0] at q; exact Option.some.inj q
        have q0 : oEq (.str a) (.str [119, 101, 105, 103, 104, 116]) (τ ++ [.dct (acc.map kv)]) = .ok (.d (.bl true)) (τ ++ [.dct (acc.map kv)]) := by simp [oEq, ea, WEI]
        have ht : tR [x0, x1, x2, some (.d (.lst (rows.map .str))), some (.loc τ.length), some (.d (.str last)), x6, x7, w] (τ ++ [.dct (acc.map kv)]) = .ok true (τ ++ [.dct (acc.map kv)]) := by
          simp [callD, outR, retU, gSeq, gIf, gRet, gRetN, gSet, gExpr, VL.gNil, gNever, gUnp, gPar, gPar3, eVar, eC, elNil, elCons, eCall, gCall, eCB, gCB, vws_cons, vws_nil, c1, c2, eOp, opD, bOf, bAnd, bOr, bNeg, eAnd, eOr, eNot, eIf, eIs, isN, eIsi, D.ty, isTy, eChain, oLe, oLt, oGt, oGe, oAdd, oSub, fLen, fLenD, D.seq, eTup, gTupD, frzs, eLst, gLstD, allocL, eIx, oIx, fMin, take_self, R.bind, liftE, RS.seq, tName, tTupN, tNames, eMt, gMt, tyD, tR, h1, hm, ha, mSplit, hr2, hW, a0, q0]
        rw [ht]
        simp only [liftE_ok, if_true]
        cases e : rowW ws last with
        | error e' =>
          rw [e] at hwi
          simp only [resW] at hwi
          have hg : ∃ ρ', gR [x0, x1, x2, some (.d (.lst (rows.map .str))), some (.loc τ.length), some (.d (.str last)), x6, x7, w] (τ ++ [.dct (acc.map kv)]) = .exc 0 (xcp k e') ρ' (τ ++ [.dct (acc.map kv)]) := by
            refine ⟨[x0, x1, x2, some (.d (.lst (rows.map .str))), some (.loc τ.length), some (.d (.str last)), x6, x7, w], ?_⟩
            rw [← hk]
            simp [callD, outR, retU, gSeq, gIf, gRet, gRetN, gSet, gExpr, VL.gNil, gNever, gUnp, gPar, gPar3, eVar, eC, elNil, elCons, eCall, gCall, eCB, gCB, vws_cons, vws_nil, c1, c2, eOp, opD, bOf, bAnd, bOr, bNeg, eAnd, eOr, eNot, eIf, eIs, isN, eIsi, D.ty, isTy, eChain, oLe, oLt, oGt, oGe, oEq, oNe, bNot, oAdd, oSub, fLen, fLenD, D.seq, eTup, gTupD, frzs, eLst, gLstD, allocL, eIx, oIx, fMin, take_self, R.bind, liftE, RS.seq, tName, tTupN, tNames, eMt, gMt, tyD, gR, h1, ha, mSplit, hr2, hW, hwi]
          obtain ⟨ρ', hg⟩ := hg
          rw [hg]
          exact ⟨_, _, rfl⟩
        | ok p =>
          rw [e] at hwi
          simp only [resW] at hwi
          obtain ⟨x, e1, o1, o2, o3⟩ := rowW_ok e
          have hp := dput_new (acc := acc) (p := p) fun q m z => by
            have := hl q m p.1 o2
            rw [z] at this
            exact Lin.irr _ this
          have few : acc.length < sizeLine := by rw [sl_eq]; omega
          have hg : gR [x0, x1, x2, some (.d (.lst (rows.map .str))), some (.loc τ.length), some (.d (.str last)), x6, x7, w] (τ ++ [.dct (acc.map kv)]) = .nx [x0, x1, x2, some (.d (.lst (rows.map .str))), some (.loc τ.length), some (.d (.str p.1)), x6, x7, some (.d (.int p.2))] (τ ++ [.dct ((acc ++ [p]).map kv)]) := by
            simp [callD, outR, retU, gSeq, gIf, gRet, gRetN, gSet, gExpr, VL.gNil, gNever, gUnp, gPar, gPar3, eVar, eC, elNil, elCons, eCall, gCall, eCB, gCB, vws_cons, vws_nil, c1, c2, eOp, opD, bOf, bAnd, bOr, bNeg, eAnd, eOr, eNot, eIf, eIs, isN, eIsi, D.ty, isTy, eChain, oLe, oLt, oGt, oGe, oEq, oNe, bNot, oAdd, oSub, fLen, fLenD, D.seq, eTup, gTupD, frzs, eLst, gLstD, allocL, eIx, oIx, fMin, take_self, R.bind, liftE, RS.seq, tName, tTupN, tNames, eMt, gMt, tyD, gR, h1, ha, mSplit, hr2, hW, hwi, gPutK, VL.putAt, D.ky, get_last, set_last, hp, few]
          rw [hg]
          have := loopR hf x0 x1 x2 x6 x7 n rs (k + 1) p.1 (acc ++ [p]) (some (.d (.int p.2))) hd' (by simp; omega) (by omega) (by omega) (fun q m t ht => by
            rcases List.mem_append.mp m with m | m
            · exact hl q m t (Lin.tr _ _ _ o2 ht)
            · rw [List.mem_singleton.mp m]; exact ht)
          exact this
      · rw [if_neg fun z => q z.2]
        have ea : ¬ a = [119, 101, 105, 103, 104, 116] := fun z => q (by rw [e0, z]; rfl)
        have q0 : oEq (.str a) (.str [119, 101, 105, 103, 104, 116]) (τ ++ [.dct (acc.map kv)]) = .ok (.d (.bl false)) (τ ++ [.dct (acc.map kv)]) := by simp [oEq, ea]
        have ht : tR [x0, x1, x2, some (.d (.lst (rows.map .str))), some (.loc τ.length), some (.d (.str last)), x6, x7, w] (τ ++ [.dct (acc.map kv)]) = .ok false (τ ++ [.dct (acc.map kv)]) := by
          simp [callD, outR, retU, gSeq, gIf, gRet, gRetN, gSet, gExpr, VL.gNil, gNever, gUnp, gPar, gPar3, eVar, eC, elNil, elCons, eCall, gCall, eCB, gCB, vws_cons, vws_nil, c1, c2, eOp, opD, bOf, bAnd, bOr, bNeg, eAnd, eOr, eNot, eIf, eIs, isN, eIsi, D.ty, isTy, eChain, oLe, oLt, oGt, oGe, oAdd, oSub, fLen, fLenD, D.seq, eTup, gTupD, frzs, eLst, gLstD, allocL, eIx, oIx, fMin, take_self, R.bind, liftE, RS.seq, tName, tTupN, tNames, eMt, gMt, tyD, tR, h1, hm, ha, mSplit, hr2, hW, a0, q0]
        rw [ht]
        simp only [liftE_ok, Bool.false_eq_true, if_false]
        exact ⟨_, _, rfl⟩
    · rw [if_neg fun z => h88 z.1]
      have hm : ¬ (acc.length : Int) < (if (8 : Int) < (rows.length : Int) then 8 else (rows.length : Int)) := by
        split <;> omega
      have ht : tR [x0, x1, x2, some (.d (.lst (rows.map .str))), some (.loc τ.length), some (.d (.str last)), x6, x7, w] (τ ++ [.dct (acc.map kv)]) = .ok false (τ ++ [.dct (acc.map kv)]) := by
        simp [callD, outR, retU, gSeq, gIf, gRet, gRetN, gSet, gExpr, VL.gNil, gNever, gUnp, gPar, gPar3, eVar, eC, elNil, elCons, eCall, gCall, eCB, gCB, vws_cons, vws_nil, c1, c2, eOp, opD, bOf, bAnd, bOr, bNeg, eAnd, eOr, eNot, eIf, eIs, isN, eIsi, D.ty, isTy, eChain, oLe, oLt, oGt, oGe, oEq, oNe, bNot, oAdd, oSub, fLen, fLenD, D.seq, eTup, gTupD, frzs, eLst, gLstD, allocL, eIx, oIx, fMin, take_self, R.bind, liftE, RS.seq, tName, tTupN, tNames, eMt, gMt, tyD, tR, h1, hm]
      rw [ht]
      simp only [liftE_ok, Bool.false_eq_true, if_false]
      exact ⟨_, _, rfl⟩
end
/-- what reading a text gives -/
def resT (τ : Store) : Except (Nat × Nat) (WS × Option Nat × Option Nat) → R U
  | .ok (ws, a, b) => .ok (.d (led ws a b)) τ
  | .error (r, e) => .exc 0 (xcp r e) τ
theorem e_read {line : T} (h : Fine line) (τ : Store) : d_Ledger_read [.d (.cls 1), .d (.str line)] τ = resT τ (rdR (sp 10 line)) := by
  have hf : ∀ r ∈ sp 10 line, Fine r := fun r m => fine_sp h m
  have hl2 : line.length + 2 ≤ sizeLine := by rw [sl_eq]; have := h.len; omega
  obtain ⟨rows, hR⟩ : ∃ rows, TL.spl [10] 0 [] line = rows := ⟨_, rfl⟩
  have hR' : sp 10 line = rows := hR
  have back : ∀ ws a b, rdR (sp 10 line) = .ok (ws, a, b) → RdOk ws a b := fun ws a b e => (rd_text e).1
  rw [hR'] at hf back ⊢
  have hsh : Short rows := fun r m => by have := (hf r m).len; omega
  have lp := loopR (τ := τ) hf (some (.d (.cls 1))) (some (.d (.str line))) none none none 10 rows 0 [] [] none (by simp) rfl (by omega) (by omega) (fun p m => by simp at m)
  have st : ∀ g : GS, callD 9 (gSeq (gIf (bNeg (bOf (eIsiI "str" 1 (eVar 1))))
  (gRaise 0 [ROW, WORD] (elCons (eC (.int 0)) (elCons (eC (.int 0)) elNil)))
  VL.gNil)
  (gSeq (gPar3 3 4 5 (elCons (eMt "str" mSplit (eVar 1) (elCons (eC (.str [10])) elNil)) (elCons eDN (elCons (eC (.str [])) elNil)))) g)) [.d (.cls 1), .d (.str line)] τ =
      outR τ.length (g [some (.d (.cls 1)), some (.d (.str line)), none, some (.d (.lst (rows.map .str))), some (.loc τ.length), some (.d (.str [])), none, none, none] (τ ++ [.dct ([].map kv)])) := fun g => by
    simp [callD, outR, retU, gSeq, gIf, gRet, gRetN, gSet, gExpr, VL.gNil, gNever, gUnp, gPar, gPar3, eVar, eC, elNil, elCons, eCall, gCall, eCB, gCB, vws_cons, vws_nil, c1, c2, eOp, opD, bOf, bAnd, bOr, bNeg, eAnd, eOr, eNot, eIf, eIs, isN, eIsi, D.ty, isTy, eChain, oLe, oLt, oGt, oGe, oEq, oNe, bNot, oAdd, oSub, fLen, fLenD, D.seq, eTup, gTupD, frzs, eLst, gLstD, allocL, eIx, oIx, fMin, take_self, R.bind, liftE, RS.seq, tName, tTupN, tNames, eMt, gMt, tyD, eIsiI, mSplit, hl2, hR, eDN, allocD]
  have sq : ∀ (g h : GS) (ρ : VL.Env) (τ' : Store), gSeq g h ρ τ' = (g ρ τ').seq h := fun _ _ _ _ => rfl
  have wh : ∀ (t : EB) (g : GS) (ρ : VL.Env) (τ' : Store), gWhile (fun _ _ => 10) t g ρ τ' = whileGo t g 10 ρ τ' := fun _ _ _ _ => rfl
  unfold d_Ledger_read
  rw [g_read_eq, st, sq, wh]
  unfold rdR at back ⊢
  cases e0 : goR rows 0 [] [] with
  | error x =>
    obtain ⟨r, e⟩ := x
    rw [e0] at lp
    simp only at lp
    obtain ⟨ρ', cl, lp⟩ := lp
    rw [lp]
    simp [resT, outR]
  | ok ws =>
    rw [e0] at lp back
    simp only at lp back
    obtain ⟨l', w', lp⟩ := lp
    rw [lp, RS.seq_nx]
    have h1 := vws_last τ (ws.map kv)
    have c1 := e_cap_in rows ws.length LOA hsh loa_ne (τ ++ [.dct (ws.map kv)])
    have c2 : d_cap_in [.d (.lst (rows.map .str)), .d (.int ((ws.length : Int) + 1)), .d (.str RUS)] (τ ++ [.dct (ws.map kv)]) = resC ((ws.length : Int) + 1) (τ ++ [.dct (ws.map kv)]) (capWs (wordsAt rows (ws.length + 1)) RUS) := e_cap_in rows (ws.length + 1) RUS hsh rus_ne _
    cases e1 : capWs (wordsAt rows ws.length) LOA with
    | error x =>
      rw [e1] at c1
      simp only [resC] at c1
      simp [callD, outR, retU, gSeq, gIf, gRet, gRetN, gSet, gExpr, VL.gNil, gNever, gUnp, gPar, gPar3, eVar, eC, elNil, elCons, eCall, gCall, eCB, gCB, vws_cons, vws_nil, c1, c2, eOp, opD, bOf, bAnd, bOr, bNeg, eAnd, eOr, eNot, eIf, eIs, isN, eIsi, D.ty, isTy, eChain, oLe, oLt, oGt, oGe, oEq, oNe, bNot, oAdd, oSub, fLen, fLenD, D.seq, eTup, gTupD, frzs, eLst, gLstD, allocL, eIx, oIx, fMin, take_self, R.bind, liftE, RS.seq, tName, tTupN, tNames, eMt, gMt, tyD, h1, c1, e1, resT]
    | ok a =>
      rw [e1] at c1 back
      simp only [resC] at c1
      simp only at back
      cases e2 : capWs (wordsAt rows (ws.length + 1)) RUS with
      | error x =>
        rw [e2] at c2
        simp only [resC] at c2
        simp [callD, outR, retU, gSeq, gIf, gRet, gRetN, gSet, gExpr, VL.gNil, gNever, gUnp, gPar, gPar3, eVar, eC, elNil, elCons, eCall, gCall, eCB, gCB, vws_cons, vws_nil, c1, c2, eOp, opD, bOf, bAnd, bOr, bNeg, eAnd, eOr, eNot, eIf, eIs, isN, eIsi, D.ty, isTy, eChain, oLe, oLt, oGt, oGe, oEq, oNe, bNot, oAdd, oSub, fLen, fLenD, D.seq, eTup, gTupD, frzs, eLst, gLstD, allocL, eIx, oIx, fMin, take_self, R.bind, liftE, RS.seq, tName, tTupN, tNames, eMt, gMt, tyD, h1, c1, c2, e1, e2, resT, xcp]
      | ok b =>
        rw [e2] at c2 back
        simp only [resC] at c2
        simp only at back
        by_cases q : ws.length + 2 < rows.length
        · have q' : (ws.length : Int) + 2 < (rows.length : Int) := by omega
          simp [callD, outR, retU, gSeq, gIf, gRet, gRetN, gSet, gExpr, VL.gNil, gNever, gUnp, gPar, gPar3, eVar, eC, elNil, elCons, eCall, gCall, eCB, gCB, vws_cons, vws_nil, c1, c2, eOp, opD, bOf, bAnd, bOr, bNeg, eAnd, eOr, eNot, eIf, eIs, isN, eIsi, D.ty, isTy, eChain, oLe, oLt, oGt, oGe, oEq, oNe, bNot, oAdd, oSub, fLen, fLenD, D.seq, eTup, gTupD, frzs, eLst, gLstD, allocL, eIx, oIx, fMin, take_self, R.bind, liftE, RS.seq, tName, tTupN, tNames, eMt, gMt, tyD, h1, c1, c2, e1, e2, q, q', gRaise, resT, xcp, ROW, WORD]
        · have q' : ¬ (ws.length : Int) + 2 < (rows.length : Int) := by omega
          rw [if_neg q] at back
          have H := back ws a b rfl
          have mk := e_make H.ok (List.Perm.refl ws) H.asc H.ca H.cb (τ ++ [.dead])
          simp [callD, outR, retU, gSeq, gIf, gRet, gRetN, gSet, gExpr, VL.gNil, gNever, gUnp, gPar, gPar3, eVar, eC, elNil, elCons, eCall, gCall, eCB, gCB, vws_cons, vws_nil, c1, c2, eOp, opD, bOf, bAnd, bOr, bNeg, eAnd, eOr, eNot, eIf, eIs, isN, eIsi, D.ty, isTy, eChain, oLe, oLt, oGt, oGe, oEq, oNe, bNot, oAdd, oSub, fLen, fLenD, D.seq, eTup, gTupD, frzs, eLst, gLstD, allocL, eIx, oIx, fMin, take_self, R.bind, liftE, RS.seq, tName, tTupN, tNames, eMt, gMt, tyD, h1, c1, c2, e1, e2, q, q', eMakeL, eMake, eLk, get_last, set_last, mk, resT]
end K82

/-! k82: any text is read rightly. -/
namespace K82
open PySem PySem.Spec PySem.NumText PyProof.Rows L2 LamX VL
theorem g_str_led {ws : WS} {a b : Option Nat} (H : RdOk ws a b) (τ : Store) : gStrI 1 d_Ledger___str__ (.d (led ws a b)) τ = .ok (.d (.str (textOf ws a b))) τ := by
  have h := e_str H.ok H.ca H.cb τ
  unfold led at h ⊢
  unfold gStrI
  simp only [if_true, h]
theorem g_eq_led {ws : WS} {a b : Option Nat} (H : RdOk ws a b) (τ : Store) : gEqI 1 d_Ledger___eq__ (.d (led ws a b)) (.d (led ws a b)) τ = .ok (.d (.bl true)) τ := by
  have h := e_eq H.ok a b τ
  unfold led at h ⊢
  unfold gEqI
  simp only [and_self, if_true, h]
theorem g_ne_led {ws : WS} {a b : Option Nat} (H : RdOk ws a b) (τ : Store) : gNeI 1 d_Ledger___eq__ (.d (led ws a b)) (.d (led ws a b)) τ = .ok (.d (.bl false)) τ := by
  have h := e_eq H.ok a b τ
  unfold led at h ⊢
  unfold gNeI
  simp only [and_self, if_true, h, Bool.not_true]
theorem g_is_led (ws : WS) (a b : Option Nat) (τ : Store) : gIsC 1 (.d (led ws a b)) τ = .ok (.d (.bl true)) τ := rfl
def pairP (r e : Nat) : PyData := .tuple [.int r, .int e]
theorem pair_show : ∀ r < 11, ∀ e < 4, ((pairP r e).showable && !(pairP r e).hasDict && decide ((pairP r e).depth ≤ 30) && decide ((pairP r e).shown.length ≤ 100)) = true := by decide +kernel
theorem pair_repr {r e : Nat} (h1 : r ≤ 10) (h2 : e ≤ 3) (τ : Store) : fRepr (pairD r e) τ = .ok (.d (.str (showT (pairP r e)))) τ := by
  have h := pair_show r (by omega) e (by omega)
  simp only [Bool.and_eq_true, Bool.not_eq_true', decide_eq_true_eq] at h
  obtain ⟨⟨⟨q1, q2⟩, q3⟩, q4⟩ := h
  show fRepr.rp (pairD r e) τ = _
  unfold fRepr.rp
  have : D.py (pairD r e) = some (pairP r e) := rfl
  rw [this]
  simp only
  rw [if_pos ⟨q1, q2, q3, by rw [sl_eq]; omega⟩]
theorem e_right {line : T} (h : Fine line) (τ : Store) : d__law_right [.d (.str line)] τ = .ok (.d (.bl true)) τ := by
  have hw := e_law_wrong h τ
  have hr := e_read h τ
  cases e : rdR (sp 10 line) with
  | ok x =>
    obtain ⟨ws, a, b⟩ := x
    obtain ⟨H, ht⟩ := rd_text e
    rw [e] at hw hr
    simp only [codeT, resT] at hw hr
    have s1 := g_str_led H τ
    have s2 := g_eq_led H τ
    have s3 := g_is_led ws a b τ
    rw [ht] at s1
    generalize led ws a b = dl at s1 s2 s3 hr
    simp [callD, outR, retU, gSeq, gIf, gRet, gRetN, gSet, gExpr, VL.gNil, gNever, gUnp, gPar, gPar3, eVar, eC, elNil, elCons, eCall, gCall, eCB, gCB, vws_cons, vws_nil, c1, c2, eOp, opD, bOf, bAnd, bOr, bNeg, eAnd, eOr, eNot, eIf, eIs, isN, eIsi, D.ty, isTy, eChain, oLe, oLt, oGt, oGe, oEq, oNe, bNot, oAdd, oSub, fLen, fLenD, D.seq, eTup, gTupD, frzs, eLst, gLstD, allocL, eIx, oIx, fMin, take_self, R.bind, liftE, RS.seq, tName, tTupN, tNames, eMt, gMt, tyD, d__law_right, g__law_right, hw, gTryK, eCM, hr, eIsC, s3, eStrI, s1, eEqI, eCMK, s2]
  | error x =>
    obtain ⟨r, k⟩ := x
    obtain ⟨l1, l2⟩ := rd_err e
    rw [e] at hw hr
    simp only [codeT, resT] at hw hr
    have hp := pair_repr l1 l2 τ
    have hN : isN (pairD r k) = false := rfl
    have x1 : gExF 0 [114, 111, 119] (.d (.exn 0 (xcp r k))) τ = .ok (.d (.int r)) τ := rfl
    have x2 : gExF 0 [119, 111, 114, 100] (.d (.exn 0 (xcp r k))) τ = .ok (.d (.int k)) τ := rfl
    have x3 : gIsX 0 (.d (.exn 0 (xcp r k))) τ = .ok (.d (.bl true)) τ := rfl
    have two : 2 ≤ sizeLine := by rw [sl_eq]; omega
    generalize xcp r k = xx at x1 x2 x3 hr
    have hp' : fRepr (.tup [.int r, .int k]) τ = .ok (.d (.str (showT (pairP r k)))) τ := hp
    simp only [pairD] at hw hN
    simp [callD, outR, retU, gSeq, gIf, gRet, gRetN, gSet, gExpr, VL.gNil, gNever, gUnp, gPar, gPar3, eVar, eC, elNil, elCons, eCall, gCall, eCB, gCB, vws_cons, vws_nil, c1, c2, eOp, opD, bOf, bAnd, bOr, bNeg, eAnd, eOr, eNot, eIf, eIs, isN, eIsi, D.ty, isTy, eChain, oLe, oLt, oGt, oGe, oEq, oNe, bNot, oAdd, oSub, fLen, fLenD, D.seq, eTup, gTupD, frzs, eLst, gLstD, allocL, eIx, oIx, fMin, take_self, R.bind, liftE, RS.seq, tName, tTupN, tNames, eMt, gMt, tyD, d__law_right, g__law_right, hw, gTryK, eCM, hr, eIsX, x3, eExF, x1, x2, two, hp']
end K82

/-! k82: the law's draws. -/
namespace K82
open PySem PySem.Spec PySem.NumText PyProof.Rows L2 LamX VL
def PenC (ns : List Int) (a : Nat) (c : Int) : Cell := .lst [.lst (ns.map .int), .int a, .int c]
theorem pys_ints : ∀ ns : List Int, pys (ns.map D.int) = some (ns.map PyData.int)
  | [] => rfl
  | n :: ns => by
    show (match D.py (.int n), pys (ns.map D.int) with
      | some x, some xs => some (x :: xs)
      | _, _ => none) = _
    rw [pys_ints ns]
    rfl
theorem lay_ints : ∀ ns : List Int, PyData.canLayAll0 (ns.map PyData.int) = true ∧ PyData.depthAll (ns.map PyData.int) = 0
  | [] => by simp [PyData.canLayAll0, PyData.depthAll]
  | n :: ns => by
    obtain ⟨i1, i2⟩ := lay_ints ns
    simp [PyData.canLayAll0, PyData.canLay0, PyData.depthAll, PyData.depth, i1, i2]
theorem ne_ints (ns : List Int) (τ : Store) : oNe (.lst (ns.map .int)) (.lst []) τ = .ok (.d (.bl (!ns.isEmpty))) τ := by
  obtain ⟨l1, l2⟩ := lay_ints ns
  have e1 : D.py (.lst (ns.map .int)) = some (.list (ns.map PyData.int)) := by simp [D.py, pys_ints]
  have e2 : D.py (.lst []) = some (.list []) := by simp [D.py, pys]
  have s1 : shp (.list (ns.map PyData.int)) = true := by
    unfold shp SeqAt.shaped
    simp [PyData.canLay0, PyData.depth, l1, l2]
  have s2 : shp (.list []) = true := by decide
  have : oEq (.lst (ns.map .int)) (.lst []) τ = .ok (.d (.bl ns.isEmpty)) τ := by
    unfold oEq
    simp only [e1, e2]
    rw [if_pos ⟨s1, s2⟩]
    cases ns <;> simp [PyData.eqv, PyData.eqvAll]
  unfold oNe
  rw [this]
  rfl
theorem pen_at {ns : List Int} {a : Nat} {c : Int} : atI [D.lst (ns.map .int), .int a, .int c] 0 = some (.lst (ns.map .int)) ∧ atI [D.lst (ns.map .int), .int a, .int c] 1 = some (.int a) ∧ atI [D.lst (ns.map .int), .int a, .int c] 2 = some (.int c) := ⟨atI_nat _ 0, atI_nat _ 1, atI_nat _ 2⟩
theorem ix3 : ixN 3 1 = some 1 ∧ ixN 3 2 = some 2 := by decide
def gDC : GS := (gSeq (gSet 4 (eOp oMod (eCB (c1 fInt) (elCons (eOp oPow (eOp (oAdd false) (eOp (oAdd false) (eOp oMod (eCB (c1 fInt) (elCons (eVar 3) elNil)) (eC (.int 2147483563))) (eOp oMul (eC (.int 5519)) (eVar 2))) (eC (.int 107))) (eC (.int 5))) elNil)) (eC (.int 2147483587))))
  (gSeq (gSet 4 (eOp oMod (eCB (c1 fInt) (elCons (eOp oPow (eOp (oAdd false) (eOp (oAdd false) (eOp oMul (eVar 4) (eOp (oAdd false) (eOp oMul (eC (.int 2)) (eVar 2)) (eC (.int 141)))) (eOp oMul (eOp oMul (eC (.int 65029)) (eVar 2)) (eVar 2))) (eC (.int 29))) (eC (.int 3))) elNil)) (eC (.int 2147483629))))
  (gRet (eOp oMod (eCB (c1 fInt) (elCons (eOp oDiv (eVar 4) (eC (.int 16))) elNil)) (eVar 1)))))
def gDB : GS := (gSeq (gIf (bAnd (bOf (eOp oLt (eVar 2) (eCB (c1 fLen) (elCons (eIx (eVar 0) (eC (.int 0))) elNil)))) (bOf (eOp oGe (eCB (c1 fAbs) (elCons (eVar 3) elNil)) (eOp oPow (eC (.int 10)) (eC (.int 18))))))
  (gSeq (gSet 6 (eOp (oAdd false) (eOp oMul (eC (.int 2)) (eOp oSub (eCB (c1 fAbs) (elCons (eVar 3) elNil)) (eOp oPow (eC (.int 10)) (eC (.int 18))))) (eCB (c1 fInt) (elCons (eOp oLt (eVar 3) (eC (.int 0))) elNil))))
  (gSeq (gSetI (eVar 0) (eC (.int 2)) (eOp oDiv (eCB (c1 fInt) (elCons (eVar 6) elNil)) (eVar 1)))
  (gRet (eOp oMod (eCB (c1 fInt) (elCons (eVar 6) elNil)) (eVar 1)))))
  VL.gNil)
  gDC)
theorem g_draw_eq : g__law_draw = (gSeq (gIf (bOf (eOp oGt (eIx (eVar 0) (eC (.int 2))) (eC (.int 0))))
  (gSeq (gSet 5 (eOp oMod (eCB (c1 fInt) (elCons (eIx (eVar 0) (eC (.int 2))) elNil)) (eVar 1)))
  (gSeq (gSetI (eVar 0) (eC (.int 2)) (eOp oDiv (eCB (c1 fInt) (elCons (eIx (eVar 0) (eC (.int 2))) elNil)) (eVar 1)))
  (gRet (eVar 5))))
  VL.gNil)
  (gSeq (gSet 2 (eIx (eVar 0) (eC (.int 1))))
  (gSeq (gSetI (eVar 0) (eC (.int 1)) (eOp (oAdd false) (eVar 2) (eC (.int 1))))
  (gSeq (gSet 3 (eOp (oAdd false) (eOp oMul (eC (.int 65029)) (eVar 2)) (eC (.int 5519))))
  (gSeq (gIf (bOf (eOp oNe (eIx (eVar 0) (eC (.int 0))) (eLst false elNil)))
  (gSet 3 (eIx (eIx (eVar 0) (eC (.int 0))) (eOp oMod (eCB (c1 fInt) (elCons (eVar 2) elNil)) (eCB (c1 fLen) (elCons (eIx (eVar 0) (eC (.int 0))) elNil)))))
  VL.gNil)
  gDB))))) := rfl
section
variable {ns : List Int} {σ : Store} {p a m : Nat} {c v : Int}
theorem nat_mod (h1 : 1 ≤ m) (x : Int) : ∃ i : Nat, x % (m : Int) = i ∧ i < m := by
  have lo := Int.emod_nonneg x (b := (m : Int)) (by omega)
  have hi := Int.emod_lt_of_pos x (b := (m : Int)) (by omega)
  exact ⟨(x % (m : Int)).toNat, by omega, by omega⟩
theorem c_b1 {q : Int} (h : 0 ≤ q ∧ q < 2147483563) (ha : a ≤ 100000) : (q + 5519 * (a : Int) + 107).natAbs < 18446744073709551616 := by omega
theorem c_b2 {r : Int} (h : 0 ≤ r ∧ r < 2147483587) : -18446744073709551616 < r ∧ r < 18446744073709551616 := by omega
theorem c_b3 (ha : a ≤ 100000) : -18446744073709551616 < 65029 * (a : Int) ∧ 65029 * (a : Int) < 18446744073709551616 := by omega
theorem c_s1 {r : Int} (h : 0 ≤ r ∧ r < 2147483587) (ha : a ≤ 100000) : 0 ≤ r * (2 * (a : Int) + 141) ∧ r * (2 * (a : Int) + 141) ≤ 429799541800000 := by
  refine ⟨Int.mul_nonneg h.1 (by omega), ?_⟩
  have : r * (2 * (a : Int) + 141) ≤ 2147483587 * 200141 := Int.mul_le_mul (by omega) (by omega) (by omega) (by omega)
  omega
theorem c_s2 (ha : a ≤ 100000) : 0 ≤ 65029 * (a : Int) * (a : Int) ∧ 65029 * (a : Int) * (a : Int) ≤ 650290000000000 := by
  refine ⟨Int.mul_nonneg (by omega) (by omega), ?_⟩
  have : 65029 * (a : Int) * (a : Int) ≤ 6502900000 * 100000 := Int.mul_le_mul (by omega) (by omega) (by omega) (by omega)
  omega
theorem c_b4 {s1 s2 : Int} (h1 : 0 ≤ s1 ∧ s1 ≤ 429799541800000) (h2 : 0 ≤ s2 ∧ s2 ≤ 650290000000000) : (s1 + s2 + 29).natAbs < 18446744073709551616 := by omega
theorem c_mod (x : Int) {k : Int} (h : 0 < k) : ∃ r, x % k = r ∧ 0 ≤ r ∧ r < k := ⟨_, rfl, Int.emod_nonneg _ (by omega), Int.emod_lt_of_pos _ h⟩
theorem e_mod {x y : Int} (h : 0 < y) (σ : Store) : oMod (.int x) (.int y) σ = .ok (.d (.int (x % y))) σ := if_pos h
theorem e_pow5 {x : Int} (h : x.natAbs < 18446744073709551616) (σ : Store) : oPow (.int x) (.int 5) σ = .ok (.d (.int (x ^ 5))) σ := if_pos ⟨by omega, by omega, h⟩
theorem e_pow3 {x : Int} (h : x.natAbs < 18446744073709551616) (σ : Store) : oPow (.int x) (.int 3) σ = .ok (.d (.int (x ^ 3))) σ := if_pos ⟨by omega, by omega, h⟩
theorem e_mul {x y : Int} (h : -18446744073709551616 < x ∧ x < 18446744073709551616) (σ : Store) : oMul (.int x) (.int y) σ = .ok (.d (.int (x * y))) σ := if_pos (.inl h)
def D1 : EV := (eOp oMod (eCB (c1 fInt) (elCons (eOp oPow (eOp (oAdd false) (eOp (oAdd false) (eOp oMod (eCB (c1 fInt) (elCons (eVar 3) elNil)) (eC (.int 2147483563))) (eOp oMul (eC (.int 5519)) (eVar 2))) (eC (.int 107))) (eC (.int 5))) elNil)) (eC (.int 2147483587)))
def D2 : EV := (eOp oMod (eCB (c1 fInt) (elCons (eOp oPow (eOp (oAdd false) (eOp (oAdd false) (eOp oMul (eVar 4) (eOp (oAdd false) (eOp oMul (eC (.int 2)) (eVar 2)) (eC (.int 141)))) (eOp oMul (eOp oMul (eC (.int 65029)) (eVar 2)) (eVar 2))) (eC (.int 29))) (eC (.int 3))) elNil)) (eC (.int 2147483629)))
theorem e_op {g : D → D → Store → R U} {fa fb : EV} {ρ : VL.Env} {x y : D} {r : R U} (h1 : fa ρ σ = .ok (.d x) σ) (h2 : fb ρ σ = .ok (.d y) σ) (h3 : g x y σ = r) : eOp g fa fb ρ σ = r := by
  unfold eOp
  rw [h1, R.bind_ok, h2, R.bind_ok, opD_d, h3]
theorem e_int1 {fa : EV} {ρ : VL.Env} {x : Int} (h : fa ρ σ = .ok (.d (.int x)) σ) : eCB (c1 fInt) (elCons fa elNil) ρ σ = .ok (.d (.int x)) σ := by
  unfold eCB elCons
  rw [h]
  rfl
theorem e_cst (x : D) (ρ : VL.Env) : eC x ρ σ = .ok (.d x) σ := rfl
theorem e_add (x y : Int) : oAdd false (.int x) (.int y) σ = .ok (.d (.int (x + y))) σ := rfl
theorem e_D1 {q r : Int} {x0 x1 x4 x5 x6 : Option U} (hq : v % 2147483563 = q) (b1 : (q + 5519 * (a : Int) + 107).natAbs < 18446744073709551616) (hr : (q + 5519 * (a : Int) + 107) ^ 5 % 2147483587 = r) : D1 [x0, x1, some (.d (.int a)), some (.d (.int v)), x4, x5, x6] σ = .ok (.d (.int r)) σ := by
  subst hq hr
  exact e_op (e_int1 (e_op (e_op (e_op (e_op (e_int1 rfl) (e_cst _ _) (e_mod (by omega) σ)) (e_op (e_cst _ _) rfl (e_mul (by omega) σ)) (e_add _ _)) (e_cst _ _) (e_add _ _)) (e_cst _ _) (e_pow5 b1 σ))) (e_cst _ _) (e_mod (by omega) σ)
theorem e_D2 {r s1 s2 t : Int} {x0 x1 x3 x5 x6 : Option U} (b2 : -18446744073709551616 < r ∧ r < 18446744073709551616) (b3 : -18446744073709551616 < 65029 * (a : Int) ∧ 65029 * (a : Int) < 18446744073709551616) (hs1 : r * (2 * (a : Int) + 141) = s1) (hs3 : 65029 * (a : Int) * (a : Int) = s2)
    (b4 : (s1 + s2 + 29).natAbs < 18446744073709551616) (ht : (s1 + s2 + 29) ^ 3 % 2147483629 = t) : D2 [x0, x1, some (.d (.int a)), x3, some (.d (.int r)), x5, x6] σ = .ok (.d (.int t)) σ := by
  subst hs1 hs3 ht
  exact e_op (e_int1 (e_op (e_op (e_op (e_op rfl (e_op (e_op (e_cst _ _) rfl (e_mul (by omega) σ)) (e_cst _ _) (e_add _ _)) (e_mul b2 σ)) (e_op (e_op (e_cst _ _) rfl (e_mul (by omega) σ)) rfl (e_mul b3 σ)) (e_add _ _)) (e_cst _ _) (e_add _ _)) (e_cst _ _) (e_pow3 b4 σ))) (e_cst _ _) (e_mod (by omega) σ)
theorem g_DC_eq : gDC = (gSeq (gSet 4 D1) (gSeq (gSet 4 D2) (gRet (eOp oMod (eCB (c1 fInt) (elCons (eOp oDiv (eVar 4) (eC (.int 16))) elNil)) (eVar 1))))) := rfl
theorem e_drawC (h1 : 1 ≤ m) (h2 : m ≤ 100000) (ha : a ≤ 100000) (x5 x6 : Option U) :
    ∃ i : Nat, gDC [some (.loc p), some (.d (.int m)), some (.d (.int a)), some (.d (.int v)), none, x5, x6] σ = .rt (.d (.int i)) σ ∧ i < m := by
  have n0 : 0 < m := by omega
  obtain ⟨q, hq, hq2⟩ := c_mod v (k := 2147483563) (by omega)
  have b1 := c_b1 hq2 ha
  obtain ⟨r, hr, hr2⟩ := c_mod ((q + 5519 * (a : Int) + 107) ^ 5) (k := 2147483587) (by omega)
  have b4 := c_b4 (c_s1 hr2 ha) (c_s2 ha)
  have f1 := fun x0 x1 x4 x5 x6 => e_D1 (σ := σ) (x0 := x0) (x1 := x1) (x4 := x4) (x5 := x5) (x6 := x6) hq b1 hr
  have f2 := fun x0 x1 x3 x5 x6 => e_D2 (σ := σ) (x0 := x0) (x1 := x1) (x3 := x3) (x5 := x5) (x6 := x6) (c_b2 hr2) (c_b3 ha) rfl rfl b4 rfl
  generalize (r * (2 * (a : Int) + 141) + 65029 * (a : Int) * (a : Int) + 29) ^ 3 % 2147483629 = t at f2
  obtain ⟨i, e1, e2⟩ := nat_mod h1 (t / 16)
  refine ⟨i, ?_, e2⟩
  rw [g_DC_eq]
  simp [callD, outR, retU, gSeq, gIf, gRet, gRetN, gSet, gExpr, VL.gNil, gNever, gUnp, gPar, gPar3, eVar, eC, elNil, elCons, eCall, gCall, eCB, gCB, vws_cons, vws_nil, c1, c2, eOp, opD, bOf, bAnd, bOr, bNeg, eAnd, eOr, eNot, eIf, eIs, isN, eIsi, D.ty, isTy, eChain, oLe, oLt, oGt, oGe, oEq, oNe, bNot, oAdd, oSub, fLen, fLenD, D.seq, eTup, gTupD, frzs, eLst, gLstD, allocL, eIx, oIx, fMin, take_self, R.bind, liftE, RS.seq, tName, tTupN, tNames, eMt, gMt, tyD, f1, f2, fInt, oDiv, oMod, n0, e1]
theorem e_drawB (hp : σ[p]? = some (PenC ns a c)) (h1 : 1 ≤ m) (h2 : m ≤ 100000) (a' : Nat) (ha : a' ≤ 100000) :
    ∃ (i : Nat) (c' : Int), gDB [some (.loc p), some (.d (.int m)), some (.d (.int a')), some (.d (.int v)), none, none, none] σ = .rt (.d (.int i)) (σ.set p (PenC ns a c')) ∧ i < m := by
  have hlt : p < σ.length := (List.getElem?_eq_some_iff.mp hp).1
  have hself : σ.set p (PenC ns a c) = σ := by
    obtain ⟨h, e⟩ := List.getElem?_eq_some_iff.mp hp
    rw [← e]
    exact List.set_getElem_self h
  obtain ⟨p0, p1, p2⟩ := pen_at (ns := ns) (a := a) (c := c)
  have n0 : 0 < m := by omega
  have m1 : (m : Int) < 1073741824 := by omega
  obtain ⟨i0, d1, d2⟩ := e_drawC (σ := σ) (p := p) (v := v) h1 h2 ha none none
  have hp' := hp
  unfold PenC at hp
  by_cases q1 : (a' : Int) < (ns.length : Int)
  · by_cases q2 : (1000000000000000000 : Int) ≤ (if v < 0 then -v else v)
    · obtain ⟨i, e1, e2⟩ := nat_mod h1 (2 * ((if v < 0 then -v else v) - 1000000000000000000) + (if v < 0 then 1 else 0))
      refine ⟨i, (2 * ((if v < 0 then -v else v) - 1000000000000000000) + (if v < 0 then 1 else 0)) / (m : Int), ?_, e2⟩
      simp [callD, outR, retU, gSeq, gIf, gRet, gRetN, gSet, gExpr, VL.gNil, gNever, gUnp, gPar, gPar3, eVar, eC, elNil, elCons, eCall, gCall, eCB, gCB, vws_cons, vws_nil, c1, c2, eOp, opD, bOf, bAnd, bOr, bNeg, eAnd, eOr, eNot, eIf, eIs, isN, eIsi, D.ty, isTy, eChain, oLe, oLt, oGt, oGe, oEq, oNe, bNot, oAdd, oSub, fLen, fLenD, D.seq, eTup, gTupD, frzs, eLst, gLstD, allocL, eIx, oIx, fMin, take_self, R.bind, liftE, RS.seq, tName, tTupN, tNames, eMt, gMt, tyD, gDB, vw, hp, p0, q1, q2, fAbs, oPow, oMul, fInt, gSetI, setAt, oDiv, oMod, n0, m1, ix3.2, e1, PenC]
    · refine ⟨i0, c, ?_, d2⟩
      rw [hself]
      simp [callD, outR, retU, gSeq, gIf, gRet, gRetN, gSet, gExpr, VL.gNil, gNever, gUnp, gPar, gPar3, eVar, eC, elNil, elCons, eCall, gCall, eCB, gCB, vws_cons, vws_nil, c1, c2, eOp, opD, bOf, bAnd, bOr, bNeg, eAnd, eOr, eNot, eIf, eIs, isN, eIsi, D.ty, isTy, eChain, oLe, oLt, oGt, oGe, oEq, oNe, bNot, oAdd, oSub, fLen, fLenD, D.seq, eTup, gTupD, frzs, eLst, gLstD, allocL, eIx, oIx, fMin, take_self, R.bind, liftE, RS.seq, tName, tTupN, tNames, eMt, gMt, tyD, gDB, vw, hp, p0, q1, q2, fAbs, oPow, d1]
  · refine ⟨i0, c, ?_, d2⟩
    rw [hself]
    simp [callD, outR, retU, gSeq, gIf, gRet, gRetN, gSet, gExpr, VL.gNil, gNever, gUnp, gPar, gPar3, eVar, eC, elNil, elCons, eCall, gCall, eCB, gCB, vws_cons, vws_nil, c1, c2, eOp, opD, bOf, bAnd, bOr, bNeg, eAnd, eOr, eNot, eIf, eIs, isN, eIsi, D.ty, isTy, eChain, oLe, oLt, oGt, oGe, oEq, oNe, bNot, oAdd, oSub, fLen, fLenD, D.seq, eTup, gTupD, frzs, eLst, gLstD, allocL, eIx, oIx, fMin, take_self, R.bind, liftE, RS.seq, tName, tTupN, tNames, eMt, gMt, tyD, gDB, vw, hp, p0, q1, d1]
end
section
variable {ns : List Int} {τ : Store} {p a m : Nat} {c : Int}
theorem e_draw (hp : τ[p]? = some (PenC ns a c)) (h1 : 1 ≤ m) (h2 : m ≤ 100000) (ha : a ≤ 100000) :
    ∃ (i a' : Nat) (c' : Int), d__law_draw [.loc p, .d (.int m)] τ = .ok (.d (.int i)) (τ.set p (PenC ns a' c')) ∧ i < m ∧ a' ≤ a + 1 := by
  have hlt : p < τ.length := (List.getElem?_eq_some_iff.mp hp).1
  have hs : ∀ X, (τ.set p X)[p]? = some X := fun X => List.getElem?_set_self hlt
  obtain ⟨p0, p1, p2⟩ := pen_at (ns := ns) (a := a) (c := c)
  have m0 : (0 : Int) < (m : Int) := by omega
  have m1 : (m : Int) < 1073741824 := by omega
  have n0 : 0 < m := by omega
  have lo : ∀ x : Int, 0 ≤ x % (m : Int) := fun x => Int.emod_nonneg _ (by omega)
  have hi : ∀ x : Int, x % (m : Int) < m := fun x => Int.emod_lt_of_pos _ m0
  have nat : ∀ x : Int, ∃ i : Nat, x % (m : Int) = i ∧ i < m := fun x => ⟨(x % (m : Int)).toNat, by have := lo x; omega, by have := lo x; have := hi x; omega⟩
  have ht : ∀ X : Cell, (τ.set p X).take τ.length = τ.set p X := fun X => List.take_of_length_le (by simp)
  unfold PenC at hp
  by_cases hc : (0 : Int) < c
  · obtain ⟨i, e1, e2⟩ := nat c
    refine ⟨i, a, c / m, ?_, e2, by omega⟩
    simp [callD, outR, retU, gSeq, gIf, gRet, gRetN, gSet, gExpr, VL.gNil, gNever, gUnp, gPar, gPar3, eVar, eC, elNil, elCons, eCall, gCall, eCB, gCB, vws_cons, vws_nil, c1, c2, eOp, opD, bOf, bAnd, bOr, bNeg, eAnd, eOr, eNot, eIf, eIs, isN, eIsi, D.ty, isTy, eChain, oLe, oLt, oGt, oGe, oEq, oNe, bNot, oAdd, oSub, fLen, fLenD, D.seq, eTup, gTupD, frzs, eLst, gLstD, allocL, eIx, oIx, fMin, take_self, R.bind, liftE, RS.seq, tName, tTupN, tNames, eMt, gMt, tyD, d__law_draw, g_draw_eq, vw, hp, p2, hc, fInt, oMod, m0, n0, e1, gSetI, setAt, oDiv, m1, ix3.2, hs, PenC, ht]
  · have hp1 : (τ.set p (PenC ns (a + 1) c))[p]? = some (PenC ns (a + 1) c) := hs _
    have hq : ∀ v : Int, ∃ (i : Nat) (c' : Int), gDB [some (.loc p), some (.d (.int m)), some (.d (.int a)), some (.d (.int v)), none, none, none] (τ.set p (PenC ns (a + 1) c)) = .rt (.d (.int i)) (τ.set p (PenC ns (a + 1) c')) ∧ i < m := fun v => by
      obtain ⟨i, c', q1, q2⟩ := e_drawB (v := v) hp1 h1 h2 a ha
      rw [List.set_set] at q1
      exact ⟨i, c', q1, q2⟩
    have hne := ne_ints ns (τ.set p (PenC ns (a + 1) c))
    have hz := e_mul (x := 65029) (y := (a : Int)) (by omega) (τ.set p (PenC ns (a + 1) c))
    have ec : PenC ns (a + 1) c = .lst [.lst (ns.map .int), .int ((a : Int) + 1), .int c] := rfl
    obtain ⟨p0', _, _⟩ := pen_at (ns := ns) (a := a + 1) (c := c)
    have p0'' : atI [D.lst (ns.map .int), .int ((a : Int) + 1), .int c] 0 = some (.lst (ns.map .int)) := p0'
    cases ns with
    | nil =>
      obtain ⟨i, c', q1, q2⟩ := hq (65029 * (a : Int) + 5519)
      refine ⟨i, a + 1, c', ?_, q2, by omega⟩
      have hie : (!([] : List Int).isEmpty) = false := rfl
      rw [hie] at hne
      rw [ec] at q1 hne hz
      generalize ([] : List Int).map D.int = ds at *
      simp [callD, outR, retU, gSeq, gIf, gRet, gRetN, gSet, gExpr, VL.gNil, gNever, gUnp, gPar, gPar3, eVar, eC, elNil, elCons, eCall, gCall, eCB, gCB, vws_cons, vws_nil, c1, c2, eOp, opD, bOf, bAnd, bOr, bNeg, eAnd, eOr, eNot, eIf, eIs, isN, eIsi, D.ty, isTy, eChain, oLe, oLt, oGt, oGe, oAdd, oSub, fLen, fLenD, D.seq, eTup, gTupD, frzs, eLst, gLstD, allocL, eIx, oIx, fMin, take_self, R.bind, liftE, RS.seq, tName, tTupN, tNames, eMt, gMt, tyD, d__law_draw, g_draw_eq, vw, hp, p1, p2, hc, gSetI, setAt, ix3.1, hs, hz, p0'', hne, q1, ht]
    | cons x xs =>
      have hl : (0 : Int) < ((x :: xs).length : Int) := by rw [List.length_cons]; omega
      have hm := e_mod (x := (a : Int)) hl (τ.set p (PenC (x :: xs) (a + 1) c))
      obtain ⟨k, hk⟩ : ∃ k : Nat, (a : Int) % ((x :: xs).length : Int) = k := ⟨a % (x :: xs).length, by simp⟩
      have hk2 : k < (x :: xs).length := by
        have := Int.emod_lt_of_pos (a : Int) hl
        omega
      have hat : atI ((x :: xs).map D.int) (k : Int) = some (.int (x :: xs)[k]) := by
        rw [atI_nat, List.getElem?_map, List.getElem?_eq_getElem hk2]
        rfl
      obtain ⟨i, c', q1, q2⟩ := hq ((x :: xs)[k])
      refine ⟨i, a + 1, c', ?_, q2, by omega⟩
      rw [hk] at hm
      rw [ec] at q1 hne hz hm
      have hlen : ((x :: xs).map D.int).length = (x :: xs).length := List.length_map _
      have hie : (!(x :: xs).isEmpty) = true := rfl
      rw [hie] at hne
      generalize (x :: xs)[k] = v at hat q1
      generalize (x :: xs).length = len at hm hlen hl
      generalize (x :: xs).map D.int = ds at *
      have hlen' : (ds.length : Int) = (len : Int) := by rw [hlen]
      simp [callD, outR, retU, gSeq, gIf, gRet, gRetN, gSet, gExpr, VL.gNil, gNever, gUnp, gPar, gPar3, eVar, eC, elNil, elCons, eCall, gCall, eCB, gCB, vws_cons, vws_nil, c1, c2, eOp, opD, bOf, bAnd, bOr, bNeg, eAnd, eOr, eNot, eIf, eIs, isN, eIsi, D.ty, isTy, eChain, oLe, oLt, oGt, oGe, oAdd, oSub, fLen, fLenD, D.seq, eTup, gTupD, frzs, eLst, gLstD, allocL, eIx, oIx, fMin, take_self, R.bind, liftE, RS.seq, tName, tTupN, tNames, eMt, gMt, tyD, d__law_draw, g_draw_eq, vw, hp, p1, p2, hc, gSetI, setAt, ix3.1, hs, hz, p0'', hne, fInt, hlen, hm, hat, q1, ht]
end
end K82

/-! k82: the weights that the law draws. -/
namespace K82
open PySem PySem.Spec PySem.NumText PyProof.Rows L2 LamX VL
section
variable {ns : List Int} {τ : Store} {p a : Nat} {c : Int}
theorem e_pick {ds : List D} (hp : τ[p]? = some (PenC ns a c)) (h1 : 1 ≤ ds.length) (h2 : ds.length ≤ 100000) (ha : a ≤ 100000) :
    ∃ (x : D) (a' : Nat) (c' : Int), d__law_pick [.loc p, .d (.lst ds)] τ = .ok (.d x) (τ.set p (PenC ns a' c')) ∧ x ∈ ds ∧ a' ≤ a + 1 := by
  obtain ⟨i, a', c', e, hi, hl⟩ := e_draw hp h1 h2 ha
  have ht : ∀ X : Cell, (τ.set p X).take τ.length = τ.set p X := fun X => List.take_of_length_le (by simp)
  have hat : atI ds (i : Int) = some ds[i] := by rw [atI_nat, List.getElem?_eq_getElem hi]
  refine ⟨ds[i], a', c', ?_, List.getElem_mem hi, hl⟩
  generalize ds[i] = x at hat
  simp [callD, outR, retU, gSeq, gIf, gRet, gRetN, gSet, gExpr, VL.gNil, gNever, gUnp, gPar, gPar3, eVar, eC, elNil, elCons, eCall, gCall, eCB, gCB, vws_cons, vws_nil, c1, c2, eOp, opD, bOf, bAnd, bOr, bNeg, eAnd, eOr, eNot, eIf, eIs, isN, eIsi, D.ty, isTy, eChain, oLe, oLt, oGt, oGe, oEq, oNe, bNot, oAdd, oSub, fLen, fLenD, D.seq, eTup, gTupD, frzs, eLst, gLstD, allocL, eIx, oIx, fMin, take_self, R.bind, liftE, RS.seq, tName, tTupN, tNames, eMt, gMt, tyD, d__law_pick, g__law_pick, e, hat, ht]
/-- the store of the drawing of weights -/
def S (τ : Store) (p : Nat) (X : Cell) (l : List D) (w : List (Ky × D)) : Store := τ.set p X ++ [.lst l, .dct w]
section
variable {X Y : Cell} {l l' : List D} {w w' : List (Ky × D)}
theorem S_pen (h : p < τ.length) : (S τ p X l w)[p]? = some X := by
  unfold S
  rw [List.getElem?_append_left (by simpa using h), List.getElem?_set_self h]
theorem S_setpen (h : p < τ.length) : (S τ p X l w).set p Y = S τ p Y l w := by
  unfold S
  rw [List.set_append_left _ _ (by simpa using h), List.set_set]
theorem S_left : (S τ p X l w)[τ.length]? = some (.lst l) := by
  unfold S
  rw [List.getElem?_append_right (by simp)]
  simp
theorem S_found : (S τ p X l w)[τ.length + 1]? = some (.dct w) := by
  unfold S
  rw [List.getElem?_append_right (by simp)]
  simp
theorem S_setleft : (S τ p X l w).set τ.length (.lst l') = S τ p X l' w := by
  unfold S
  rw [List.set_append_right _ _ (by simp)]
  simp
theorem S_setfound : (S τ p X l w).set (τ.length + 1) (.dct w') = S τ p X l w' := by
  unfold S
  rw [List.set_append_right _ _ (by simp)]
  simp
theorem S_lock : (S τ p X l w).set (τ.length + 1) .dead = τ.set p X ++ [.lst l, .dead] := by
  unfold S
  rw [List.set_append_right _ _ (by simp)]
  simp
end
def gW : GS := (gSeq (gSet 4 (ePopA (eVar 2) (eCall 2 d__law_draw (elCons (eVar 0) (elCons (eCB (c1 fLen) (elCons (eVar 2) elNil)) elNil)))))
  (gPutK (eVar 3) (eVar 4) (eCall 2 d__law_pick (elCons (eVar 0) (elCons (eLst false (elCons (eC (.int 0)) (elCons (eC (.int 1)) (elCons (eC (.int 7)) (elCons (eOp oPow (eC (.int 10)) (eC (.int 9))) (elCons (eCall 2 d__law_draw (elCons (eVar 0) (elCons (eC (.int 1000)) elNil))) elNil)))))) elNil)))))
theorem g_weights_eq : g__law_weights = (gSeq (gPar 2 3 (elCons (eLst true (elCons (eC (.str [97])) (elCons (eC (.str [98])) (elCons (eC (.str [115, 104, 111, 114, 101, 115])) (elCons (eC (.str [122, 122, 122, 122, 122, 122, 122, 122])) (elCons (eC (.str [109])) (elCons (eC (.str [107])) (elCons (eC (.str [97, 98])) (elCons (eC (.str [97, 97])) elNil))))))))) (elCons eDN elNil)))
  (gSeq (gFor (dRange1 (elCons (eCall 2 d__law_draw (elCons (eVar 0) (elCons (eC (.int 9)) elNil))) elNil)) (tName 1) gW)
  (gRet (eLk (eVar 3))))) := rfl
theorem erase_perm {α : Type} : ∀ (l : List α) (i : Nat) (h : i < l.length), (l[i] :: l.eraseIdx i).Perm l
  | x :: l, 0, _ => List.Perm.refl _
  | x :: l, i + 1, h => by
    have h' : i < l.length := by simpa using h
    have ih := erase_perm l i h'
    show (l[i]'h' :: x :: l.eraseIdx i).Perm (x :: l)
    exact (List.Perm.swap x (l[i]'h') (l.eraseIdx i)).trans (List.Perm.cons x ih)
theorem map_erase {α β : Type} (f : α → β) : ∀ (l : List α) (i : Nat), (l.map f).eraseIdx i = (l.eraseIdx i).map f
  | [], _ => rfl
  | x :: l, 0 => rfl
  | x :: l, i + 1 => by
    show f x :: (l.map f).eraseIdx i = f x :: (l.eraseIdx i).map f
    rw [map_erase f l i]
structure WInv (lft : List T) (ws : WS) : Prop where
  own : ∀ t ∈ lft, isOwn t = true
  ok : ∀ q ∈ ws, isOwn q.1 = true ∧ q.2 ≤ 1000000000
  nd : (lft ++ ws.map (·.1)).Nodup
theorem WInv.step {lft : List T} {ws : WS} (I : WInv lft ws) {i v : Nat} (hi : i < lft.length) (hv : v ≤ 1000000000) : WInv (lft.eraseIdx i) (ws ++ [(lft[i], v)]) := by
  have sub := List.eraseIdx_sublist lft i
  refine ⟨fun t m => I.own t (sub.subset m), fun q m => ?_, ?_⟩
  · rcases List.mem_append.mp m with m | m
    · exact I.ok q m
    · rw [List.mem_singleton.mp m]; exact ⟨I.own _ (List.getElem_mem hi), hv⟩
  · have pm : (lft.eraseIdx i ++ (ws ++ [(lft[i], v)]).map (·.1)).Perm (lft ++ ws.map (·.1)) := by
      have p1 : (lft[i] :: lft.eraseIdx i).Perm lft := erase_perm lft i hi
      rw [List.map_append, ← List.append_assoc]
      refine (List.perm_append_comm).trans ?_
      show (lft[i] :: (lft.eraseIdx i ++ ws.map (·.1))).Perm _
      exact (p1.append_right _)
    exact pm.nodup_iff.mpr I.nd
theorem WInv.fresh {lft : List T} {ws : WS} (I : WInv lft ws) {i : Nat} (hi : i < lft.length) : ∀ q ∈ ws, q.1 ≠ lft[i] := fun q m z => by
  have := (List.nodup_append.mp I.nd).2.2 lft[i] (List.getElem_mem hi) q.1 (List.mem_map_of_mem m)
  exact this z.symm
theorem e_turnW {lft : List T} {ws : WS} (hp : p < τ.length) (I : WInv lft ws) (hl : 1 ≤ lft.length) (h8 : lft.length ≤ 8) (hw : ws.length ≤ 8) (ha : a + 3 ≤ 100000) (x1 x4 : Option U) :
    ∃ (i v a' : Nat) (c' : Int) (hi : i < lft.length), gW [some (.loc p), x1, some (.loc τ.length), some (.loc (τ.length + 1)), x4] (S τ p (PenC ns a c) (lft.map .str) (ws.map kv)) =
      .nx [some (.loc p), x1, some (.loc τ.length), some (.loc (τ.length + 1)), some (.d (.str lft[i]))] (S τ p (PenC ns a' c') ((lft.eraseIdx i).map .str) ((ws ++ [(lft[i], v)]).map kv)) ∧ v ≤ 1000000000 ∧ a' ≤ a + 3 := by
  obtain ⟨i, a1, c1', q1, hi, b1⟩ := e_draw (m := lft.length) (S_pen (X := PenC ns a c) (l := lft.map .str) (w := ws.map kv) hp) hl (by omega) (by omega)
  rw [S_setpen hp] at q1
  obtain ⟨j, a2, c2', q2, hj, b2⟩ := e_draw (m := 1000) (S_pen (X := PenC ns a1 c1') (l := (lft.eraseIdx i).map .str) (w := ws.map kv) hp) (by omega) (by omega) (by omega)
  rw [S_setpen hp] at q2
  have q2 : d__law_draw [.loc p, .d (.int 1000)] (S τ p (PenC ns a1 c1') ((lft.eraseIdx i).map .str) (ws.map kv)) = .ok (.d (.int j)) (S τ p (PenC ns a2 c2') ((lft.eraseIdx i).map .str) (ws.map kv)) := q2
  obtain ⟨x, a3, c3', q3, hx, b3⟩ := e_pick (ds := [.int 0, .int 1, .int 7, .int 1000000000, .int j]) (S_pen (X := PenC ns a2 c2') (l := (lft.eraseIdx i).map .str) (w := ws.map kv) hp) (by simp) (by simp) (by omega)
  rw [S_setpen hp] at q3
  obtain ⟨v, hv, hv2⟩ : ∃ v : Nat, x = .int v ∧ v ≤ 1000000000 := by
    simp only [List.mem_cons, List.not_mem_nil, or_false] at hx
    rcases hx with h | h | h | h | h
    · exact ⟨0, h, by omega⟩
    · exact ⟨1, h, by omega⟩
    · exact ⟨7, h, by omega⟩
    · exact ⟨1000000000, h, by omega⟩
    · exact ⟨j, h, by omega⟩
  subst hv
  refine ⟨i, v, a3, c3', hi, ?_, hv2, by omega⟩
  have hd := dput_new (acc := ws) (p := (lft[i], v)) (I.fresh hi)
  simp only at hd
  have hv1 : ∀ X w, vws (S τ p X (lft.map .str) w) [.loc τ.length] = some [.lst (lft.map .str)] := fun X w => by
    show (match vw (S τ p X (lft.map .str) w) (.loc τ.length), some ([] : List D) with
      | some d, some ds => some (d :: ds)
      | _, _ => none) = _
    have : vw (S τ p X (lft.map .str) w) (.loc τ.length) = some (.lst (lft.map .str)) := by
      unfold vw
      simp only [S_left]
    rw [this]
  have hix : ixN lft.length (i : Int) = some i := by
    unfold ixN
    rw [if_pos (by omega), if_pos (by omega)]
    rfl
  have hg : (lft.map D.str)[i]? = some (.str lft[i]) := by rw [List.getElem?_map, List.getElem?_eq_getElem hi]; rfl
  have her : (lft.map D.str).eraseIdx i = (lft.eraseIdx i).map .str := map_erase _ _ _
  have hs8 : lft.length ≤ sizeLine := by rw [sl_eq]; omega
  have hw8 : (ws.map kv).length < sizeLine := by rw [sl_eq, List.length_map]; omega
  have hll : (lft.map D.str).length = lft.length := List.length_map _
  have hlenI : ((lft.map D.str).length : Int) = (lft.length : Int) := by rw [hll]
  have five : 5 ≤ sizeLine := by rw [sl_eq]; omega
  have q1' : d__law_draw [.loc p, .d (.int ((lft.map D.str).length : Int))] (S τ p (PenC ns a c) (lft.map .str) (ws.map kv)) = .ok (.d (.int i)) (S τ p (PenC ns a1 c1') (lft.map .str) (ws.map kv)) := by rw [hlenI]; exact q1
  generalize (ws.map kv) = wk at *
  generalize ((ws ++ [(lft[i], v)]).map kv) = wk' at *
  generalize (lft.eraseIdx i).map D.str = l2 at *
  generalize hl1 : lft.map D.str = l1 at *
  generalize lft[i] = nm at *
  have hix' : ixN l1.length (i : Int) = some i := by rw [hll]; exact hix
  have hs8' : l1.length ≤ sizeLine := by rw [hll]; exact hs8
  simp [callD, outR, retU, gSeq, gIf, gRet, gRetN, gSet, gExpr, VL.gNil, gNever, gUnp, gPar, gPar3, eVar, eC, elNil, elCons, eCall, gCall, eCB, gCB, vws_cons, vws_nil, c1, c2, eOp, opD, bOf, bAnd, bOr, bNeg, eAnd, eOr, eNot, eIf, eIs, isN, eIsi, D.ty, isTy, eChain, oLe, oLt, oGt, oGe, oEq, oNe, bNot, oAdd, oSub, fLen, fLenD, D.seq, eTup, gTupD, frzs, eLst, gLstD, allocL, eIx, oIx, fMin, take_self, R.bind, liftE, RS.seq, tName, tTupN, tNames, eMt, gMt, tyD, gW, ePopA, S_left, hv1, q1', gPopA, hix', hg, hs8', her, S_setleft, gPutK, q2, q3, oPow, five, VL.putAt, D.ky, S_found, hd, hw8, S_setfound]
theorem loopW (hp : p < τ.length) : ∀ (r : Nat) (lo : Int) (lft : List T) (ws : WS) (a : Nat) (c : Int) (x1 x4 : Option U), r ≤ lft.length → lft.length + ws.length ≤ 8 → WInv lft ws → a + 3 * r ≤ 100000 →
    ∃ (ws' : WS) (a' : Nat) (c' : Int) (l' : List D) (y1 y4 : Option U), forGo (tName 1) gW (rngD lo r) [some (.loc p), x1, some (.loc τ.length), some (.loc (τ.length + 1)), x4] (S τ p (PenC ns a c) (lft.map .str) (ws.map kv)) =
      .nx [some (.loc p), y1, some (.loc τ.length), some (.loc (τ.length + 1)), y4] (S τ p (PenC ns a' c') l' (ws'.map kv)) ∧ a' ≤ a + 3 * r ∧ ws'.length ≤ 8 ∧ (∀ q ∈ ws', isOwn q.1 = true ∧ q.2 ≤ 1000000000) ∧ (ws'.map (·.1)).Nodup
  | 0, lo, lft, ws, a, c, x1, x4, hr, h8, I, ha => ⟨ws, a, c, lft.map .str, x1, x4, rfl, by omega, by omega, I.ok, (List.nodup_append.mp I.nd).2.1⟩
  | r + 1, lo, lft, ws, a, c, x1, x4, hr, h8, I, ha => by
    obtain ⟨i, v, a1, c1', hi, e, hv, b1⟩ := e_turnW (ns := ns) (c := c) hp I (by omega) (by omega) (by omega) (a := a) (by omega) (some (.d (.int lo))) x4
    have hel : (lft.eraseIdx i).length = lft.length - 1 := by rw [List.length_eraseIdx]; simp [hi]
    obtain ⟨ws', a', c', l', y1, y4, e2, b2, q1, q2, q3⟩ := loopW hp r (lo + 1) (lft.eraseIdx i) (ws ++ [(lft[i], v)]) a1 c1' (some (.d (.int lo))) (some (.d (.str lft[i]))) (by omega) (by simp; omega) (I.step hi hv) (by omega)
    refine ⟨ws', a', c', l', y1, y4, ?_, by omega, q1, q2, q3⟩
    have u : forGo (tName 1) gW (rngD lo (r + 1)) [some (.loc p), x1, some (.loc τ.length), some (.loc (τ.length + 1)), x4] (S τ p (PenC ns a c) (lft.map .str) (ws.map kv)) =
        match gW [some (.loc p), some (.d (.int lo)), some (.loc τ.length), some (.loc (τ.length + 1)), x4] (S τ p (PenC ns a c) (lft.map .str) (ws.map kv)) with
        | .nx ρ2 τ2 => forGo (tName 1) gW (rngD (lo + 1) r) ρ2 τ2
        | .ct ρ2 τ2 => forGo (tName 1) gW (rngD (lo + 1) r) ρ2 τ2
        | .bk ρ2 τ2 => .nx ρ2 τ2
        | r => r := rfl
    rw [u, e]
    exact e2
def NAMES : List T := [[97], [98], [115, 104, 111, 114, 101, 115], [122, 122, 122, 122, 122, 122, 122, 122], [109], [107], [97, 98], [97, 97]]
theorem names_ok : WInv NAMES [] := ⟨by decide, fun q m => by simp at m, by decide⟩
theorem e_wdraw (hp : τ[p]? = some (PenC ns a c)) (ha : a + 30 ≤ 100000) :
    ∃ (ws : WS) (a' : Nat) (c' : Int), d__law_weights [.loc p] τ = .ok (.d (.dct (ws.map kv))) (τ.set p (PenC ns a' c')) ∧ a' ≤ a + 25 ∧ VOk ws ∧ (ws.map (·.1)).Nodup := by
  have hlt : p < τ.length := (List.getElem?_eq_some_iff.mp hp).1
  have hself : τ.set p (PenC ns a c) = τ := by
    obtain ⟨h, e⟩ := List.getElem?_eq_some_iff.mp hp
    rw [← e]
    exact List.set_getElem_self h
  have hS : ∀ l : List D, τ ++ [.lst l, .dct []] = S τ p (PenC ns a c) l [] := fun l => by unfold S; rw [hself]
  obtain ⟨n, a1, c1', q1, hn, b1⟩ := e_draw (m := 9) (S_pen (X := PenC ns a c) (l := NAMES.map .str) (w := []) hlt) (by omega) (by omega) (by omega)
  rw [S_setpen hlt] at q1
  have q1 : d__law_draw [.loc p, .d (.int 9)] (S τ p (PenC ns a c) (NAMES.map .str) []) = .ok (.d (.int n)) (S τ p (PenC ns a1 c1') (NAMES.map .str) []) := q1
  obtain ⟨ws, a', c', l', y1, y4, e2, b2, f1, f2, f3⟩ := loopW (ns := ns) hlt n 0 NAMES [] a1 c1' none none (by show n ≤ 8; omega) (by decide) names_ok (by omega)
  refine ⟨ws, a', c', ?_, by omega, ⟨f1, f2⟩, f3⟩
  have hr : -4611686018427387904 ≤ (n : Int) ∧ (n : Int) < 4611686018427387904 := by omega
  have ht : ∀ (X : Cell) (l : List D), (τ.set p X ++ [Cell.lst l, Cell.dead]).take τ.length = τ.set p X := fun X l => List.take_left' (by simp)
  have e2 : forGo (tName 1) gW (rngD 0 n) [some (.loc p), none, some (.loc τ.length), some (.loc (τ.length + 1)), none] (S τ p (PenC ns a1 c1') (NAMES.map .str) []) = .nx [some (.loc p), y1, some (.loc τ.length), some (.loc (τ.length + 1)), y4] (S τ p (PenC ns a' c') l' (ws.map kv)) := e2
  have eight : 8 ≤ sizeLine := by rw [sl_eq]; omega
  have hS' := hS (NAMES.map .str)
  unfold NAMES at hS' q1 e2
  simp only [List.map_cons, List.map_nil] at hS' q1 e2
  generalize ws.map kv = wk at *
  simp [callD, outR, retU, gSeq, gIf, gRet, gRetN, gSet, gExpr, VL.gNil, gNever, gUnp, gPar, gPar3, eVar, eC, elNil, elCons, eCall, gCall, eCB, gCB, vws_cons, vws_nil, c1, c2, eOp, opD, bOf, bAnd, bOr, bNeg, eAnd, eOr, eNot, eIf, eIs, isN, eIsi, D.ty, isTy, eChain, oLe, oLt, oGt, oGe, oEq, oNe, bNot, oAdd, oSub, fLen, fLenD, D.seq, eTup, gTupD, frzs, eLst, gLstD, allocL, eIx, oIx, fMin, take_self, R.bind, liftE, RS.seq, tName, tTupN, tNames, eMt, gMt, tyD, d__law_weights, g_weights_eq, eDN, allocD, eight, hS', gFor, dRange1, gRange1, q1, hr, e2, eLk, S_found, S_lock, ht]
end
end K82

/-! k82: bent texts. -/
namespace K82
open PySem PySem.Spec PySem.NumText PyProof.Rows L2 LamX VL
/-- a text of plain signs, of a given length at most -/
structure FN (n : Nat) (t : T) : Prop where
  len : t.length ≤ n
  sg : ∀ c ∈ t, c < 128
def Sg (ts : List T) : Prop := ∀ t ∈ ts, ∀ c ∈ t, c < 128
theorem joinL_sg {b : Nat} (hb : b < 128) : ∀ {ts : List T}, Sg ts → ∀ c ∈ TL.joinL [b] ts, c < 128
  | [], _, c, m => by simp [TL.joinL] at m
  | [t], h, c, m => h t List.mem_cons_self c m
  | t :: u :: ts, h, c, m => by
    rw [joinL_cons (by simp)] at m
    rcases List.mem_append.mp m with m | m
    · exact h t List.mem_cons_self c m
    · rcases List.mem_cons.mp m with m | m
      · omega
      · exact joinL_sg hb (fun v mv => h v (List.mem_cons_of_mem _ mv)) c m
theorem Sg.app {a b : List T} (h1 : Sg a) (h2 : Sg b) : Sg (a ++ b) := fun t m => (List.mem_append.mp m).elim (h1 t) (h2 t)
theorem Sg.take {a : List T} (h : Sg a) (n : Nat) : Sg (a.take n) := fun t m => h t (List.mem_of_mem_take m)
theorem Sg.drop {a : List T} (h : Sg a) (n : Nat) : Sg (a.drop n) := fun t m => h t (List.mem_of_mem_drop m)
theorem Sg.set {a : List T} (h : Sg a) (n : Nat) {t : T} (ht : ∀ c ∈ t, c < 128) : Sg (a.set n t) := fun u m => (List.mem_or_eq_of_mem_set m).elim (h u) (fun e => by rw [e]; exact ht)
theorem Sg.one {t : T} (ht : ∀ c ∈ t, c < 128) : Sg [t] := fun u m => by rw [List.mem_singleton.mp m]; exact ht
theorem sg_sp {t : T} (h : ∀ c ∈ t, c < 128) (b : Nat) : Sg (sp b t) := fun p m c hc => by
  have := mem_joinL (b := b) m hc
  rw [join_sp] at this
  exact h c this
theorem cut_to (l : List D) (k : Nat) : cut l none (some (k : Int)) = l.take k := by
  unfold cut
  rw [HT.sIx_nat]
  show (l.drop 0).take (min k l.length - 0) = l.take k
  rw [List.drop_zero, Nat.sub_zero]
  rcases Nat.le_total k l.length with h | h
  · rw [Nat.min_eq_left h]
  · rw [Nat.min_eq_right h, List.take_of_length_le (Nat.le_refl _), List.take_of_length_le h]
theorem cut_from (l : List D) (k : Nat) : cut l (some (k : Int)) none = l.drop k := by
  unfold cut
  rw [HT.sIx_nat]
  show (l.drop (min k l.length)).take (l.length - min k l.length) = l.drop k
  rcases Nat.le_total k l.length with h | h
  · rw [Nat.min_eq_left h, List.take_of_length_le (by simp)]
  · rw [Nat.min_eq_right h, List.drop_of_length_le (Nat.le_refl _), List.drop_of_length_le h]
    simp
theorem e_join {b : Nat} {ts : List T} {ds : List D} (hd : ds = ts.map .str) (ht : tot ts ≤ 1000000) (τ : Store) : mJoin (.str [b]) [.lst ds] τ = .ok (.d (.str (TL.joinL [b] ts))) τ := by
  subst hd
  unfold mJoin
  simp only [D.seq, strsOf_map]
  rw [if_pos (by
    have e : tot ts = (ts.map (·.length)).sum + ts.length := rfl
    simp only [List.length_singleton, Nat.mul_one]
    omega)]
theorem tot_one (t : T) : tot [t] = t.length + 1 := by simp [tot]
/-- the store of the bending -/
def B (τ : Store) (p : Nat) (X : Cell) (l : List D) : Store := τ.set p X ++ [.lst l]
section
variable {ns : List Int} {τ : Store} {p a : Nat} {c : Int}
section
variable {X Y : Cell} {l l' : List D}
theorem B_pen (h : p < τ.length) : (B τ p X l)[p]? = some X := by
  unfold B
  rw [List.getElem?_append_left (by simpa using h), List.getElem?_set_self h]
theorem B_setpen (h : p < τ.length) : (B τ p X l).set p Y = B τ p Y l := by
  unfold B
  rw [List.set_append_left _ _ (by simpa using h), List.set_set]
theorem B_rows : (B τ p X l)[τ.length]? = some (.lst l) := by
  unfold B
  rw [List.getElem?_append_right (by simp)]
  simp
theorem B_setrows : (B τ p X l).set τ.length (.lst l') = B τ p X l' := by
  unfold B
  rw [List.set_append_right _ _ (by simp)]
  simp
theorem B_take : (B τ p X l).take τ.length = τ.set p X := List.take_left' (by simp)
theorem B_vw : vw (B τ p X l) (.loc τ.length) = some (.lst l) := by
  unfold vw
  simp only [B_rows]
theorem B_vws : vws (B τ p X l) [.loc τ.length] = some [.lst l] := by
  show (match vw (B τ p X l) (.loc τ.length), some ([] : List D) with
    | some d, some ds => some (d :: ds)
    | _, _ => none) = _
  rw [B_vw]
end
def gT5 : GS := (gSeq (gIf (bOf (eOp oEq (eVar 6) (eC (.int 4))))
  (gSet 2 (eOp (oAdd false) (eSl false (eVar 2) eoNone (eoSome (eVar 3))) (eSl false (eVar 2) (eoSome (eOp (oAdd false) (eVar 3) (eC (.int 1)))) eoNone)))
  (gSet 2 (eOp (oAdd false) (eOp (oAdd false) (eSl false (eVar 2) eoNone (eoSome (eVar 3))) (eLst false (elCons (eVar 4) elNil))) (eSl false (eVar 2) (eoSome (eOp (oAdd false) (eVar 3) (eCB (c1 fInt) (elCons (eOp oLt (eVar 6) (eC (.int 7))) elNil)))) eoNone))))
  (gSeq (gSetI (eVar 5) (eVar 7) (eMt "str" mJoin (eC (.str [32])) (elCons (eVar 2) elNil)))
  (gRet (eMt "str" mJoin (eC (.str [10])) (elCons (eVar 5) elNil)))))
def gT4 : GS := (gSeq (gSet 2 (eMt "str" mSplit (eIx (eVar 5) (eVar 7)) (elCons (eC (.str [32])) elNil)))
  (gSeq (gSet 3 (eCall 2 d__law_draw (elCons (eVar 0) (elCons (eOp (oAdd false) (eCB (c1 fLen) (elCons (eVar 2) elNil)) (eC (.int 1))) elNil))))
  (gSeq (gSet 4 (eCall 2 d__law_pick (elCons (eVar 0) (elCons (eLst false (elCons (eC (.str [])) (elCons (eC (.str [48])) (elCons (eC (.str [48, 48])) (elCons (eC (.str [45])) (elCons (eC (.str [45, 49])) (elCons (eC (.str [97])) (elCons (eC (.str [65])) (elCons (eC (.str [119, 101, 105, 103, 104, 116])) (elCons (eC (.str [108, 111, 97, 100])) (elCons (eC (.str [114, 117, 115, 104])) (elCons (eC (.str [49, 48, 48, 48, 48, 48, 48, 48, 48, 48, 48])) (elCons (eC (.str [49, 48, 48, 48, 48, 48, 48, 48, 48, 48, 49])) (elCons (eC (.str [49, 48, 48, 48, 48, 48, 48, 48, 48, 48])) (elCons (eC (.str [49, 48, 48, 48, 48, 48, 48, 48, 48, 49])) (elCons (eC (.str [115, 104, 111, 114, 101])) (elCons (eOp oRepT (eC (.str [57])) (eC (.int 30))) elNil))))))))))))))))) elNil))))
  gT5)))
def gT3 : GS := (gSeq (gIf (bOf (eOp oEq (eVar 6) (eC (.int 3))))
  (gSeq (gSet 4 (eCall 2 d__law_pick (elCons (eVar 0) (elCons (eLst false (elCons (eC (.str [])) (elCons (eC (.str [119, 101, 105, 103, 104, 116, 32, 122, 122, 32, 49])) (elCons (eC (.str [119, 101, 105, 103, 104, 116, 32, 98])) (elCons (eC (.str [108, 111, 97, 100, 32, 45])) (elCons (eC (.str [114, 117, 115, 104, 32, 48])) (elCons (eC (.str [119, 101, 105, 103, 104, 116, 32, 115, 104, 111, 114, 101, 32, 49])) (elCons (eC (.str [119, 101, 105, 103, 104, 116, 32, 97, 32, 48, 49])) (elCons (eC (.str [108, 111, 97, 100])) (elCons (eC (.str [119, 101, 105, 103, 104, 116, 115, 32, 97, 32, 49])) (elCons (eC (.str [119, 101, 105, 103, 104, 116, 32, 122, 122, 122, 32, 53, 32])) elNil))))))))))) elNil))))
  (gRet (eMt "str" mJoin (eC (.str [10])) (elCons (eOp (oAdd false) (eOp (oAdd false) (eSl false (eVar 5) eoNone (eoSome (eVar 7))) (eLst false (elCons (eVar 4) elNil))) (eSl false (eVar 5) (eoSome (eVar 7)) eoNone)) elNil))))
  VL.gNil)
  gT4)
def gT2 : GS := (gSeq (gIf (bOf (eOp oEq (eVar 6) (eC (.int 2))))
  (gSeq (gSet2 (eVar 5) (eVar 7) (eVar 5) (eVar 8) (elCons (eIx (eVar 5) (eVar 8)) (elCons (eIx (eVar 5) (eVar 7)) elNil)))
  (gRet (eMt "str" mJoin (eC (.str [10])) (elCons (eVar 5) elNil))))
  VL.gNil)
  gT3)
def gT1 : GS := (gSeq (gIf (bOf (eOp oEq (eVar 6) (eC (.int 0))))
  (gRet (eMt "str" mJoin (eC (.str [10])) (elCons (eOp (oAdd false) (eSl false (eVar 5) eoNone (eoSome (eVar 7))) (eSl false (eVar 5) (eoSome (eOp (oAdd false) (eVar 7) (eC (.int 1)))) eoNone)) elNil)))
  VL.gNil)
  (gSeq (gIf (bOf (eOp oEq (eVar 6) (eC (.int 1))))
  (gRet (eMt "str" mJoin (eC (.str [10])) (elCons (eOp (oAdd false) (eSl false (eVar 5) eoNone (eoSome (eOp (oAdd false) (eVar 7) (eC (.int 1))))) (eSl false (eVar 5) (eoSome (eVar 7)) eoNone)) elNil)))
  VL.gNil)
  gT2))
theorem g_bent_eq : g__law_bent = (gSeq (gPar 5 6 (elCons (eMt "str" mSplitO (eVar 1) (elCons (eC (.str [10])) elNil)) (elCons (eCall 2 d__law_draw (elCons (eVar 0) (elCons (eC (.int 8)) elNil))) elNil)))
  (gSeq (gPar 7 8 (elCons (eCall 2 d__law_draw (elCons (eVar 0) (elCons (eCB (c1 fLen) (elCons (eVar 5) elNil)) elNil))) (elCons (eCall 2 d__law_draw (elCons (eVar 0) (elCons (eCB (c1 fLen) (elCons (eVar 5) elNil)) elNil))) elNil)))
  gT1)) := rfl
/-- what is wanted of each way -/
def BOk (ns : List Int) (τ : Store) (p a k N : Nat) (g : GS) (ρ : VL.Env) (X : Cell) (rs : List D) : Prop :=
  ∃ (t : T) (a' : Nat) (c' : Int), outR τ.length (g ρ (B τ p X rs)) = .ok (.d (.str t)) (τ.set p (PenC ns a' c')) ∧ FN (3 * N + 110) t ∧ a' ≤ a + k
section
variable {rows : List T} {N at_ to way : Nat} {x1 x2 x3 x4 x8 : Option U}
theorem e_way0 (hr : Sg rows) (ht : tot rows ≤ N + 1) (hN : N ≤ 10000) (hw : way = 0 ∨ way = 1) : BOk ns τ p a 2 N gT1 [some (.loc p), x1, x2, x3, x4, some (.loc τ.length), some (.d (.int way)), some (.d (.int at_)), x8] (PenC ns a c) (rows.map .str) := by
  have tk := fun n => tot_take n rows
  have td := fun n => tot_drop n rows
  have key : ∀ i j : Nat, ∃ L : T, (∀ A Bq : List D, A = (rows.take i).map .str → Bq = (rows.drop j).map .str → A.length + Bq.length ≤ sizeLine ∧ mJoin (.str [10]) [.lst (A ++ Bq)] (B τ p (PenC ns a c) (rows.map .str)) = .ok (.d (.str L)) (B τ p (PenC ns a c) (rows.map .str))) ∧ FN (3 * N + 110) L := fun i j => by
    have h1 := tk i
    have h2 := td j
    have h3 : tot (rows.take i ++ rows.drop j) ≤ 2 * (N + 1) := by rw [tot_app]; omega
    refine ⟨TL.joinL [10] (rows.take i ++ rows.drop j), fun A Bq e1 e2 => ⟨?_, e_join (by rw [e1, e2, List.map_append]) (by omega) _⟩, ?_⟩
    · have := tot_len (rows.take i)
      have := tot_len (rows.drop j)
      rw [e1, e2, sl_eq, List.length_map, List.length_map]
      omega
    · refine ⟨?_, joinL_sg (by omega) ((hr.take i).app (hr.drop j))⟩
      have := joinL_len 10 (rows.take i ++ rows.drop j)
      omega
  rcases hw with rfl | rfl
  · obtain ⟨L, k1, k2⟩ := key at_ (at_ + 1)
    refine ⟨L, a, c, ?_, k2, by omega⟩
    have c1 := cut_to (rows.map D.str) at_
    have c2 : cut (rows.map D.str) (some ((at_ : Int) + 1)) none = (rows.map D.str).drop (at_ + 1) := cut_from (rows.map D.str) (at_ + 1)
    obtain ⟨q1, q2⟩ := k1 _ _ (by rw [List.map_take]) (by rw [List.map_drop])
    generalize (rows.map D.str).take at_ = A at c1 q1 q2
    generalize (rows.map D.str).drop (at_ + 1) = Bq at c2 q1 q2
    generalize rows.map D.str = rs at *
    simp [callD, outR, retU, gSeq, gIf, gRet, gRetN, gSet, gExpr, VL.gNil, gNever, gUnp, gPar, gPar3, eVar, eC, elNil, elCons, eCall, gCall, eCB, gCB, vws_cons, vws_nil, c1, c2, eOp, opD, bOf, bAnd, bOr, bNeg, eAnd, eOr, eNot, eIf, eIs, isN, eIsi, D.ty, isTy, eChain, oLe, oLt, oGt, oGe, oEq, oNe, bNot, oAdd, oSub, fLen, fLenD, D.seq, eTup, gTupD, frzs, eLst, gLstD, allocL, eIx, oIx, fMin, take_self, R.bind, liftE, RS.seq, tName, tTupN, tNames, eMt, gMt, tyD, gT1, eSl, gSl, oSl, eoNone, eoSome, B_vw, c1, c2, q1, q2, B_take]
  · obtain ⟨L, k1, k2⟩ := key (at_ + 1) at_
    refine ⟨L, a, c, ?_, k2, by omega⟩
    have c1 : cut (rows.map D.str) none (some ((at_ : Int) + 1)) = (rows.map D.str).take (at_ + 1) := cut_to (rows.map D.str) (at_ + 1)
    have c2 := cut_from (rows.map D.str) at_
    obtain ⟨q1, q2⟩ := k1 _ _ (by rw [List.map_take]) (by rw [List.map_drop])
    generalize (rows.map D.str).take (at_ + 1) = A at c1 q1 q2
    generalize (rows.map D.str).drop at_ = Bq at c2 q1 q2
    generalize rows.map D.str = rs at *
    simp [callD, outR, retU, gSeq, gIf, gRet, gRetN, gSet, gExpr, VL.gNil, gNever, gUnp, gPar, gPar3, eVar, eC, elNil, elCons, eCall, gCall, eCB, gCB, vws_cons, vws_nil, c1, c2, eOp, opD, bOf, bAnd, bOr, bNeg, eAnd, eOr, eNot, eIf, eIs, isN, eIsi, D.ty, isTy, eChain, oLe, oLt, oGt, oGe, oEq, oNe, bNot, oAdd, oSub, fLen, fLenD, D.seq, eTup, gTupD, frzs, eLst, gLstD, allocL, eIx, oIx, fMin, take_self, R.bind, liftE, RS.seq, tName, tTupN, tNames, eMt, gMt, tyD, gT1, eSl, gSl, oSl, eoNone, eoSome, B_vw, c1, c2, q1, q2, B_take]
theorem ix_at {n k : Nat} (h : k < n) : ixN n (k : Int) = some k := by
  unfold ixN
  rw [if_pos (by omega), if_pos (by omega)]
  rfl
theorem e_way2 (hr : Sg rows) (ht : tot rows ≤ N + 1) (hN : N ≤ 10000) (ha : at_ < rows.length) (hto : to < rows.length) : BOk ns τ p a 2 N gT1 [some (.loc p), x1, x2, x3, x4, some (.loc τ.length), some (.d (.int (2 : Nat))), some (.d (.int at_)), some (.d (.int to))] (PenC ns a c) (rows.map .str) := by
  have g1 : atI (rows.map D.str) (at_ : Int) = some (.str rows[at_]) := by rw [atI_nat, List.getElem?_map, List.getElem?_eq_getElem ha]; rfl
  have g2 : atI (rows.map D.str) (to : Int) = some (.str rows[to]) := by rw [atI_nat, List.getElem?_map, List.getElem?_eq_getElem hto]; rfl
  have s1 : (rows.map D.str).set at_ (.str rows[to]) = (rows.set at_ rows[to]).map .str := List.map_set.symm
  have s2 : ((rows.set at_ rows[to]).map D.str).set to (.str rows[at_]) = ((rows.set at_ rows[to]).set to rows[at_]).map .str := List.map_set.symm
  have i1 := ix_at (n := (rows.map D.str).length) (k := at_) (by simpa using ha)
  have i2 := ix_at (n := ((rows.set at_ rows[to]).map D.str).length) (k := to) (by simpa using hto)
  have m1 := tot_mem (List.getElem_mem ha)
  have m2 := tot_mem (List.getElem_mem hto)
  have t1 := tot_set (p := rows[to]) at_ rows
  have t2 := tot_set (p := rows[at_]) to (rows.set at_ rows[to])
  have hj := e_join (b := 10) (ts := (rows.set at_ rows[to]).set to rows[at_]) rfl (by omega) (B τ p (PenC ns a c) (((rows.set at_ rows[to]).set to rows[at_]).map .str))
  refine ⟨TL.joinL [10] ((rows.set at_ rows[to]).set to rows[at_]), a, c, ?_, ⟨?_, joinL_sg (by omega) ((hr.set at_ (hr _ (List.getElem_mem hto))).set to (hr _ (List.getElem_mem ha)))⟩, by omega⟩
  · generalize rows[to] = xt at *
    generalize rows[at_] = xa at *
    generalize (((rows.set at_ xt).set to xa).map D.str) = r3 at *
    generalize (rows.set at_ xt).map D.str = r2 at *
    generalize rows.map D.str = r1 at *
    simp [callD, outR, retU, gSeq, gIf, gRet, gRetN, gSet, gExpr, VL.gNil, gNever, gUnp, gPar, gPar3, eVar, eC, elNil, elCons, eCall, gCall, eCB, gCB, vws_cons, vws_nil, c1, c2, eOp, opD, bOf, bAnd, bOr, bNeg, eAnd, eOr, eNot, eIf, eIs, isN, eIsi, D.ty, isTy, eChain, oLe, oLt, oGt, oGe, oEq, oNe, bNot, oAdd, oSub, fLen, fLenD, D.seq, eTup, gTupD, frzs, eLst, gLstD, allocL, eIx, oIx, fMin, take_self, R.bind, liftE, RS.seq, tName, tTupN, tNames, eMt, gMt, tyD, gT1, gT2, gSet2, B_vw, g1, g2, setAt, B_rows, i1, s1, B_setrows, i2, s2, B_vws, hj, B_take]
  · have := joinL_len 10 ((rows.set at_ rows[to]).set to rows[at_])
    omega
def ODD3 : List T := [[], [119, 101, 105, 103, 104, 116, 32, 122, 122, 32, 49], [119, 101, 105, 103, 104, 116, 32, 98], [108, 111, 97, 100, 32, 45], [114, 117, 115, 104, 32, 48], [119, 101, 105, 103, 104, 116, 32, 115, 104, 111, 114, 101, 32, 49], [119, 101, 105, 103, 104, 116, 32, 97, 32, 48, 49], [108, 111, 97, 100], [119, 101, 105, 103, 104, 116, 115, 32, 97, 32, 49], [119, 101, 105, 103, 104, 116, 32, 122, 122, 122, 32, 53, 32]]
theorem odd3_ok : ∀ t ∈ ODD3, t.length ≤ 30 ∧ ∀ c ∈ t, c < 128 := by decide
/-- a list taken apart with a text between -/
theorem mid_join (b : Nat) (ls : List T) (i j : Nat) (odd : T) (h : tot ls ≤ 30001) (ho : odd.length ≤ 30) (σ : Store) :
    ((ls.take i).map D.str).length + 1 ≤ sizeLine ∧ ((ls.take i).map D.str).length + 1 + ((ls.drop j).map D.str).length ≤ sizeLine ∧
      mJoin (.str [b]) [.lst ((ls.take i).map .str ++ D.str odd :: (ls.drop j).map .str)] σ = .ok (.d (.str (TL.joinL [b] (ls.take i ++ odd :: ls.drop j)))) σ := by
  have h1 := tot_take i ls
  have h2 := tot_drop j ls
  have l1 := tot_len (ls.take i)
  have l2 := tot_len (ls.drop j)
  refine ⟨by rw [sl_eq, List.length_map]; omega, by rw [sl_eq, List.length_map, List.length_map]; omega, e_join (by simp) ?_ σ⟩
  rw [tot_app, tot_cons]
  omega
theorem mid_tot (ls : List T) (i j : Nat) (odd : T) : tot (ls.take i ++ odd :: ls.drop j) ≤ 2 * tot ls + odd.length + 1 := by
  have h1 := tot_take i ls
  have h2 := tot_drop j ls
  rw [tot_app, tot_cons]
  omega
theorem mid_sg {ls : List T} (hr : Sg ls) (i j : Nat) {odd : T} (ho : ∀ c ∈ odd, c < 128) : Sg (ls.take i ++ odd :: ls.drop j) := (hr.take i).app fun t m => (List.mem_cons.mp m).elim (fun e => by rw [e]; exact ho) (hr.drop j t)
theorem e_way3 (hlt : p < τ.length) (hr : Sg rows) (ht : tot rows ≤ N + 1) (hN : N ≤ 10000) (ha : a + 2 ≤ 100000) : BOk ns τ p a 2 N gT1 [some (.loc p), x1, x2, x3, x4, some (.loc τ.length), some (.d (.int (3 : Nat))), some (.d (.int at_)), x8] (PenC ns a c) (rows.map .str) := by
  obtain ⟨x, a1, c1', q, hx, b1⟩ := e_pick (ds := ODD3.map .str) (B_pen (X := PenC ns a c) (l := rows.map .str) hlt) (by decide) (by decide) (by omega)
  rw [B_setpen hlt] at q
  obtain ⟨odd, ho, rfl⟩ := List.mem_map.mp hx
  obtain ⟨o1, o2⟩ := odd3_ok odd ho
  obtain ⟨f1, f2, hj⟩ := mid_join 10 rows at_ at_ odd (by omega) o1 (B τ p (PenC ns a1 c1') (rows.map .str))
  refine ⟨_, a1, c1', ?_, ⟨?_, joinL_sg (b := 10) (by omega) (mid_sg hr at_ at_ o2)⟩, by omega⟩
  · have k1 := cut_to (rows.map D.str) at_
    have k2 := cut_from (rows.map D.str) at_
    have e1 : (rows.map D.str).take at_ = (rows.take at_).map .str := by rw [List.map_take]
    have e2 : (rows.map D.str).drop at_ = (rows.drop at_).map .str := by rw [List.map_drop]
    rw [e1] at k1
    rw [e2] at k2
    generalize (rows.take at_).map D.str = A at *
    generalize (rows.drop at_).map D.str = Bq at *
    generalize rows.map D.str = rs at *
    have one : 1 ≤ sizeLine := by rw [sl_eq]; omega
    have ten : 10 ≤ sizeLine := by rw [sl_eq]; omega
    unfold ODD3 at q
    simp only [List.map_cons, List.map_nil] at q
    simp [callD, outR, retU, gSeq, gIf, gRet, gRetN, gSet, gExpr, VL.gNil, gNever, gUnp, gPar, gPar3, eVar, eC, elNil, elCons, eCall, gCall, eCB, gCB, vws_cons, vws_nil, c1, c2, eOp, opD, bOf, bAnd, bOr, bNeg, eAnd, eOr, eNot, eIf, eIs, isN, eIsi, D.ty, isTy, eChain, oLe, oLt, oGt, oGe, oEq, oNe, bNot, oAdd, oSub, fLen, fLenD, D.seq, eTup, gTupD, frzs, eLst, gLstD, allocL, eIx, oIx, fMin, take_self, R.bind, liftE, RS.seq, tName, tTupN, tNames, eMt, gMt, tyD, gT1, gT2, gT3, ten, one, q, eSl, gSl, oSl, eoNone, eoSome, B_vw, k1, k2, f1, f2, hj, B_take]
  · have h1 := joinL_len 10 (rows.take at_ ++ odd :: rows.drop at_)
    have h2 := mid_tot rows at_ at_ odd
    omega
def NIN : T := List.replicate 30 57
def ODD4 : List T := [[], [48], [48, 48], [45], [45, 49], [97], [65], [119, 101, 105, 103, 104, 116], [108, 111, 97, 100], [114, 117, 115, 104], [49, 48, 48, 48, 48, 48, 48, 48, 48, 48, 48], [49, 48, 48, 48, 48, 48, 48, 48, 48, 48, 49], [49, 48, 48, 48, 48, 48, 48, 48, 48, 48], [49, 48, 48, 48, 48, 48, 48, 48, 48, 49], [115, 104, 111, 114, 101], NIN]
theorem odd4_ok : ∀ t ∈ ODD4, t.length ≤ 30 ∧ ∀ c ∈ t, c < 128 := by decide
theorem e_T5 {ws : List T} {spot : Nat} {odd : T} (hs : Sg ws) (hw : tot ws ≤ N + 1) (o1 : odd.length ≤ 30) (o2 : ∀ c ∈ odd, c < 128) (hr : Sg rows) (ht : tot rows ≤ N + 1) (hN : N ≤ 10000) (hat : at_ < rows.length) (h4 : 4 ≤ way) :
    BOk ns τ p a 0 N gT5 [some (.loc p), x1, some (.d (.lst (ws.map .str))), some (.d (.int spot)), some (.d (.str odd)), some (.loc τ.length), some (.d (.int way)), some (.d (.int at_)), x8] (PenC ns a c) (rows.map .str) := by
  have fin : ∀ row : T, row.length ≤ 2 * (N + 1) + 40 → (∀ c ∈ row, c < 128) → (rows.map D.str).set at_ (.str row) = (rows.set at_ row).map .str ∧ mJoin (.str [10]) [.lst ((rows.set at_ row).map .str)] (B τ p (PenC ns a c) ((rows.set at_ row).map .str)) = .ok (.d (.str (TL.joinL [10] (rows.set at_ row)))) (B τ p (PenC ns a c) ((rows.set at_ row).map .str)) ∧ FN (3 * N + 110) (TL.joinL [10] (rows.set at_ row)) := fun row h1 h2 => by
    have t1 := tot_set (p := row) at_ rows
    refine ⟨List.map_set.symm, e_join rfl (by omega) _, ⟨?_, joinL_sg (by omega) (hr.set at_ h2)⟩⟩
    have := joinL_len 10 (rows.set at_ row)
    omega
  have i1 := ix_at (n := (rows.map D.str).length) (k := at_) (by simpa using hat)
  have k1 := cut_to (ws.map D.str) spot
  have e1 : (ws.map D.str).take spot = (ws.take spot).map .str := by rw [List.map_take]
  have one : 1 ≤ sizeLine := by rw [sl_eq]; omega
  rw [e1] at k1
  by_cases w4 : way = 4
  · subst w4
    have k2 : cut (ws.map D.str) (some ((spot : Int) + 1)) none = (ws.map D.str).drop (spot + 1) := cut_from (ws.map D.str) (spot + 1)
    have e2 : (ws.map D.str).drop (spot + 1) = (ws.drop (spot + 1)).map .str := by rw [List.map_drop]
    rw [e2] at k2
    have h1 := tot_take spot ws
    have h2 := tot_drop (spot + 1) ws
    have l1 := tot_len (ws.take spot)
    have l2 := tot_len (ws.drop (spot + 1))
    have f0 : ((ws.take spot).map D.str).length + ((ws.drop (spot + 1)).map D.str).length ≤ sizeLine := by rw [sl_eq, List.length_map, List.length_map]; omega
    have hj := e_join (b := 32) (ts := ws.take spot ++ ws.drop (spot + 1)) (ds := (ws.take spot).map .str ++ (ws.drop (spot + 1)).map .str) (by simp) (by rw [tot_app]; omega) (B τ p (PenC ns a c) (rows.map .str))
    have jl := joinL_len 32 (ws.take spot ++ ws.drop (spot + 1))
    rw [tot_app] at jl
    obtain ⟨g1, g2, g3⟩ := fin (TL.joinL [32] (ws.take spot ++ ws.drop (spot + 1))) (by omega) (joinL_sg (by omega) ((hs.take _).app (hs.drop _)))
    refine ⟨_, a, c, ?_, g3, by omega⟩
    generalize TL.joinL [32] (ws.take spot ++ ws.drop (spot + 1)) = row at *
    generalize TL.joinL [10] (rows.set at_ row) = fl at *
    generalize (ws.take spot).map D.str = A at *
    generalize (ws.drop (spot + 1)).map D.str = Bq at *
    generalize (rows.set at_ row).map D.str = r2 at *
    generalize rows.map D.str = rs at *
    simp [callD, outR, retU, gSeq, gIf, gRet, gRetN, gSet, gExpr, VL.gNil, gNever, gUnp, gPar, gPar3, eVar, eC, elNil, elCons, eCall, gCall, eCB, gCB, vws_cons, vws_nil, c1, c2, eOp, opD, bOf, bAnd, bOr, bNeg, eAnd, eOr, eNot, eIf, eIs, isN, eIsi, D.ty, isTy, eChain, oLe, oLt, oGt, oGe, oEq, oNe, bNot, oAdd, oSub, fLen, fLenD, D.seq, eTup, gTupD, frzs, eLst, gLstD, allocL, eIx, oIx, fMin, take_self, R.bind, liftE, RS.seq, tName, tTupN, tNames, eMt, gMt, tyD, gT5, eSl, gSl, oSl, eoNone, eoSome, k1, k2, f0, hj, gSetI, setAt, B_rows, i1, g1, B_setrows, B_vws, g2, B_take]
  · have w4' : ¬ (way : Int) = 4 := by omega
    obtain ⟨d, hd, hd2⟩ : ∃ d : Nat, (if (way : Int) < 7 then (1 : Int) else 0) = d ∧ d ≤ 1 := by
      by_cases h7 : (way : Int) < 7
      · exact ⟨1, by rw [if_pos h7]; rfl, by omega⟩
      · exact ⟨0, by rw [if_neg h7]; rfl, by omega⟩
    have k2 : cut (ws.map D.str) (some ((spot : Int) + (d : Int))) none = (ws.map D.str).drop (spot + d) := by
      have := cut_from (ws.map D.str) (spot + d)
      rwa [Int.natCast_add] at this
    have e2 : (ws.map D.str).drop (spot + d) = (ws.drop (spot + d)).map .str := by rw [List.map_drop]
    rw [e2] at k2
    obtain ⟨f1, f2, hj⟩ := mid_join 32 ws spot (spot + d) odd (by omega) o1 (B τ p (PenC ns a c) (rows.map .str))
    have jl := joinL_len 32 (ws.take spot ++ odd :: ws.drop (spot + d))
    have jt := mid_tot ws spot (spot + d) odd
    obtain ⟨g1, g2, g3⟩ := fin (TL.joinL [32] (ws.take spot ++ odd :: ws.drop (spot + d))) (by omega) (joinL_sg (by omega) (mid_sg hs _ _ o2))
    have hi : fInt (.bl (decide ((way : Int) < 7))) (B τ p (PenC ns a c) (rows.map .str)) = .ok (.d (.int d)) (B τ p (PenC ns a c) (rows.map .str)) := by
      unfold fInt
      simp only [decide_eq_true_eq]
      rw [hd]
    refine ⟨_, a, c, ?_, g3, by omega⟩
    generalize TL.joinL [32] (ws.take spot ++ odd :: ws.drop (spot + d)) = row at *
    generalize TL.joinL [10] (rows.set at_ row) = fl at *
    generalize (ws.take spot).map D.str = A at *
    generalize (ws.drop (spot + d)).map D.str = Bq at *
    generalize (rows.set at_ row).map D.str = r2 at *
    generalize rows.map D.str = rs at *
    simp [callD, outR, retU, gSeq, gIf, gRet, gRetN, gSet, gExpr, VL.gNil, gNever, gUnp, gPar, gPar3, eVar, eC, elNil, elCons, eCall, gCall, eCB, gCB, vws_cons, vws_nil, c1, c2, eOp, opD, bOf, bAnd, bOr, bNeg, eAnd, eOr, eNot, eIf, eIs, isN, eIsi, D.ty, isTy, eChain, oLe, oLt, oGt, oGe, oEq, oNe, bNot, oAdd, oSub, fLen, fLenD, D.seq, eTup, gTupD, frzs, eLst, gLstD, allocL, eIx, oIx, fMin, take_self, R.bind, liftE, RS.seq, tName, tTupN, tNames, eMt, gMt, tyD, gT5, w4', one, eSl, gSl, oSl, eoNone, eoSome, k1, hi, k2, f1, f2, hj, gSetI, setAt, B_rows, i1, g1, B_setrows, B_vws, g2, B_take]
theorem e_T4 (hlt : p < τ.length) (hr : Sg rows) (ht : tot rows ≤ N + 1) (hN : N ≤ 10000) (hat : at_ < rows.length) (h4 : 4 ≤ way) (ha : a + 2 ≤ 100000) :
    BOk ns τ p a 2 N gT4 [some (.loc p), x1, x2, x3, x4, some (.loc τ.length), some (.d (.int way)), some (.d (.int at_)), x8] (PenC ns a c) (rows.map .str) := by
  have hg : atI (rows.map D.str) (at_ : Int) = some (.str rows[at_]) := by rw [atI_nat, List.getElem?_map, List.getElem?_eq_getElem hat]; rfl
  have hm := tot_mem (List.getElem_mem hat)
  have hrs := hr _ (List.getElem_mem hat)
  generalize rows[at_] = r at hg hm hrs
  have hr2 : r.length + 2 ≤ sizeLine := by rw [sl_eq]; omega
  have hsg := sg_sp hrs 32
  have hto := tot_sp 32 r
  obtain ⟨ws, hW⟩ : ∃ ws, TL.spl [32] 0 [] r = ws := ⟨_, rfl⟩
  have hW' : sp 32 r = ws := hW
  rw [hW'] at hsg hto
  have hwl := tot_len ws
  obtain ⟨spot, a1, c1', q1, hs1, b1⟩ := e_draw (m := ws.length + 1) (B_pen (X := PenC ns a c) (l := rows.map .str) hlt) (by omega) (by omega) (by omega)
  rw [B_setpen hlt] at q1
  have q1 : d__law_draw [.loc p, .d (.int ((ws.length : Int) + 1))] (B τ p (PenC ns a c) (rows.map .str)) = .ok (.d (.int spot)) (B τ p (PenC ns a1 c1') (rows.map .str)) := q1
  obtain ⟨x, a2, c2', q2, hx, b2⟩ := e_pick (ds := ODD4.map .str) (B_pen (X := PenC ns a1 c1') (l := rows.map .str) hlt) (by decide) (by decide) (by omega)
  rw [B_setpen hlt] at q2
  obtain ⟨odd, ho, rfl⟩ := List.mem_map.mp hx
  obtain ⟨o1, o2⟩ := odd4_ok odd ho
  obtain ⟨t, a', c', e, hF, b3⟩ := e_T5 (ns := ns) (τ := τ) (p := p) (a := a2) (c := c2') (N := N) (x1 := x1) (x8 := x8) (spot := spot) hsg (by omega) o1 o2 hr ht hN hat h4
  refine ⟨t, a', c', ?_, hF, by omega⟩
  have r9 : oRepT (.str [57]) (.int 30) (B τ p (PenC ns a1 c1') (rows.map .str)) = .ok (.d (.str NIN)) (B τ p (PenC ns a1 c1') (rows.map .str)) := by
    have : (List.replicate (30 : Int).toNat ([57] : T)).flatten = NIN := by decide
    simp only [oRepT]
    rw [if_pos (by decide), this]
  have six : 16 ≤ sizeLine := by rw [sl_eq]; omega
  have hl : (ws.map D.str).length = ws.length := List.length_map _
  unfold ODD4 at q2
  simp only [List.map_cons, List.map_nil] at q2
  have hstep : gT4 [some (.loc p), x1, x2, x3, x4, some (.loc τ.length), some (.d (.int way)), some (.d (.int at_)), x8] (B τ p (PenC ns a c) (rows.map .str)) = gT5 [some (.loc p), x1, some (.d (.lst (ws.map .str))), some (.d (.int spot)), some (.d (.str odd)), some (.loc τ.length), some (.d (.int way)), some (.d (.int at_)), x8] (B τ p (PenC ns a2 c2') (rows.map .str)) := by
    generalize NIN = nin at *
    generalize rows.map D.str = rs at *
    simp [callD, outR, retU, gSeq, gIf, gRet, gRetN, gSet, gExpr, VL.gNil, gNever, gUnp, gPar, gPar3, eVar, eC, elNil, elCons, eCall, gCall, eCB, gCB, vws_cons, vws_nil, c1, c2, eOp, opD, bOf, bAnd, bOr, bNeg, eAnd, eOr, eNot, eIf, eIs, isN, eIsi, D.ty, isTy, eChain, oLe, oLt, oGt, oGe, oEq, oNe, bNot, oAdd, oSub, fLen, fLenD, D.seq, eTup, gTupD, frzs, eLst, gLstD, allocL, eIx, oIx, fMin, take_self, R.bind, liftE, RS.seq, tName, tTupN, tNames, eMt, gMt, tyD, gT4, B_vw, hg, mSplit, hr2, hW, q1, r9, six, q2]
  rw [hstep]
  exact e
/-- a text is bent -/
theorem e_bent {line : T} (hp : τ[p]? = some (PenC ns a c)) (ha : a + 10 ≤ 100000) (hL : FN N line) (hN : N ≤ 10000) :
    ∃ (t : T) (a' : Nat) (c' : Int), d__law_bent [.loc p, .d (.str line)] τ = .ok (.d (.str t)) (τ.set p (PenC ns a' c')) ∧ FN (3 * N + 110) t ∧ a' ≤ a + 5 := by
  have hlt : p < τ.length := (List.getElem?_eq_some_iff.mp hp).1
  have hself : τ.set p (PenC ns a c) = τ := by
    obtain ⟨h, e⟩ := List.getElem?_eq_some_iff.mp hp
    rw [← e]
    exact List.set_getElem_self h
  have hl2 : line.length + 2 ≤ sizeLine := by rw [sl_eq]; have := hL.len; omega
  have hsg := sg_sp hL.sg 10
  have hto := tot_sp 10 line
  obtain ⟨rows, hR⟩ : ∃ rows, TL.spl [10] 0 [] line = rows := ⟨_, rfl⟩
  have hR' : sp 10 line = rows := hR
  have hne : rows ≠ [] := by rw [← hR']; exact spl_ne 10 line []
  rw [hR'] at hsg hto
  have hlen := hL.len
  have hrl := tot_len rows
  have hr1 : 1 ≤ rows.length := by
    cases rows with
    | nil => exact absurd rfl hne
    | cons _ _ => simp
  have hB : τ ++ [.lst (rows.map .str)] = B τ p (PenC ns a c) (rows.map .str) := by unfold B; rw [hself]
  obtain ⟨way, a1, c1', q1, w8, b1⟩ := e_draw (m := 8) (B_pen (X := PenC ns a c) (l := rows.map .str) hlt) (by omega) (by omega) (by omega)
  rw [B_setpen hlt] at q1
  have q1 : d__law_draw [.loc p, .d (.int 8)] (B τ p (PenC ns a c) (rows.map .str)) = .ok (.d (.int way)) (B τ p (PenC ns a1 c1') (rows.map .str)) := q1
  obtain ⟨at_, a2, c2', q2, hat, b2⟩ := e_draw (m := rows.length) (B_pen (X := PenC ns a1 c1') (l := rows.map .str) hlt) hr1 (by omega) (by omega)
  rw [B_setpen hlt] at q2
  obtain ⟨to, a3, c3', q3, hto2, b3⟩ := e_draw (m := rows.length) (B_pen (X := PenC ns a2 c2') (l := rows.map .str) hlt) hr1 (by omega) (by omega)
  rw [B_setpen hlt] at q3
  have hll : (rows.map D.str).length = rows.length := List.length_map _
  have fin : ∃ (t : T) (a' : Nat) (c' : Int), outR τ.length (gT1 [some (.loc p), some (.d (.str line)), none, none, none, some (.loc τ.length), some (.d (.int way)), some (.d (.int at_)), some (.d (.int to))] (B τ p (PenC ns a3 c3') (rows.map .str))) = .ok (.d (.str t)) (τ.set p (PenC ns a' c')) ∧ FN (3 * N + 110) t ∧ a' ≤ a3 + 2 := by
    rcases Nat.lt_or_ge way 2 with w | w
    · exact e_way0 hsg (by omega) hN (by omega)
    · rcases Nat.lt_or_ge way 3 with w3 | w3
      · have : way = 2 := by omega
        subst this
        exact e_way2 hsg (by omega) hN hat hto2
      · rcases Nat.lt_or_ge way 4 with w4 | w4
        · have : way = 3 := by omega
          subst this
          exact e_way3 hlt hsg (by omega) hN (by omega)
        · obtain ⟨t, a', c', e, f, g⟩ := e_T4 (ns := ns) (c := c3') (x1 := some (.d (.str line))) (x2 := none) (x3 := none) (x4 := none) (x8 := some (.d (.int to))) hlt hsg (N := N) (by omega) hN hat w4 (a := a3) (by omega)
          refine ⟨t, a', c', ?_, f, g⟩
          have n0 : ¬ (way : Int) = 0 := by omega
          have n1 : ¬ (way : Int) = 1 := by omega
          have n2 : ¬ (way : Int) = 2 := by omega
          have n3 : ¬ (way : Int) = 3 := by omega
          have hstep : gT1 [some (.loc p), some (.d (.str line)), none, none, none, some (.loc τ.length), some (.d (.int way)), some (.d (.int at_)), some (.d (.int to))] (B τ p (PenC ns a3 c3') (rows.map .str)) = gT4 [some (.loc p), some (.d (.str line)), none, none, none, some (.loc τ.length), some (.d (.int way)), some (.d (.int at_)), some (.d (.int to))] (B τ p (PenC ns a3 c3') (rows.map .str)) := by
            have m0 : ¬ way = 0 := by omega
            have m1 : ¬ way = 1 := by omega
            have m2 : ¬ way = 2 := by omega
            have m3 : ¬ way = 3 := by omega
            simp [callD, outR, retU, gSeq, gIf, gRet, gRetN, gSet, gExpr, VL.gNil, gNever, gUnp, gPar, gPar3, eVar, eC, elNil, elCons, eCall, gCall, eCB, gCB, vws_cons, vws_nil, c1, c2, eOp, opD, bOf, bAnd, bOr, bNeg, eAnd, eOr, eNot, eIf, eIs, isN, eIsi, D.ty, isTy, eChain, oLe, oLt, oGt, oGe, oEq, oNe, bNot, oAdd, oSub, fLen, fLenD, D.seq, eTup, gTupD, frzs, eLst, gLstD, allocL, eIx, oIx, fMin, take_self, R.bind, liftE, RS.seq, tName, tTupN, tNames, eMt, gMt, tyD, gT1, gT2, gT3, n0, n1, n2, n3, m0, m1, m2, m3]
          rw [hstep]
          exact e
  obtain ⟨t, a', c', e, f, g⟩ := fin
  refine ⟨t, a', c', ?_, f, by omega⟩
  rw [← e]
  unfold d__law_bent
  rw [g_bent_eq]
  have hcall : ∀ g : GS, callD 9 g [.loc p, .d (.str line)] τ = outR τ.length (g [some (.loc p), some (.d (.str line)), none, none, none, none, none, none, none] τ) := fun _ => rfl
  rw [hcall]
  congr 1
  have hvl : ∀ X, vws (B τ p X (rows.map .str)) [.loc τ.length] = some [.lst (rows.map .str)] := fun X => B_vws
  have q2' : d__law_draw [.loc p, .d (.int ((rows.map D.str).length : Int))] (B τ p (PenC ns a1 c1') (rows.map .str)) = .ok (.d (.int at_)) (B τ p (PenC ns a2 c2') (rows.map .str)) := by rw [hll]; exact q2
  have q3' : d__law_draw [.loc p, .d (.int ((rows.map D.str).length : Int))] (B τ p (PenC ns a2 c2') (rows.map .str)) = .ok (.d (.int to)) (B τ p (PenC ns a3 c3') (rows.map .str)) := by rw [hll]; exact q3
  generalize hrs : rows.map D.str = rs at *
  simp [callD, outR, retU, gSeq, gIf, gRet, gRetN, gSet, gExpr, VL.gNil, gNever, gUnp, gPar, gPar3, eVar, eC, elNil, elCons, eCall, gCall, eCB, gCB, vws_cons, vws_nil, c1, c2, eOp, opD, bOf, bAnd, bOr, bNeg, eAnd, eOr, eNot, eIf, eIs, isN, eIsi, D.ty, isTy, eChain, oLe, oLt, oGt, oGe, oEq, oNe, bNot, oAdd, oSub, fLen, fLenD, D.seq, eTup, gTupD, frzs, eLst, gLstD, allocL, eIx, oIx, fMin, take_self, R.bind, liftE, RS.seq, tName, tTupN, tNames, eMt, gMt, tyD, mSplitO, hl2, hR, hrs, hB, q1, hvl, q2', q3']
end
end
end K82

/-! k82: the text that the law writes. -/
namespace K82
open PySem PySem.Spec PySem.NumText PyProof.Rows L2 LamX VL
/-! ### in order -/
def ins (q : T × Nat) : WS → WS
  | [] => [q]
  | r :: l => if q.1 < r.1 then q :: r :: l else r :: ins q l
theorem ins_perm (q : T × Nat) : ∀ l : WS, (ins q l).Perm (q :: l)
  | [] => List.Perm.refl _
  | r :: l => by
    unfold ins
    split
    · exact List.Perm.refl _
    · exact ((ins_perm q l).cons r).trans (List.Perm.swap q r l)
theorem ins_asc (q : T × Nat) : ∀ l : WS, Asc l → (∀ r ∈ l, r.1 ≠ q.1) → Asc (ins q l)
  | [], _, _ => List.pairwise_singleton _ _
  | r :: l, h, hn => by
    have hc := List.pairwise_cons.mp h
    unfold ins
    split
    · rename_i hq
      refine List.pairwise_cons.mpr ⟨fun x m => ?_, h⟩
      rcases List.mem_cons.mp m with e | m
      · rw [e]; exact hq
      · exact Lin.tr _ _ _ hq (hc.1 x m)
    · rename_i hq
      have hr : r.1 < q.1 := by
        by_cases z : r.1 < q.1
        · exact z
        · exact absurd (Lin.tri r.1 q.1 z hq) (hn r List.mem_cons_self)
      refine List.pairwise_cons.mpr ⟨fun x m => ?_, ins_asc q l hc.2 fun x m => hn x (List.mem_cons_of_mem _ m)⟩
      rcases List.mem_cons.mp ((ins_perm q l).mem_iff.mp m) with e | m
      · rw [e]; exact hr
      · exact hc.1 x m
def ordW : WS → WS
  | [] => []
  | q :: l => ins q (ordW l)
theorem ord_perm : ∀ l : WS, (ordW l).Perm l
  | [] => List.Perm.refl _
  | q :: l => (ins_perm q (ordW l)).trans ((ord_perm l).cons q)
theorem ord_asc : ∀ l : WS, (l.map (·.1)).Nodup → Asc (ordW l)
  | [], _ => List.Pairwise.nil
  | q :: l, h => by
    have h' := List.nodup_cons.mp h
    exact ins_asc q (ordW l) (ord_asc l h'.2) fun r m z => h'.1 (by show q.1 ∈ l.map fun x => x.1; rw [← z]; exact List.mem_map_of_mem (f := fun x : T × Nat => x.1) ((ord_perm l).mem_iff.mp m))
theorem ok_perm {vs ws : WS} (p : vs.Perm ws) (H : VOk ws) : VOk vs := ⟨by rw [p.length_eq]; exact H.few, fun q m => H.own q (p.mem_iff.mp m)⟩
theorem dget_kv {ws : WS} (nd : (ws.map (·.1)).Nodup) {q : T × Nat} (h : q ∈ ws) : dget (ws.map kv) (.inr q.1) = some (.int q.2) := by
  obtain ⟨x, hx, e1, e2⟩ := dget_mem (List.mem_map_of_mem (f := kv) h)
  obtain ⟨r, hr, rfl⟩ := List.mem_map.mp hx
  have e1 : (Sum.inr r.1 : Ky) = Sum.inr q.1 := e1
  have e3 : r.1 = q.1 := Sum.inr.inj e1
  have e4 : r = q := by
    have pw : ws.Pairwise fun a b => a.1 ≠ b.1 := List.pairwise_map.mp nd
    by_cases z : r = q
    · exact z
    · exact absurd e3 (by
        rcases List.mem_iff_getElem.mp hr with ⟨i, hi, ei⟩
        rcases List.mem_iff_getElem.mp h with ⟨j, hj, ej⟩
        have pg := List.pairwise_iff_getElem.mp pw
        rcases Nat.lt_trichotomy i j with l | l | l
        · have := pg i j hi hj l; rwa [ei, ej] at this
        · subst l; exact absurd (ei.symm.trans ej) z
        · have := pg j i hj hi l; rw [ei, ej] at this; exact fun y => this y.symm)
  rw [e4] at e2
  exact e2
theorem e_srt {ws vs : WS} (p : vs.Perm ws) (hv : Asc vs) (hl : ws.length ≤ 8) (τ : Store) : fSorted false (.lst ((ws.map (·.1)).map .str)) τ = .ok (.d (.lst ((vs.map (·.1)).map .str))) τ := by
  have e : srt (ws.map (·.1)) = vs.map (·.1) := (srt_uniq (p.map _) (List.pairwise_map.mpr (hv.imp fun h => Lin.ns h))).symm
  have hz : ((ws.map (·.1)).map D.str).length ≤ sizeLine := by rw [sl_eq, List.length_map, List.length_map]; omega
  unfold fSorted
  simp only [D.lsts]
  rw [if_pos hz]
  cases ws with
  | nil =>
    have : vs = [] := List.Perm.eq_nil p
    subst this
    have h0 : srt ([] : List Int) = [] := by simp [srt]
    show allocL false ((srt ([] : List Int)).map D.int) τ = _
    rw [h0]
    rfl
  | cons q l =>
    have h1 : intsOf (((q :: l).map (·.1)).map D.str) = none := rfl
    rw [h1]
    simp only [strsOf_map]
    rw [e]
    rfl
def lineT (kvs : List (Ky × D)) : D → D
  | .str t => match dget kvs (.inr t) with
    | some (.int n) => .str (((WEI_ ++ t) ++ [32]) ++ itx n)
    | _ => .non
  | _ => .non
theorem lines_eq {ws vs : WS} (nd : (ws.map (·.1)).Nodup) (p : vs.Perm ws) : ((vs.map (·.1)).map D.str).map (lineT (ws.map kv)) = (vs.map lineW).map D.str := by
  rw [List.map_map, List.map_map, List.map_map]
  refine List.map_congr_left fun q m => ?_
  have h := dget_kv nd (p.mem_iff.mp m)
  show (match dget (ws.map kv) (.inr q.1) with
    | some (.int n) => D.str (((WEI_ ++ q.1) ++ [32]) ++ itx n)
    | _ => .non) = D.str (lineW q)
  rw [h]
  rfl
theorem e_capstr {a : Option Nat} (ha : capOk a) (i : Nat) (ρ : VL.Env) (hi : ρ[i]? = some (some (.d (optD a)))) (τ : Store) : eIf (bOf (eIs false (eVar i))) (eC (.str [45])) (eCB (c1 fStr) (elCons (eVar i) elNil)) ρ τ = .ok (.d (.str (capT a))) τ := by
  cases a with
  | none =>
    simp only [optD] at hi
    simp [callD, outR, retU, gSeq, gIf, gRet, gRetN, gSet, gExpr, VL.gNil, gNever, gUnp, gPar, gPar3, eVar, eC, elNil, elCons, eCall, gCall, eCB, gCB, vws_cons, vws_nil, c1, c2, eOp, opD, bOf, bAnd, bOr, bNeg, eAnd, eOr, eNot, eIf, eIs, isN, eIsi, D.ty, isTy, eChain, oLe, oLt, oGt, oGe, oEq, oNe, bNot, oAdd, oSub, fLen, fLenD, D.seq, eTup, gTupD, frzs, eLst, gLstD, allocL, eIx, oIx, fMin, take_self, R.bind, liftE, RS.seq, tName, tTupN, tNames, eMt, gMt, tyD, hi, capT]
  | some n =>
    have ha : n ≤ 10000000000 := ha
    have hl : n.log2 < 1920 := log_ok (by omega)
    simp only [optD] at hi
    simp [callD, outR, retU, gSeq, gIf, gRet, gRetN, gSet, gExpr, VL.gNil, gNever, gUnp, gPar, gPar3, eVar, eC, elNil, elCons, eCall, gCall, eCB, gCB, vws_cons, vws_nil, c1, c2, eOp, opD, bOf, bAnd, bOr, bNeg, eAnd, eOr, eNot, eIf, eIs, isN, eIsi, D.ty, isTy, eChain, oLe, oLt, oGt, oGe, oEq, oNe, bNot, oAdd, oSub, fLen, fLenD, D.seq, eTup, gTupD, frzs, eLst, gLstD, allocL, eIx, oIx, fMin, take_self, R.bind, liftE, RS.seq, tName, tTupN, tNames, eMt, gMt, tyD, hi, capT, fStr, hl]
theorem el1 {fa : EV} {ρ : VL.Env} {τ τ' : Store} {x : U} (h : fa ρ τ = .ok x τ') : elCons fa elNil ρ τ = .ok [x] τ' := by
  unfold elCons
  rw [h]
  rfl
theorem e_opu {g : D → D → Store → R U} {fa fb : EV} {ρ : VL.Env} {σ : Store} {u w : U} {x y : D} {r : R U} (h1 : fa ρ σ = .ok u σ) (h2 : fb ρ σ = .ok w σ) (hu : vw σ u = some x) (hw : vw σ w = some y) (h3 : g x y σ = r) : eOp g fa fb ρ σ = r := by
  unfold eOp
  rw [h1, R.bind_ok, h2, R.bind_ok]
  unfold opD
  rw [hu, hw]
  exact h3
theorem e_law_text {ws vs : WS} (H : VOk ws) (nd : (ws.map (·.1)).Nodup) (p : vs.Perm ws) (hv : Asc vs) {a b : Option Nat} (ha : capOk a) (hb : capOk b) (τ : Store) :
    d__law_text [.d (.dct (ws.map kv)), .d (optD a), .d (optD b)] τ = .ok (.d (.str (textOf vs a b))) τ := by
  have few := H.few
  have Hv := ok_perm p H
  have vl : vs.length = ws.length := p.length_eq
  have go1 : ∀ ρ : VL.Env, 4 < ρ.length → compGo (tName 4) bYes (eCB (c1 fStr) (elCons (eVar 4) elNil)) ρ ((ws.map kv).map fun q => q.1.d) τ [] = .ok ([] ++ ((ws.map kv).map fun q => q.1.d).map id) τ := fun ρ hρ => by
    refine compGo_all _ [] (fun x m => ?_) (by rw [sl_eq]; simp; omega)
    obtain ⟨q, hq, rfl⟩ := List.mem_map.mp m
    obtain ⟨r, hr, rfl⟩ := List.mem_map.mp hq
    refine ⟨_, rfl, ?_⟩
    have i4 : (ρ.set 4 (some (.d (.str r.1))))[4]? = some (some (.d (.str r.1))) := List.getElem?_set_self hρ
    show eCB (c1 fStr) (elCons (eVar 4) elNil) (ρ.set 4 (some (.d (.str r.1)))) τ = .ok (.d (.str r.1)) τ
    generalize ρ.set 4 (some (.d (.str r.1))) = ρ4 at i4
    simp [callD, outR, retU, gSeq, gIf, gRet, gRetN, gSet, gExpr, VL.gNil, gNever, gUnp, gPar, gPar3, eVar, eC, elNil, elCons, eCall, gCall, eCB, gCB, vws_cons, vws_nil, c1, c2, eOp, opD, bOf, bAnd, bOr, bNeg, eAnd, eOr, eNot, eIf, eIs, isN, eIsi, D.ty, isTy, eChain, oLe, oLt, oGt, oGe, oEq, oNe, bNot, oAdd, oSub, fLen, fLenD, D.seq, eTup, gTupD, frzs, eLst, gLstD, allocL, eIx, oIx, fMin, take_self, R.bind, liftE, RS.seq, tName, tTupN, tNames, eMt, gMt, tyD, i4, fStr]
  have e1 : ((ws.map kv).map fun q => q.1.d).map id = (ws.map (·.1)).map D.str := by
    rw [List.map_id, List.map_map, List.map_map]
    rfl
  have go2 : ∀ ρ : VL.Env, ρ[0]? = some (some (.d (.dct (ws.map kv)))) → 4 < ρ.length → compGo (tName 4) bYes (eOp (oAdd false) (eOp (oAdd false) (eOp (oAdd false) (eC (.str [119, 101, 105, 103, 104, 116, 32])) (eVar 4)) (eC (.str [32]))) (eCB (c1 fStr) (elCons (eDGet (eVar 0) (eVar 4)) elNil))) ρ ((vs.map (·.1)).map D.str) τ [] = .ok ([] ++ ((vs.map (·.1)).map D.str).map (lineT (ws.map kv))) τ := fun ρ h0 hρ => by
    refine compGo_all _ [] (fun x m => ?_) (by rw [sl_eq]; simp; omega)
    obtain ⟨t, ht, rfl⟩ := List.mem_map.mp m
    obtain ⟨q, hq, rfl⟩ := List.mem_map.mp ht
    obtain ⟨o1, o2⟩ := Hv.own q hq
    have l1 := isOwn_len o1
    have l2 := itx_small (n := q.2) (by omega)
    have hd := dget_kv nd (p.mem_iff.mp hq)
    have hg : lineT (ws.map kv) (.str q.1) = .str (((WEI_ ++ q.1) ++ [32]) ++ itx q.2) := by
      show (match dget (ws.map kv) (.inr q.1) with
        | some (.int n) => D.str (((WEI_ ++ q.1) ++ [32]) ++ itx n)
        | _ => .non) = _
      rw [hd]
    refine ⟨_, rfl, ?_⟩
    have i4 : (ρ.set 4 (some (.d (.str q.1))))[4]? = some (some (.d (.str q.1))) := List.getElem?_set_self hρ
    have i0 : (ρ.set 4 (some (.d (.str q.1))))[0]? = some (some (.d (.dct (ws.map kv)))) := by rw [List.getElem?_set_ne (by decide)]; exact h0
    have hl : q.2.log2 < 1920 := log_ok (by omega)
    have a1 : oAdd false (.str [119, 101, 105, 103, 104, 116, 32]) (.str q.1) τ = .ok (.d (.str (WEI_ ++ q.1))) τ := if_pos (by rw [sl_eq]; simp; omega)
    have a2 : oAdd false (.str (WEI_ ++ q.1)) (.str [32]) τ = .ok (.d (.str ((WEI_ ++ q.1) ++ [32]))) τ := if_pos (by rw [sl_eq]; simp [WEI_]; omega)
    have a3 : oAdd false (.str ((WEI_ ++ q.1) ++ [32])) (.str (itx q.2)) τ = .ok (.d (.str (((WEI_ ++ q.1) ++ [32]) ++ itx q.2))) τ := if_pos (by rw [sl_eq]; simp [WEI_]; omega)
    rw [hg]
    show eOp _ _ _ (ρ.set 4 (some (.d (.str q.1)))) τ = _
    generalize ρ.set 4 (some (.d (.str q.1))) = ρ4 at i4 i0
    have f4 : eVar 4 ρ4 τ = .ok (.d (.str q.1)) τ := by simp only [eVar, i4]
    have fs : eCB (c1 fStr) (elCons (eDGet (eVar 0) (eVar 4)) elNil) ρ4 τ = .ok (.d (.str (itx q.2))) τ := by
      simp [callD, outR, retU, gSeq, gIf, gRet, gRetN, gSet, gExpr, VL.gNil, gNever, gUnp, gPar, gPar3, eVar, eC, elNil, elCons, eCall, gCall, eCB, gCB, vws_cons, vws_nil, c1, c2, eOp, opD, bOf, bAnd, bOr, bNeg, eAnd, eOr, eNot, eIf, eIs, isN, eIsi, D.ty, isTy, eChain, oLe, oLt, oGt, oGe, oEq, oNe, bNot, oAdd, oSub, fLen, fLenD, D.seq, eTup, gTupD, frzs, eLst, gLstD, allocL, eIx, oIx, fMin, take_self, R.bind, liftE, RS.seq, tName, tTupN, tNames, eMt, gMt, tyD, i4, i0, eDGet, gDGet, D.ky, hd, fStr, hl]
    exact e_op (e_op (e_op (e_cst _ _) f4 a1) (e_cst _ _) a2) fs a3
  have hs := e_srt p hv few τ
  have hle := lines_eq nd p
  have st1 : gSet 3 (eLc true (dList (eCB (c1 (fSorted false)) (elCons (eLc false (dKeys (eVar 0)) (tName 4) bYes (eCB (c1 fStr) (elCons (eVar 4) elNil)) [4]) elNil))) (tName 4) bYes (eOp (oAdd false) (eOp (oAdd false) (eOp (oAdd false) (eC (.str [119, 101, 105, 103, 104, 116, 32])) (eVar 4)) (eC (.str [32]))) (eCB (c1 fStr) (elCons (eDGet (eVar 0) (eVar 4)) elNil))) [4]) [some (.d (.dct (ws.map kv))), some (.d (optD a)), some (.d (optD b)), none, none] τ =
      .nx [some (.d (.dct (ws.map kv))), some (.d (optD a)), some (.d (optD b)), some (.loc τ.length), none] (τ ++ [.lst ((vs.map lineW).map .str)]) := by
    have g1 := go1 (wipeE [some (.d (.dct (ws.map kv))), some (.d (optD a)), some (.d (optD b)), none, none] [4]) (by simp [wipeE])
    have g2 := go2 (wipeE [some (.d (.dct (ws.map kv))), some (.d (optD a)), some (.d (optD b)), none, none] [4]) (by simp [wipeE]) (by simp [wipeE])
    rw [e1] at g1
    rw [hle] at g2
    have ek : gKeys (.d (.dct (ws.map kv))) τ = .ok ((ws.map kv).map fun q => q.1.d) τ := rfl
    generalize (ws.map (·.1)).map D.str = k1 at *
    generalize (vs.map (·.1)).map D.str = k2 at *
    generalize (vs.map lineW).map D.str = ls at *
    generalize ((ws.map kv).map fun q => q.1.d) = k0 at *
    generalize ws.map kv = kvs at *
    simp [callD, outR, retU, gSeq, gIf, gRet, gRetN, gSet, gExpr, VL.gNil, gNever, gUnp, gPar, gPar3, eVar, eC, elNil, elCons, eCall, gCall, eCB, gCB, vws_cons, vws_nil, c1, c2, eOp, opD, bOf, bAnd, bOr, bNeg, eAnd, eOr, eNot, eIf, eIs, isN, eIsi, D.ty, isTy, eChain, oLe, oLt, oGt, oGe, oEq, oNe, bNot, oAdd, oSub, fLen, fLenD, D.seq, eTup, gTupD, frzs, eLst, gLstD, allocL, eIx, oIx, fMin, take_self, R.bind, liftE, RS.seq, tName, tTupN, tNames, eMt, gMt, tyD, eLc, dList, dKeys, ek, g1, hs, gItL, g2]
  have hlist : ((vs.map lineW).map D.str).length < sizeLine := by rw [sl_eq, List.length_map, List.length_map]; omega
  have la := capT_len ha
  have lb := capT_len hb
  have FA : elCons (eOp (oAdd false) (eC (.str [108, 111, 97, 100, 32])) (eIf (bOf (eIs false (eVar 1))) (eC (.str [45])) (eCB (c1 fStr) (elCons (eVar 1) elNil)))) elNil [some (.d (.dct (ws.map kv))), some (.d (optD a)), some (.d (optD b)), some (.loc τ.length), none] (τ ++ [.lst ((vs.map lineW).map .str)]) = .ok [.d (.str (LOA_ ++ capT a))] (τ ++ [.lst ((vs.map lineW).map .str)]) := by
    refine el1 (e_op (e_cst _ _) (e_capstr ha 1 _ rfl _) (if_pos ?_))
    rw [sl_eq]; simp; omega
  have st2 : gExpr (eAppend (eVar 3) (elCons (eOp (oAdd false) (eC (.str [108, 111, 97, 100, 32])) (eIf (bOf (eIs false (eVar 1))) (eC (.str [45])) (eCB (c1 fStr) (elCons (eVar 1) elNil)))) elNil)) [some (.d (.dct (ws.map kv))), some (.d (optD a)), some (.d (optD b)), some (.loc τ.length), none] (τ ++ [.lst ((vs.map lineW).map .str)]) =
      .nx [some (.d (.dct (ws.map kv))), some (.d (optD a)), some (.d (optD b)), some (.loc τ.length), none] (τ ++ [.lst ((vs.map lineW).map .str ++ [.str (LOA_ ++ capT a)])]) := by
    have ev3 : eVar 3 [some (.d (.dct (ws.map kv))), some (.d (optD a)), some (.d (optD b)), some (.loc τ.length), none] (τ ++ [.lst ((vs.map lineW).map .str)]) = .ok (.loc τ.length) (τ ++ [.lst ((vs.map lineW).map .str)]) := rfl
    simp only [gExpr, eAppend, ev3, R.bind_ok, get_last, FA, gAppend, frzs_cons_d, frzs_nil]
    rw [if_pos hlist, set_last]
    rfl
  have FB : elCons (eOp (oAdd false) (eC (.str [114, 117, 115, 104, 32])) (eIf (bOf (eIs false (eVar 2))) (eC (.str [45])) (eCB (c1 fStr) (elCons (eVar 2) elNil)))) elNil [some (.d (.dct (ws.map kv))), some (.d (optD a)), some (.d (optD b)), some (.loc τ.length), none] (τ ++ [.lst ((vs.map lineW).map .str ++ [.str (LOA_ ++ capT a)])]) = .ok [.d (.str (RUS_ ++ capT b))] (τ ++ [.lst ((vs.map lineW).map .str ++ [.str (LOA_ ++ capT a)])]) := by
    refine el1 (e_op (e_cst _ _) (e_capstr hb 2 _ rfl _) (if_pos ?_))
    rw [sl_eq]; simp; omega
  have tt := rows_tot Hv ha hb
  have er : ((vs.map lineW).map D.str ++ [.str (LOA_ ++ capT a)]) ++ [.str (RUS_ ++ capT b)] = (rowsOf vs a b).map D.str := by simp [rowsOf]
  have hj := e_join (b := 10) (ts := rowsOf vs a b) (ds := ((vs.map lineW).map D.str ++ [.str (LOA_ ++ capT a)]) ++ [.str (RUS_ ++ capT b)]) er (by omega) (τ ++ [.lst ((vs.map lineW).map .str ++ [.str (LOA_ ++ capT a)])])
  have hl2 : ((vs.map lineW).map D.str ++ [D.str (LOA_ ++ capT a)]).length + [D.str (RUS_ ++ capT b)].length ≤ sizeLine := by rw [sl_eq]; simp; omega
  have st3 : gRet (eMt "str" mJoin (eC (.str [10])) (elCons (eOp (oAdd false) (eVar 3) (eLst false (elCons (eOp (oAdd false) (eC (.str [114, 117, 115, 104, 32])) (eIf (bOf (eIs false (eVar 2))) (eC (.str [45])) (eCB (c1 fStr) (elCons (eVar 2) elNil)))) elNil))) elNil)) [some (.d (.dct (ws.map kv))), some (.d (optD a)), some (.d (optD b)), some (.loc τ.length), none] (τ ++ [.lst ((vs.map lineW).map .str ++ [.str (LOA_ ++ capT a)])]) =
      .rt (.d (.str (textOf vs a b))) (τ ++ [.lst ((vs.map lineW).map .str ++ [.str (LOA_ ++ capT a)])]) := by
    have one : 1 ≤ sizeLine := by rw [sl_eq]; omega
    have fl : eLst false (elCons (eOp (oAdd false) (eC (.str [114, 117, 115, 104, 32])) (eIf (bOf (eIs false (eVar 2))) (eC (.str [45])) (eCB (c1 fStr) (elCons (eVar 2) elNil)))) elNil) [some (.d (.dct (ws.map kv))), some (.d (optD a)), some (.d (optD b)), some (.loc τ.length), none] (τ ++ [.lst ((vs.map lineW).map .str ++ [.str (LOA_ ++ capT a)])]) = .ok (.d (.lst [.str (RUS_ ++ capT b)])) (τ ++ [.lst ((vs.map lineW).map .str ++ [.str (LOA_ ++ capT a)])]) := by
      unfold eLst
      rw [FB]
      simp [R.bind, gLstD, frzs, allocL, one]
    have fo : eOp (oAdd false) (eVar 3) (eLst false (elCons (eOp (oAdd false) (eC (.str [114, 117, 115, 104, 32])) (eIf (bOf (eIs false (eVar 2))) (eC (.str [45])) (eCB (c1 fStr) (elCons (eVar 2) elNil)))) elNil)) [some (.d (.dct (ws.map kv))), some (.d (optD a)), some (.d (optD b)), some (.loc τ.length), none] (τ ++ [.lst ((vs.map lineW).map .str ++ [.str (LOA_ ++ capT a)])]) = .ok (.d (.lst (((vs.map lineW).map D.str ++ [.str (LOA_ ++ capT a)]) ++ [.str (RUS_ ++ capT b)]))) (τ ++ [.lst ((vs.map lineW).map .str ++ [.str (LOA_ ++ capT a)])]) := by
      have ev3 : eVar 3 [some (.d (.dct (ws.map kv))), some (.d (optD a)), some (.d (optD b)), some (.loc τ.length), none] (τ ++ [.lst ((vs.map lineW).map .str ++ [.str (LOA_ ++ capT a)])]) = .ok (.loc τ.length) (τ ++ [.lst ((vs.map lineW).map .str ++ [.str (LOA_ ++ capT a)])]) := rfl
      have hvw : vw (τ ++ [.lst ((vs.map lineW).map .str ++ [.str (LOA_ ++ capT a)])]) (.loc τ.length) = some (.lst ((vs.map lineW).map .str ++ [.str (LOA_ ++ capT a)])) := by
        unfold vw
        simp only [get_last]
      exact e_opu ev3 fl hvw (vw_d _ _) (if_pos hl2)
    have fe : elCons (eOp (oAdd false) (eVar 3) (eLst false (elCons (eOp (oAdd false) (eC (.str [114, 117, 115, 104, 32])) (eIf (bOf (eIs false (eVar 2))) (eC (.str [45])) (eCB (c1 fStr) (elCons (eVar 2) elNil)))) elNil))) elNil [some (.d (.dct (ws.map kv))), some (.d (optD a)), some (.d (optD b)), some (.loc τ.length), none] (τ ++ [.lst ((vs.map lineW).map .str ++ [.str (LOA_ ++ capT a)])]) = .ok [.d (.lst (((vs.map lineW).map D.str ++ [.str (LOA_ ++ capT a)]) ++ [.str (RUS_ ++ capT b)]))] (τ ++ [.lst ((vs.map lineW).map .str ++ [.str (LOA_ ++ capT a)])]) := by
      exact el1 fo
    unfold gRet eMt
    simp only [eC, R.bind_ok, vw_d, tyD, beq_self_eq_true, if_true, fe, gMt, vws_d, hj, liftE_ok]
    rfl
  have sq : ∀ (g h : GS) (ρ : VL.Env) (τ' : Store), gSeq g h ρ τ' = (g ρ τ').seq h := fun _ _ _ _ => rfl
  have hcall : ∀ g : GS, callD 5 g [.d (.dct (ws.map kv)), .d (optD a), .d (optD b)] τ = outR τ.length (g [some (.d (.dct (ws.map kv))), some (.d (optD a)), some (.d (optD b)), none, none] τ) := fun _ => rfl
  unfold d__law_text
  rw [hcall]
  unfold g__law_text
  rw [sq, st1, RS.seq_nx, sq, st2, RS.seq_nx, st3]
  simp only [outR, retU]
  rw [List.take_left]
end K82

/-! k82: the law's turns. -/
namespace K82
open PySem PySem.Spec PySem.NumText PyProof.Rows L2 LamX VL
/-! ### single steps -/
theorem e_var {i : Nat} {u : U} {ρ : VL.Env} (h : ρ[i]? = some (some u)) (τ : Store) : eVar i ρ τ = .ok u τ := by simp only [eVar, h]
theorem el_c {fa : EV} {fr : EL} {ρ : VL.Env} {τ τ1 τ2 : Store} {x : U} {xs : List U} (h1 : fa ρ τ = .ok x τ1) (h2 : fr ρ τ1 = .ok xs τ2) : elCons fa fr ρ τ = .ok (x :: xs) τ2 := by
  unfold elCons
  rw [h1, R.bind_ok, h2]
  rfl
theorem el_n (ρ : VL.Env) (τ : Store) : elNil ρ τ = .ok [] τ := rfl
theorem e_call {n : Nat} {F : List U → Store → R U} {fs : EL} {us : List U} {r : R U} {ρ : VL.Env} {τ τ1 : Store} (h1 : fs ρ τ = .ok us τ1) (hn : us.length = n) (h2 : F us τ1 = r) : eCall n F fs ρ τ = r := by
  unfold eCall
  rw [h1, R.bind_ok]
  unfold gCall
  rw [if_pos hn, h2]
theorem e_call1 {F : List U → Store → R U} {fs : EL} {u : U} {r : R U} {ρ : VL.Env} {τ τ1 : Store} (h1 : fs ρ τ = .ok [u] τ1) (h2 : F [u] τ1 = r) : eCall 1 F fs ρ τ = r := e_call h1 rfl h2
theorem e_call2 {F : List U → Store → R U} {fs : EL} {u w : U} {r : R U} {ρ : VL.Env} {τ τ1 : Store} (h1 : fs ρ τ = .ok [u, w] τ1) (h2 : F [u, w] τ1 = r) : eCall 2 F fs ρ τ = r := e_call h1 rfl h2
theorem e_call3 {F : List U → Store → R U} {fs : EL} {u w x : U} {r : R U} {ρ : VL.Env} {τ τ1 : Store} (h1 : fs ρ τ = .ok [u, w, x] τ1) (h2 : F [u, w, x] τ1 = r) : eCall 3 F fs ρ τ = r := e_call h1 rfl h2
theorem g_set {i : Nat} {f : EV} {u : U} {ρ : VL.Env} {τ τ1 : Store} (h : f ρ τ = .ok u τ1) : gSet i f ρ τ = .nx (ρ.set i (some u)) τ1 := by
  unfold gSet
  rw [h]
  rfl
theorem g_par {i j : Nat} {fs : EL} {u w : U} {ρ : VL.Env} {τ τ1 : Store} (h : fs ρ τ = .ok [u, w] τ1) : gPar i j fs ρ τ = .nx ((ρ.set i (some u)).set j (some w)) τ1 := by
  unfold gPar
  rw [h]
  rfl
theorem g_if {t : EB} {g h : GS} {b : Bool} {ρ : VL.Env} {τ τ1 : Store} (e : t ρ τ = .ok b τ1) : gIf t g h ρ τ = if b then g ρ τ1 else h ρ τ1 := by
  unfold gIf
  rw [e]
  rfl
theorem g_seq {g h : GS} {ρ ρ1 : VL.Env} {τ τ1 : Store} (e : g ρ τ = .nx ρ1 τ1) : gSeq g h ρ τ = h ρ1 τ1 := by
  show (g ρ τ).seq h = _
  rw [e]
  rfl
theorem g_ret {f : EV} {u : U} {ρ : VL.Env} {τ τ1 : Store} (h : f ρ τ = .ok u τ1) : gRet f ρ τ = .rt u τ1 := by
  unfold gRet
  rw [h]
  rfl
theorem b_of {f : EV} {b : Bool} {ρ : VL.Env} {τ τ1 : Store} (h : f ρ τ = .ok (.d (.bl b)) τ1) : bOf f ρ τ = .ok b τ1 := by
  unfold bOf
  rw [h]
  rfl
theorem b_neg {f : EB} {b : Bool} {ρ : VL.Env} {τ τ1 : Store} (h : f ρ τ = .ok b τ1) : bNeg f ρ τ = .ok (!b) τ1 := by
  unfold bNeg
  rw [h]
  rfl
theorem b_orF {f g : EB} {b : Bool} {ρ : VL.Env} {τ τ1 τ2 : Store} (h : f ρ τ = .ok false τ1) (h2 : g ρ τ1 = .ok b τ2) : bOr f g ρ τ = .ok b τ2 := by
  unfold bOr
  rw [h]
  exact h2
theorem sg_self {i : Nat} {x : Option U} {ρ : VL.Env} (h : i < ρ.length) : (ρ.set i x)[i]? = some x := List.getElem?_set_self h
theorem sg_ne {i j : Nat} {x : Option U} {ρ : VL.Env} (h : i ≠ j) {y : Option (Option U)} (e : ρ[j]? = y) : (ρ.set i x)[j]? = y := by rw [List.getElem?_set_ne h]; exact e
/-! ### the pieces of the law -/
def PICK : EV := (eCall 2 d__law_pick (elCons (eVar 1) (elCons (eLst false (elCons (eC .non) (elCons (eC (.int 0)) (elCons (eOp oPow (eC (.int 10)) (eC (.int 10))) (elCons (eCall 2 d__law_draw (elCons (eVar 1) (elCons (eC (.int 99)) elNil))) elNil))))) elNil)))
def ODDS : EV := (eCall 2 d__law_pick (elCons (eVar 1) (elCons (eLst false (elCons (eC .non) (elCons (eC (.int 0)) (elCons (eLst false (elCons (eVar 11) elNil)) (elCons (eTup (elCons (eVar 11) elNil)) (elCons eD0 (elCons (eC (.bl true)) (elCons (eVar 10) elNil)))))))) elNil)))
def gIn : GS := (gSeq (gSet 12 (eCall 2 d__law_bent (elCons (eVar 1) (elCons (eVar 11) elNil))))
  (gIf (bOr (bNeg (bOf (eCall 1 d__law_right (elCons (eVar 12) elNil)))) (bNeg (bOf (eCall 1 d__law_right (elCons (eCall 2 d__law_bent (elCons (eVar 1) (elCons (eVar 12) elNil))) elNil)))))
  (gRet (eC (.bl false)))
  VL.gNil))
def gO5 : GS := (gSeq (gTryT 0 7 14 [114, 111, 119] [119, 111, 114, 100]
  (gExpr (eCM 1 2 d_Ledger_read (elCons (eVar 13) elNil))))
  (gIf (bOf (eOp oNe (eVar 14) (eTup (elCons (eC (.int 0)) (elCons (eC (.int 0)) elNil)))))
  (gRet (eC (.bl false)))
  VL.gNil))
def gO4 : GS := gSeq (gPar 13 14 (elCons ODDS (elCons (eC .non) elNil))) gO5
def gO3 : GS := gSeq (gFor (dRange1 (elCons (eC (.int 4)) elNil)) (tName 6) gIn) gO4
def gO2 : GS := (gSeq (gIf (bOr (bOf (eOp oNe (eStrI 1 d_Ledger___str__ (eVar 10)) (eVar 11))) (bOr (bOf (eNeI 1 d_Ledger___eq__ (eCM 1 2 d_Ledger_read (elCons (eVar 11) elNil)) (eVar 10))) (bNeg (bOf (eCall 1 d__law_right (elCons (eVar 11) elNil))))))
  (gRet (eC (.bl false)))
  VL.gNil) gO3)
def gO1 : GS := gSeq (gPar 10 11 (elCons (eMake 1 1 2 d_Ledger___init__ [0, 1, 2, 3] (elCons (eVar 5) elNil) (elCons (eVar 8) (elCons (eVar 9) elNil))) (elCons (eCall 3 d__law_text (elCons (eVar 5) (elCons (eVar 8) (elCons (eVar 9) elNil)))) elNil))) gO2
def gO0 : GS := gSeq (gPar 8 9 (elCons PICK (elCons PICK elNil))) gO1
def gO : GS := gSeq (gSet 5 (eCall 1 d__law_weights (elCons (eVar 1) elNil))) gO0
def NINE : EV := (eMt "str" mJoin (eC (.str [10])) (elCons (eOp (oAdd false) (eLc false (dSigns (eC (.str [97, 98, 99, 100, 101, 102, 103, 104, 105]))) (tName 15) bYes (eOp (oAdd false) (eOp (oAdd false) (eC (.str [119, 101, 105, 103, 104, 116, 32])) (eVar 15)) (eC (.str [32, 49]))) [15]) (eLst false (elCons (eC (.str [108, 111, 97, 100, 32, 45])) (elCons (eC (.str [114, 117, 115, 104, 32, 45])) elNil)))) elNil))
def SOME : EV := (eLst false (elCons (eC (.str [])) (elCons (eC (.str [108, 111, 97, 100, 32, 45])) (elCons (eC (.str [108, 111, 97, 100, 32, 45, 10, 114, 117, 115, 104, 32, 45])) (elCons (eC (.str [108, 111, 97, 100, 32, 45, 10, 114, 117, 115, 104, 32, 45, 10])) (elCons (eC (.str [108, 111, 97, 100, 32, 48, 10, 114, 117, 115, 104, 32, 48, 32])) (elCons (eC (.str [32, 108, 111, 97, 100, 32, 48, 10, 114, 117, 115, 104, 32, 48])) (elCons (eC (.str [114, 117, 115, 104, 32, 48, 10, 108, 111, 97, 100, 32, 48])) (elCons (eVar 3) elNil)))))))))
def BAD : EV := eLc false (dList (eVar 4)) (tName 11) (bNeg (bOf (eCall 1 d__law_right (elCons (eVar 11) elNil)))) (eVar 11) [11]
def gZ : GS := gSeq (gSet 3 NINE) (gSeq (gSet 4 SOME)
  (gRet (eAnd (eOp oEq BAD (eLst false elNil)) (eOp oEq (eCall 1 d__law_wrong (elCons (eVar 3) elNil)) (eTup (elCons (eC (.int 8)) (elCons (eC (.int 0)) elNil)))))))
theorem g_law_eq : g_law = gSeq (gSet 1 (eCall 1 d__law_pen (elCons (eVar 0) elNil))) (gSeq (gFor (dRange1 (elCons (eC (.int 8)) elNil)) (tName 2) gO) gZ) := rfl
/-! ### the drawing of a turn -/
section
variable {ns : List Int} {a : Nat} {c : Int} {ρ : VL.Env} {dl : Store}
theorem pen0 (ns : List Int) (a : Nat) (c : Int) : (PenC ns a c :: dl)[0]? = some (PenC ns a c) := rfl
theorem e_caps (h1 : ρ[1]? = some (some (.loc 0))) (ha : a + 10 ≤ 100000) : ∃ (x : Option Nat) (a' : Nat) (c' : Int), PICK ρ (PenC ns a c :: dl) = .ok (.d (optD x)) (PenC ns a' c' :: dl) ∧ capOk x ∧ a' ≤ a + 2 := by
  obtain ⟨i, a1, c1', q, hi, b1⟩ := e_draw (pen0 (dl := dl) ns a c) (m := 99) (by decide) (by decide) (by omega)
  have q : d__law_draw [.loc 0, .d (.int 99)] (PenC ns a c :: dl) = .ok (.d (.int i)) (PenC ns a1 c1' :: dl) := q
  obtain ⟨x, a2, c2', q2, hx, b2⟩ := e_pick (pen0 (dl := dl) ns a1 c1') (ds := [.non, .int 0, .int 10000000000, .int i]) (by simp) (by simp) (by omega)
  have q2 : d__law_pick [.loc 0, .d (.lst [.non, .int 0, .int 10000000000, .int i])] (PenC ns a1 c1' :: dl) = .ok (.d x) (PenC ns a2 c2' :: dl) := q2
  have hp : eOp oPow (eC (.int 10)) (eC (.int 10)) ρ (PenC ns a c :: dl) = .ok (.d (.int 10000000000)) (PenC ns a c :: dl) := e_op (e_cst _ _) (e_cst _ _) (by
    show (if (0 : Int) ≤ 10 ∧ (10 : Int) ≤ 1000000 ∧ (10 : Int).natAbs < 2 ^ 64 then (R.ok (U.d (D.int ((10 : Int) ^ (10 : Int).toNat))) (PenC ns a c :: dl) : R U) else .bad) = _
    rw [if_pos (by decide)]
    rfl)
  have hd : eCall 2 d__law_draw (elCons (eVar 1) (elCons (eC (.int 99)) elNil)) ρ (PenC ns a c :: dl) = .ok (.d (.int i)) (PenC ns a1 c1' :: dl) := e_call2 (el_c (e_var h1 _) (el_c (e_cst _ _) (el_n _ _))) q
  have hl : eLst false (elCons (eC .non) (elCons (eC (.int 0)) (elCons (eOp oPow (eC (.int 10)) (eC (.int 10))) (elCons (eCall 2 d__law_draw (elCons (eVar 1) (elCons (eC (.int 99)) elNil))) elNil)))) ρ (PenC ns a c :: dl) = .ok (.d (.lst [.non, .int 0, .int 10000000000, .int i])) (PenC ns a1 c1' :: dl) := by
    unfold eLst
    rw [el_c (e_cst _ _) (el_c (e_cst _ _) (el_c hp (el_c hd (el_n _ _)))), R.bind_ok]
    rfl
  have hk : PICK ρ (PenC ns a c :: dl) = .ok (.d x) (PenC ns a2 c2' :: dl) := e_call2 (el_c (e_var h1 _) (el_c hl (el_n _ _))) q2
  have : ∃ y : Option Nat, x = optD y ∧ capOk y := by
    simp only [List.mem_cons, List.not_mem_nil, or_false] at hx
    rcases hx with rfl | rfl | rfl | rfl
    · exact ⟨none, rfl, trivial⟩
    · exact ⟨some 0, rfl, by show (0 : Nat) ≤ 10000000000; omega⟩
    · exact ⟨some 10000000000, rfl, by show (10000000000 : Nat) ≤ 10000000000; omega⟩
    · exact ⟨some i, rfl, by show i ≤ 10000000000; omega⟩
  obtain ⟨y, rfl, hy⟩ := this
  exact ⟨y, a2, c2', hk, hy, by omega⟩
theorem fn_fine {N : Nat} {t : T} (h : FN N t) (hN : N ≤ 50000) : Fine t := ⟨Nat.le_trans h.len hN, h.sg⟩
theorem e_in {N : Nat} {line : T} (h1 : ρ[1]? = some (some (.loc 0))) (h11 : ρ[11]? = some (some (.d (.str line)))) (hn : ρ.length = 16) (hL : FN N line) (hN : N ≤ 1000) (ha : a + 20 ≤ 100000) :
    ∃ (t : T) (a' : Nat) (c' : Int), gIn ρ (PenC ns a c :: dl) = .nx (ρ.set 12 (some (.d (.str t)))) (PenC ns a' c' :: dl) ∧ a' ≤ a + 10 := by
  obtain ⟨t, a1, c1', q1, f1, b1⟩ := e_bent (pen0 (dl := dl) ns a c) (line := line) (N := N) (by omega) hL (by omega)
  have q1 : d__law_bent [.loc 0, .d (.str line)] (PenC ns a c :: dl) = .ok (.d (.str t)) (PenC ns a1 c1' :: dl) := q1
  obtain ⟨t2, a2, c2', q2, f2, b2⟩ := e_bent (pen0 (dl := dl) ns a1 c1') (line := t) (N := 3 * N + 110) (by omega) f1 (by omega)
  have q2 : d__law_bent [.loc 0, .d (.str t)] (PenC ns a1 c1' :: dl) = .ok (.d (.str t2)) (PenC ns a2 c2' :: dl) := q2
  have r1 := e_right (fn_fine f1 (by omega)) (PenC ns a1 c1' :: dl)
  have r2 := e_right (fn_fine f2 (by omega)) (PenC ns a2 c2' :: dl)
  refine ⟨t, a2, c2', ?_, by omega⟩
  have i12 : (ρ.set 12 (some (U.d (.str t))))[12]? = some (some (.d (.str t))) := sg_self (by omega)
  have i1 : (ρ.set 12 (some (U.d (.str t))))[1]? = some (some (.loc 0)) := sg_ne (by decide) h1
  have s1 : gSet 12 (eCall 2 d__law_bent (elCons (eVar 1) (elCons (eVar 11) elNil))) ρ (PenC ns a c :: dl) = .nx (ρ.set 12 (some (.d (.str t)))) (PenC ns a1 c1' :: dl) := g_set (e_call2 (el_c (e_var h1 _) (el_c (e_var h11 _) (el_n _ _))) q1)
  have s2 := b_neg (b_of (e_call1 (F := d__law_right) (el1 (e_var i12 (PenC ns a1 c1' :: dl))) r1))
  have s3 := b_neg (b_of (e_call1 (F := d__law_right) (el1 (e_call2 (F := d__law_bent) (el_c (e_var i1 _) (el_c (e_var i12 _) (el_n _ _))) q2)) r2))
  unfold gIn
  rw [g_seq s1, g_if (b_orF s2 s3)]
  rfl
theorem loopIn {N : Nat} {line : T} (hL : FN N line) (hN : N ≤ 1000) : ∀ (r : Nat) (lo : Int) (ρ : VL.Env) (a : Nat) (c : Int), ρ[1]? = some (some (.loc 0)) → ρ[11]? = some (some (.d (.str line))) → ρ.length = 16 → a + 20 * r ≤ 100000 →
    ∃ (ρ' : VL.Env) (a' : Nat) (c' : Int), forGo (tName 6) gIn (rngD lo r) ρ (PenC ns a c :: dl) = .nx ρ' (PenC ns a' c' :: dl) ∧ a' ≤ a + 10 * r ∧ ρ'.length = 16 ∧ ∀ i, i ≠ 6 → i ≠ 12 → ρ'[i]? = ρ[i]?
  | 0, _, ρ, a, c, _, _, hn, _ => ⟨ρ, a, c, rfl, by omega, hn, fun _ _ _ => rfl⟩
  | r + 1, lo, ρ, a, c, h1, h11, hn, ha => by
    obtain ⟨t, a1, c1', q, b1⟩ := e_in (dl := dl) (ns := ns) (a := a) (c := c) (ρ := ρ.set 6 (some (.d (.int lo)))) (sg_ne (by decide) h1) (sg_ne (by decide) h11) (by simp [hn]) hL hN (by omega)
    obtain ⟨ρ', a2, c2', q2, b2, l2, g2⟩ := loopIn hL hN r (lo + 1) ((ρ.set 6 (some (.d (.int lo)))).set 12 (some (.d (.str t)))) a1 c1' (sg_ne (by decide) (sg_ne (by decide) h1)) (sg_ne (by decide) (sg_ne (by decide) h11)) (by simp [hn]) (by omega)
    refine ⟨ρ', a2, c2', ?_, by omega, l2, fun i n6 n12 => ?_⟩
    · show (match (some (ρ.set 6 (some (.d (.int lo)))) : Option VL.Env) with
        | some ρ1 => match gIn ρ1 (PenC ns a c :: dl) with
          | .nx ρ2 τ2 => forGo (tName 6) gIn (rngD (lo + 1) r) ρ2 τ2
          | .ct ρ2 τ2 => forGo (tName 6) gIn (rngD (lo + 1) r) ρ2 τ2
          | .bk ρ2 τ2 => .nx ρ2 τ2
          | r => r
        | none => .bad) = _
      simp only [q]
      exact q2
    · rw [g2 i n6 n12, List.getElem?_set_ne (Ne.symm n12), List.getElem?_set_ne (Ne.symm n6)]
end
end K82

/-! k82: a turn of the law. -/
namespace K82
open PySem PySem.Spec PySem.NumText PyProof.Rows L2 LamX VL
theorem own_sg {t : T} (h : isOwn t = true) : ∀ c ∈ t, c < 128 := fun c m => by
  unfold isOwn isName at h
  simp only [Bool.and_eq_true] at h
  have := of_decide_eq_true (List.all_eq_true.mp h.1.2 c m)
  unfold LET at this
  simp only [List.mem_cons, List.not_mem_nil, or_false] at this
  omega
theorem itx_sg (n : Nat) : ∀ c ∈ itx (n : Int), c < 128 := fun c m => by
  have := itx_digs n c m
  omega
theorem cap_sg (a : Option Nat) : ∀ c ∈ capT a, c < 128 := by
  cases a with
  | none => intro c m; simp [capT] at m; omega
  | some n => exact itx_sg n
theorem app_sg {s t : T} (h1 : ∀ c ∈ s, c < 128) (h2 : ∀ c ∈ t, c < 128) : ∀ c ∈ s ++ t, c < 128 := fun c m => (List.mem_append.mp m).elim (h1 c) (h2 c)
theorem rows_sg {ws : WS} (H : VOk ws) (a b : Option Nat) : Sg (rowsOf ws a b) := fun t m => by
  rcases List.mem_append.mp m with m | m
  · obtain ⟨q, hq, rfl⟩ := List.mem_map.mp m
    exact app_sg (app_sg (app_sg (by decide) (own_sg (H.own q hq).1)) (by decide)) (itx_sg q.2)
  · simp only [List.mem_cons, List.not_mem_nil, or_false] at m
    rcases m with rfl | rfl
    · exact app_sg (by decide) (cap_sg a)
    · exact app_sg (by decide) (cap_sg b)
theorem text_fn {ws : WS} (H : VOk ws) {a b : Option Nat} (ha : capOk a) (hb : capOk b) : FN 400 (textOf ws a b) := ⟨text_len H ha hb, joinL_sg (b := 10) (by omega) (rows_sg H a b)⟩
/-! ### what is no text -/
def NoT (x : D) : Prop := ∀ τ : Store, eIsiI "str" 1 (eVar 1) [some (.d (.cls 1)), some (.d x), none, none, none, none, none, none, none] τ = .ok (.d (.bl false)) τ
theorem e_noText {x : D} (h : NoT x) (τ : Store) : d_Ledger_read [.d (.cls 1), .d x] τ = .exc 0 (xcp 0 0) τ := by
  have h1 := h τ
  have ht : (τ.take τ.length) = τ := List.take_length
  unfold d_Ledger_read
  rw [g_read_eq]
  show outR τ.length ((gIf (bNeg (bOf (eIsiI "str" 1 (eVar 1)))) (gRaise 0 [ROW, WORD] (elCons (eC (.int 0)) (elCons (eC (.int 0)) elNil))) VL.gNil [some (.d (.cls 1)), some (.d x), none, none, none, none, none, none, none] τ).seq _) = _
  rw [g_if (b_neg (b_of h1))]
  show R.exc 0 (xcp 0 0) (τ.take τ.length) = _
  rw [ht]
section
variable {ns : List Int} {a : Nat} {c : Int} {ρ : VL.Env} {dl : Store}
theorem e_odds {ws : WS} {x y : Option Nat} {line : T} (h1 : ρ[1]? = some (some (.loc 0))) (h10 : ρ[10]? = some (some (.d (led ws x y)))) (h11 : ρ[11]? = some (some (.d (.str line)))) (ha : a + 10 ≤ 100000) :
    ∃ (o : D) (a' : Nat) (c' : Int), ODDS ρ (PenC ns a c :: dl) = .ok (.d o) (PenC ns a' c' :: (dl ++ [.dead])) ∧ NoT o ∧ a' ≤ a + 1 := by
  obtain ⟨o, a2, c2', q2, hx, b2⟩ := e_pick (pen0 (dl := dl ++ [.dead]) ns a c) (ds := [.non, .int 0, .lst [.str line], .tup [.str line], .dct [], .bl true, led ws x y]) (by simp) (by simp) (by omega)
  have q2 : d__law_pick [.loc 0, .d (.lst [.non, .int 0, .lst [.str line], .tup [.str line], .dct [], .bl true, led ws x y])] (PenC ns a c :: (dl ++ [.dead])) = .ok (.d o) (PenC ns a2 c2' :: (dl ++ [.dead])) := q2
  have f1 : eLst false (elCons (eVar 11) elNil) ρ (PenC ns a c :: dl) = .ok (.d (.lst [.str line])) (PenC ns a c :: dl) := by
    unfold eLst
    rw [el1 (e_var h11 _)]
    rfl
  have f2 : eTup (elCons (eVar 11) elNil) ρ (PenC ns a c :: dl) = .ok (.d (.tup [.str line])) (PenC ns a c :: dl) := by
    unfold eTup
    rw [el1 (e_var h11 _)]
    rfl
  have f3 : eD0 ρ (PenC ns a c :: dl) = .ok (.d (.dct [])) (PenC ns a c :: (dl ++ [.dead])) := by
    simp [eD0, eLk, eDN, allocD]
  have hl : eLst false (elCons (eC .non) (elCons (eC (.int 0)) (elCons (eLst false (elCons (eVar 11) elNil)) (elCons (eTup (elCons (eVar 11) elNil)) (elCons eD0 (elCons (eC (.bl true)) (elCons (eVar 10) elNil))))))) ρ (PenC ns a c :: dl) = .ok (.d (.lst [.non, .int 0, .lst [.str line], .tup [.str line], .dct [], .bl true, led ws x y])) (PenC ns a c :: (dl ++ [.dead])) := by
    unfold eLst at f1 ⊢
    rw [el_c (e_cst _ _) (el_c (e_cst _ _) (el_c f1 (el_c f2 (el_c f3 (el_c (e_cst _ _) (el_c (e_var h10 _) (el_n _ _))))))), R.bind_ok]
    rfl
  have hk : ODDS ρ (PenC ns a c :: dl) = .ok (.d o) (PenC ns a2 c2' :: (dl ++ [.dead])) := e_call2 (el_c (e_var h1 _) (el_c hl (el_n _ _))) q2
  refine ⟨o, a2, c2', hk, ?_, by omega⟩
  simp only [List.mem_cons, List.not_mem_nil, or_false] at hx
  rcases hx with rfl | rfl | rfl | rfl | rfl | rfl | rfl <;> exact fun τ => rfl
theorem e_zero2 (τ : Store) : eTup (elCons (eC (.int 0)) (elCons (eC (.int 0)) elNil)) ρ τ = .ok (.d (.tup [.int 0, .int 0])) τ := rfl
theorem ne_zero2 (τ : Store) : oNe (.tup [.int 0, .int 0]) (.tup [.int 0, .int 0]) τ = .ok (.d (.bl false)) τ := by
  have h1 : shp (.tuple [.int 0, .int 0]) = true := by decide +kernel
  have h2 : PyData.eqv (.tuple [.int 0, .int 0]) (.tuple [.int 0, .int 0]) = true := by decide +kernel
  show bNot (if shp (.tuple [.int 0, .int 0]) = true ∧ shp (.tuple [.int 0, .int 0]) = true then .ok (.d (.bl (PyData.eqv (.tuple [.int 0, .int 0]) (.tuple [.int 0, .int 0])))) τ else .bad) = _
  rw [if_pos ⟨h1, h1⟩, h2]
  rfl
theorem e_O5 {o : D} (h13 : ρ[13]? = some (some (.d o))) (hn : ρ.length = 16) (ho : NoT o) (τ : Store) : gO5 ρ τ = .nx ((ρ.set 14 (some (.d (.tup [.int 0, .int 0])))).set 7 none) τ := by
  have e1 := e_noText ho τ
  have e2 : eCM 1 2 d_Ledger_read (elCons (eVar 13) elNil) ρ τ = .exc 0 (xcp 0 0) τ := by
    unfold eCM
    rw [el1 (e_var h13 _), R.bind_ok]
    exact e1
  have e3 : gExpr (eCM 1 2 d_Ledger_read (elCons (eVar 13) elNil)) ρ τ = .exc 0 (xcp 0 0) ρ τ := by
    unfold gExpr
    rw [e2]
    rfl
  have e4 : gTryT 0 7 14 [114, 111, 119] [119, 111, 114, 100] (gExpr (eCM 1 2 d_Ledger_read (elCons (eVar 13) elNil))) ρ τ = .nx ((ρ.set 14 (some (.d (.tup [.int 0, .int 0])))).set 7 none) τ := by
    unfold gTryT
    rw [e3]
    show (if 0 = 0 ∧ 7 < ρ.length then RS.nx ((ρ.set 14 (some (.d (.tup [.int 0, .int 0])))).set 7 none) τ else .bad) = _
    rw [if_pos ⟨rfl, by omega⟩]
  have i14 : ((ρ.set 14 (some (U.d (.tup [.int 0, .int 0])))).set 7 none)[14]? = some (some (.d (.tup [.int 0, .int 0]))) := sg_ne (by decide) (sg_self (by omega))
  unfold gO5
  rw [g_seq e4, g_if (b_of (e_op (e_var i14 τ) (e_zero2 τ) (ne_zero2 τ)))]
  rfl
theorem e_turn (h1 : ρ[1]? = some (some (.loc 0))) (hn : ρ.length = 16) (ha : a + 200 ≤ 100000) :
    ∃ (ρ' : VL.Env) (a' : Nat) (c' : Int) (dl' : Store), gO ρ (PenC ns a c :: dl) = .nx ρ' (PenC ns a' c' :: dl') ∧ ρ'[1]? = some (some (.loc 0)) ∧ ρ'.length = 16 ∧ a' ≤ a + 100 := by
  obtain ⟨ws, a1, c1', q1, b1, H, nd⟩ := e_wdraw (pen0 (dl := dl) ns a c) (by omega)
  have q1 : d__law_weights [.loc 0] (PenC ns a c :: dl) = .ok (.d (.dct (ws.map kv))) (PenC ns a1 c1' :: dl) := q1
  have s1 : gSet 5 (eCall 1 d__law_weights (elCons (eVar 1) elNil)) ρ (PenC ns a c :: dl) = .nx (ρ.set 5 (some (.d (.dct (ws.map kv))))) (PenC ns a1 c1' :: dl) := g_set (e_call1 (el1 (e_var h1 _)) q1)
  obtain ⟨ρ1, e1⟩ : ∃ ρ1, ρ.set 5 (some (.d (.dct (ws.map kv)))) = ρ1 := ⟨_, rfl⟩
  have n1 : ρ1.length = 16 := by rw [← e1]; simp [hn]
  have g11 : ρ1[1]? = some (some (.loc 0)) := by rw [← e1]; exact sg_ne (by decide) h1
  have g15 : ρ1[5]? = some (some (.d (.dct (ws.map kv)))) := by rw [← e1]; exact sg_self (by omega)
  rw [e1] at s1
  obtain ⟨x, a2, c2', q2, hx, b2⟩ := e_caps (dl := dl) (ns := ns) (a := a1) (c := c1') g11 (by omega)
  obtain ⟨y, a3, c3', q3, hy, b3⟩ := e_caps (dl := dl) (ns := ns) (a := a2) (c := c2') g11 (by omega)
  have s2 := g_par (i := 8) (j := 9) (el_c q2 (el1 q3))
  obtain ⟨ρ2, e2⟩ : ∃ ρ2, (ρ1.set 8 (some (.d (optD x)))).set 9 (some (.d (optD y))) = ρ2 := ⟨_, rfl⟩
  have n2 : ρ2.length = 16 := by rw [← e2]; simp [n1]
  have g21 : ρ2[1]? = some (some (.loc 0)) := by rw [← e2]; exact sg_ne (by decide) (sg_ne (by decide) g11)
  have g25 : ρ2[5]? = some (some (.d (.dct (ws.map kv)))) := by rw [← e2]; exact sg_ne (by decide) (sg_ne (by decide) g15)
  have g28 : ρ2[8]? = some (some (.d (optD x))) := by rw [← e2]; exact sg_ne (by decide) (sg_self (by omega))
  have g29 : ρ2[9]? = some (some (.d (optD y))) := by rw [← e2]; exact sg_self (by simp [n1])
  rw [e2] at s2
  have P := ord_perm ws
  have A := ord_asc ws nd
  have H' := ok_perm P H
  generalize ordW ws = vs at P A H'
  have K : RdOk vs x y := ⟨H', A, hx, hy⟩
  have F := text_fn H' hx hy
  have m1 := e_make H P A hx hy (PenC ns a3 c3' :: dl)
  have m2 := e_law_text H nd P A hx hy (PenC ns a3 c3' :: dl)
  have t1 := g_str_led K (PenC ns a3 c3' :: dl)
  have t2 := e_read (fn_fine F (by omega)) (PenC ns a3 c3' :: dl)
  rw [rd_back K] at t2
  have t2 : d_Ledger_read [.d (.cls 1), .d (.str (textOf vs x y))] (PenC ns a3 c3' :: dl) = .ok (.d (led vs x y)) (PenC ns a3 c3' :: dl) := t2
  have t3 := g_ne_led K (PenC ns a3 c3' :: dl)
  have t4 := e_right (fn_fine F (by omega)) (PenC ns a3 c3' :: dl)
  have f1 : eMake 1 1 2 d_Ledger___init__ [0, 1, 2, 3] (elCons (eVar 5) elNil) (elCons (eVar 8) (elCons (eVar 9) elNil)) ρ2 (PenC ns a3 c3' :: dl) = .ok (.d (led vs x y)) (PenC ns a3 c3' :: dl) := by
    unfold eMake
    rw [el1 (e_var g25 _), R.bind_ok, el_c (e_var g28 _) (el1 (e_var g29 _)), R.bind_ok]
    exact m1
  have s3 := g_par (i := 10) (j := 11) (el_c f1 (el1 (e_call3 (F := d__law_text) (el_c (e_var g25 _) (el_c (e_var g28 _) (el1 (e_var g29 _)))) m2)))
  obtain ⟨ρ3, e3⟩ : ∃ ρ3, (ρ2.set 10 (some (.d (led vs x y)))).set 11 (some (.d (.str (textOf vs x y)))) = ρ3 := ⟨_, rfl⟩
  have n3 : ρ3.length = 16 := by rw [← e3]; simp [n2]
  have g31 : ρ3[1]? = some (some (.loc 0)) := by rw [← e3]; exact sg_ne (by decide) (sg_ne (by decide) g21)
  have g3a : ρ3[10]? = some (some (.d (led vs x y))) := by rw [← e3]; exact sg_ne (by decide) (sg_self (by omega))
  have g3b : ρ3[11]? = some (some (.d (.str (textOf vs x y)))) := by rw [← e3]; exact sg_self (by simp [n2])
  rw [e3] at s3
  have w1 : eStrI 1 d_Ledger___str__ (eVar 10) ρ3 (PenC ns a3 c3' :: dl) = .ok (.d (.str (textOf vs x y))) (PenC ns a3 c3' :: dl) := by
    unfold eStrI
    rw [e_var g3a, R.bind_ok]
    exact t1
  have w2 : oNe (.str (textOf vs x y)) (.str (textOf vs x y)) (PenC ns a3 c3' :: dl) = .ok (.d (.bl false)) (PenC ns a3 c3' :: dl) := by simp [oNe, oEq, bNot]
  have w3 : eCM 1 2 d_Ledger_read (elCons (eVar 11) elNil) ρ3 (PenC ns a3 c3' :: dl) = .ok (.d (led vs x y)) (PenC ns a3 c3' :: dl) := by
    unfold eCM
    rw [el1 (e_var g3b _), R.bind_ok]
    exact t2
  have w4 : eNeI 1 d_Ledger___eq__ (eCM 1 2 d_Ledger_read (elCons (eVar 11) elNil)) (eVar 10) ρ3 (PenC ns a3 c3' :: dl) = .ok (.d (.bl false)) (PenC ns a3 c3' :: dl) := by
    unfold eNeI
    rw [w3, R.bind_ok, e_var g3a, R.bind_ok]
    exact t3
  have s4 := b_orF (b_of (e_op w1 (e_var g3b _) w2)) (b_orF (b_of w4) (b_neg (b_of (e_call1 (F := d__law_right) (el1 (e_var g3b _)) t4))))
  obtain ⟨ρ4, a4, c4', q4, b4, n4, k4⟩ := loopIn (dl := dl) (ns := ns) F (by omega) 4 0 ρ3 a3 c3' g31 g3b n3 (by omega)
  have s5 : gFor (dRange1 (elCons (eC (.int 4)) elNil)) (tName 6) gIn ρ3 (PenC ns a3 c3' :: dl) = .nx ρ4 (PenC ns a4 c4' :: dl) := q4
  have g41 : ρ4[1]? = some (some (.loc 0)) := by rw [k4 1 (by decide) (by decide)]; exact g31
  have g4a : ρ4[10]? = some (some (.d (led vs x y))) := by rw [k4 10 (by decide) (by decide)]; exact g3a
  have g4b : ρ4[11]? = some (some (.d (.str (textOf vs x y)))) := by rw [k4 11 (by decide) (by decide)]; exact g3b
  obtain ⟨o, a5, c5', q5, ho, b5⟩ := e_odds (dl := dl) (ns := ns) (a := a4) (c := c4') g41 g4a g4b (by omega)
  have s6 := g_par (i := 13) (j := 14) (el_c q5 (el1 (e_cst (.non) ρ4)))
  have s7 := e_O5 (ρ := (ρ4.set 13 (some (.d o))).set 14 (some (.d .non))) (sg_ne (by decide) (sg_self (by omega))) (by simp [n4]) ho (PenC ns a5 c5' :: (dl ++ [.dead]))
  have gz : ((((ρ4.set 13 (some (.d o))).set 14 (some (.d .non))).set 14 (some (.d (.tup [.int 0, .int 0])))).set 7 none)[1]? = some (some (.loc 0)) := sg_ne (by decide) (sg_ne (by decide) (sg_ne (by decide) (sg_ne (by decide) g41)))
  refine ⟨_, a5, c5', dl ++ [.dead], ?_, gz, by simp [n4], by omega⟩
  unfold gO
  rw [g_seq s1]
  unfold gO0
  rw [g_seq s2]
  unfold gO1
  rw [g_seq s3]
  unfold gO2
  have s4' : gIf (bOr (bOf (eOp oNe (eStrI 1 d_Ledger___str__ (eVar 10)) (eVar 11))) (bOr (bOf (eNeI 1 d_Ledger___eq__ (eCM 1 2 d_Ledger_read (elCons (eVar 11) elNil)) (eVar 10))) (bNeg (bOf (eCall 1 d__law_right (elCons (eVar 11) elNil)))))) (gRet (eC (.bl false))) VL.gNil ρ3 (PenC ns a3 c3' :: dl) = .nx ρ3 (PenC ns a3 c3' :: dl) := g_if s4
  rw [g_seq s4']
  unfold gO3
  rw [g_seq s5]
  unfold gO4
  rw [g_seq s6]
  exact s7
theorem loopO : ∀ (r : Nat) (lo : Int) (ρ : VL.Env) (a : Nat) (c : Int) (dl : Store), ρ[1]? = some (some (.loc 0)) → ρ.length = 16 → a + 200 * r ≤ 100000 →
    ∃ (ρ' : VL.Env) (τ' : Store), forGo (tName 2) gO (rngD lo r) ρ (PenC ns a c :: dl) = .nx ρ' τ' ∧ ρ'.length = 16
  | 0, _, ρ, a, c, dl, _, hn, _ => ⟨ρ, _, rfl, hn⟩
  | r + 1, lo, ρ, a, c, dl, h1, hn, ha => by
    obtain ⟨ρ1, a1, c1', dl1, q, g1, n1, b1⟩ := e_turn (dl := dl) (ns := ns) (a := a) (c := c) (ρ := ρ.set 2 (some (.d (.int lo)))) (sg_ne (by decide) h1) (by simp [hn]) (by omega)
    obtain ⟨ρ', τ', q2, n2⟩ := loopO r (lo + 1) ρ1 a1 c1' dl1 g1 n1 (by omega)
    refine ⟨ρ', τ', ?_, n2⟩
    show (match (some (ρ.set 2 (some (.d (.int lo)))) : Option VL.Env) with
      | some ρ1 => match gO ρ1 (PenC ns a c :: dl) with
        | .nx ρ2 τ2 => forGo (tName 2) gO (rngD (lo + 1) r) ρ2 τ2
        | .ct ρ2 τ2 => forGo (tName 2) gO (rngD (lo + 1) r) ρ2 τ2
        | .bk ρ2 τ2 => .nx ρ2 τ2
        | r => r
      | none => .bad) = _
    simp only [q]
    exact q2
end
end K82

/-! k82: the whole law. -/
namespace K82
open PySem PySem.Spec PySem.NumText PyProof.Rows L2 LamX VL
theorem e_pen (ns : List Int) (hl : ns.length ≤ 63) : d__law_pen [.d (.fl (ns.map .int))] [] = .ok (.loc 0) [PenC ns 0 0] := by
  have hc : cut (ns.map D.int) none (some ((63 : Nat) : Int)) = ns.map D.int := by
    rw [cut_to, List.take_of_length_le (by simpa using hl)]
  have hc : cut (ns.map D.int) none (some 63) = ns.map D.int := hc
  have three : 3 ≤ sizeLine := by rw [sl_eq]; omega
  unfold PenC
  generalize ns.map D.int = ds at *
  simp [callD, outR, retU, gSeq, gIf, gRet, gRetN, gSet, gExpr, VL.gNil, gNever, gUnp, gPar, gPar3, eVar, eC, elNil, elCons, eCall, gCall, eCB, gCB, vws_cons, vws_nil, c1, c2, eOp, opD, bOf, bAnd, bOr, bNeg, eAnd, eOr, eNot, eIf, eIs, isN, eIsi, D.ty, isTy, eChain, oLe, oLt, oGt, oGe, oEq, oNe, bNot, oAdd, oSub, fLen, fLenD, D.seq, eTup, gTupD, frzs, eLst, gLstD, allocL, eIx, oIx, fMin, take_self, R.bind, liftE, RS.seq, tName, tTupN, tNames, eMt, gMt, tyD, d__law_pen, g__law_pen, callO, outO, retO, eSl, gSl, eoNone, eoSome, oSl, fList, hc, three]
def TOP : List T := [[97], [98], [99], [100], [101], [102], [103], [104], [105]]
def NINE_T : T := [119, 101, 105, 103, 104, 116, 32, 97, 32, 49, 10, 119, 101, 105, 103, 104, 116, 32, 98, 32, 49, 10, 119, 101, 105, 103, 104, 116, 32, 99, 32, 49, 10, 119, 101, 105, 103, 104, 116, 32, 100, 32, 49, 10, 119, 101, 105, 103, 104, 116, 32, 101, 32, 49, 10, 119, 101, 105, 103, 104, 116, 32, 102, 32, 49, 10, 119, 101, 105, 103, 104, 116, 32, 103, 32, 49, 10, 119, 101, 105, 103, 104, 116, 32, 104, 32, 49, 10, 119, 101, 105, 103, 104, 116, 32, 105, 32, 49, 10, 108, 111, 97, 100, 32, 45, 10, 114, 117, 115, 104, 32, 45]
theorem join_nine : TL.joinL [10] [[119, 101, 105, 103, 104, 116, 32, 97, 32, 49], [119, 101, 105, 103, 104, 116, 32, 98, 32, 49], [119, 101, 105, 103, 104, 116, 32, 99, 32, 49], [119, 101, 105, 103, 104, 116, 32, 100, 32, 49], [119, 101, 105, 103, 104, 116, 32, 101, 32, 49], [119, 101, 105, 103, 104, 116, 32, 102, 32, 49], [119, 101, 105, 103, 104, 116, 32, 103, 32, 49], [119, 101, 105, 103, 104, 116, 32, 104, 32, 49], [119, 101, 105, 103, 104, 116, 32, 105, 32, 49], [108, 111, 97, 100, 32, 45], [114, 117, 115, 104, 32, 45]] = NINE_T := by decide +kernel
theorem add_lst {x y : List D} (h : x.length + y.length ≤ sizeLine) (τ : Store) : oAdd false (.lst x) (.lst y) τ = .ok (.d (.lst (x ++ y))) τ := if_pos h
theorem e_nine (ρ : VL.Env) (hn : 15 < ρ.length) (τ : Store) : NINE ρ τ = .ok (.d (.str NINE_T)) τ := by
  have go : ∀ ρ : VL.Env, 15 < ρ.length → compGo (tName 15) bYes (eOp (oAdd false) (eOp (oAdd false) (eC (.str [119, 101, 105, 103, 104, 116, 32])) (eVar 15)) (eC (.str [32, 49]))) ρ (TOP.map .str) τ [] = .ok (TOP.map fun t => .str (([119, 101, 105, 103, 104, 116, 32] ++ t) ++ [32, 49])) τ := fun ρ hρ => by
    have := compGo_all (t := tName 15) (fe := (eOp (oAdd false) (eOp (oAdd false) (eC (.str [119, 101, 105, 103, 104, 116, 32])) (eVar 15)) (eC (.str [32, 49])))) (ρ := ρ) (τ := τ) (h := fun d => match d with | .str t => .str (([119, 101, 105, 103, 104, 116, 32] ++ t) ++ [32, 49]) | _ => .non) (TOP.map .str) [] (fun x m => by
      obtain ⟨t, ht, rfl⟩ := List.mem_map.mp m
      have hl : t.length ≤ 1 := (by decide : ∀ t ∈ TOP, t.length ≤ 1) t ht
      exact ⟨_, rfl, e_op (e_op (e_cst _ _) (e_var (sg_self hρ) τ) (if_pos (by rw [sl_eq]; simp; omega))) (e_cst _ _) (if_pos (by rw [sl_eq]; simp; omega))⟩) (by rw [sl_eq]; decide)
    rw [this, List.map_map]
    rfl
  have g := go (wipeE ρ [15]) (by simpa [wipeE] using hn)
  have two : eLst false (elCons (eC (.str [108, 111, 97, 100, 32, 45])) (elCons (eC (.str [114, 117, 115, 104, 32, 45])) elNil)) ρ τ = .ok (.d (.lst [.str [108, 111, 97, 100, 32, 45], .str [114, 117, 115, 104, 32, 45]])) τ := rfl
  have lc : eLc false (dSigns (eC (.str [97, 98, 99, 100, 101, 102, 103, 104, 105]))) (tName 15) bYes (eOp (oAdd false) (eOp (oAdd false) (eC (.str [119, 101, 105, 103, 104, 116, 32])) (eVar 15)) (eC (.str [32, 49]))) [15] ρ τ = .ok (.d (.lst (TOP.map fun t => .str (([119, 101, 105, 103, 104, 116, 32] ++ t) ++ [32, 49])))) τ := by
    unfold eLc
    show (compGo (tName 15) bYes (eOp (oAdd false) (eOp (oAdd false) (eC (.str [119, 101, 105, 103, 104, 116, 32])) (eVar 15)) (eC (.str [32, 49]))) (wipeE ρ [15]) (TOP.map .str) τ []).bind _ = _
    rw [g]
    rfl
  have op : eOp (oAdd false) (eLc false (dSigns (eC (.str [97, 98, 99, 100, 101, 102, 103, 104, 105]))) (tName 15) bYes (eOp (oAdd false) (eOp (oAdd false) (eC (.str [119, 101, 105, 103, 104, 116, 32])) (eVar 15)) (eC (.str [32, 49]))) [15]) (eLst false (elCons (eC (.str [108, 111, 97, 100, 32, 45])) (elCons (eC (.str [114, 117, 115, 104, 32, 45])) elNil))) ρ τ = .ok (.d (.lst ((TOP.map fun t => .str (([119, 101, 105, 103, 104, 116, 32] ++ t) ++ [32, 49])) ++ [.str [108, 111, 97, 100, 32, 45], .str [114, 117, 115, 104, 32, 45]]))) τ := e_op lc two (add_lst (by rw [sl_eq]; decide) τ)
  have hj := e_join (b := 10) (ts := [[119, 101, 105, 103, 104, 116, 32, 97, 32, 49], [119, 101, 105, 103, 104, 116, 32, 98, 32, 49], [119, 101, 105, 103, 104, 116, 32, 99, 32, 49], [119, 101, 105, 103, 104, 116, 32, 100, 32, 49], [119, 101, 105, 103, 104, 116, 32, 101, 32, 49], [119, 101, 105, 103, 104, 116, 32, 102, 32, 49], [119, 101, 105, 103, 104, 116, 32, 103, 32, 49], [119, 101, 105, 103, 104, 116, 32, 104, 32, 49], [119, 101, 105, 103, 104, 116, 32, 105, 32, 49], [108, 111, 97, 100, 32, 45], [114, 117, 115, 104, 32, 45]]) (ds := (TOP.map fun t => D.str (([119, 101, 105, 103, 104, 116, 32] ++ t) ++ [32, 49])) ++ [.str [108, 111, 97, 100, 32, 45], .str [114, 117, 115, 104, 32, 45]]) rfl (by decide) τ
  rw [join_nine] at hj
  have fe := el1 op
  unfold NINE
  show (elCons _ elNil ρ τ).bind (fun us τ2 => gMt "str" mJoin (.d (.str [10])) us τ2) = _
  rw [fe, R.bind_ok]
  exact hj
def SOME_T : List T := [[], [108, 111, 97, 100, 32, 45], [108, 111, 97, 100, 32, 45, 10, 114, 117, 115, 104, 32, 45], [108, 111, 97, 100, 32, 45, 10, 114, 117, 115, 104, 32, 45, 10], [108, 111, 97, 100, 32, 48, 10, 114, 117, 115, 104, 32, 48, 32], [32, 108, 111, 97, 100, 32, 48, 10, 114, 117, 115, 104, 32, 48], [114, 117, 115, 104, 32, 48, 10, 108, 111, 97, 100, 32, 48], NINE_T]
theorem some_ok : ∀ t ∈ SOME_T, t.length ≤ 50000 ∧ ∀ c ∈ t, c < 128 := by decide +kernel
theorem some_fine {t : T} (m : t ∈ SOME_T) : Fine t := ⟨(some_ok t m).1, (some_ok t m).2⟩
theorem go_none {t : TGv} {tb : EB} {fe : EV} {ρ : VL.Env} {τ : Store} : ∀ (ds acc : List D), (∀ x ∈ ds, ∃ ρ1, t x ρ = some ρ1 ∧ tb ρ1 τ = .ok false τ) → compGo t tb fe ρ ds τ acc = .ok acc τ
  | [], acc, _ => rfl
  | d :: ds, acc, H => by
    obtain ⟨ρ1, h1, h2⟩ := H d List.mem_cons_self
    have ih := go_none (t := t) (tb := tb) (fe := fe) (ρ := ρ) (τ := τ) ds acc fun x m => H x (List.mem_cons_of_mem _ m)
    unfold compGo
    rw [h1]
    simp only [h2, R.nx_ok, R.bind_ok]
    exact ih
theorem e_bad {ρ : VL.Env} (h4 : ρ[4]? = some (some (.d (.lst (SOME_T.map .str))))) (hn : 11 < ρ.length) (τ : Store) : BAD ρ τ = .ok (.d (.lst [])) τ := by
  unfold BAD eLc dList
  rw [e_var h4, R.bind_ok]
  show (compGo _ _ _ (wipeE ρ [11]) (SOME_T.map .str) τ []).bind _ = _
  rw [go_none (SOME_T.map .str) [] fun x m => by
    obtain ⟨t, ht, rfl⟩ := List.mem_map.mp m
    exact ⟨_, rfl, b_neg (b_of (e_call1 (F := d__law_right) (el1 (e_var (sg_self (by simpa [wipeE] using hn)) τ)) (e_right (some_fine ht) τ)))⟩]
  rfl
theorem nine_code : rdR (sp 10 NINE_T) = .error (8, 0) := by rfl
theorem eq_nilD (τ : Store) : oEq (.lst []) (.lst []) τ = .ok (.d (.bl true)) τ := by
  have h1 : shp (.list []) = true := by decide +kernel
  have h2 : PyData.eqv (.list []) (.list []) = true := by decide +kernel
  show (if shp (.list []) = true ∧ shp (.list []) = true then R.ok (U.d (.bl (PyData.eqv (.list []) (.list [])))) τ else .bad) = _
  rw [if_pos ⟨h1, h1⟩, h2]
theorem eq_80 (τ : Store) : oEq (.tup [.int 8, .int 0]) (.tup [.int 8, .int 0]) τ = .ok (.d (.bl true)) τ := by
  have h1 : shp (.tuple [.int 8, .int 0]) = true := by decide +kernel
  have h2 : PyData.eqv (.tuple [.int 8, .int 0]) (.tuple [.int 8, .int 0]) = true := by decide +kernel
  show (if shp (.tuple [.int 8, .int 0]) = true ∧ shp (.tuple [.int 8, .int 0]) = true then R.ok (U.d (.bl (PyData.eqv (.tuple [.int 8, .int 0]) (.tuple [.int 8, .int 0])))) τ else .bad) = _
  rw [if_pos ⟨h1, h1⟩, h2]
theorem e_Z {ρ : VL.Env} (hn : ρ.length = 16) (τ : Store) : ∃ τ', gZ ρ τ = .rt (.d (.bl true)) τ' := by
  refine ⟨τ, ?_⟩
  have s1 := g_set (i := 3) (e_nine ρ (by omega) τ)
  obtain ⟨ρ1, e1⟩ : ∃ ρ1, ρ.set 3 (some (.d (.str NINE_T))) = ρ1 := ⟨_, rfl⟩
  have n1 : ρ1.length = 16 := by rw [← e1]; simp [hn]
  have g13 : ρ1[3]? = some (some (.d (.str NINE_T))) := by rw [← e1]; exact sg_self (by omega)
  rw [e1] at s1
  have f1 : SOME ρ1 τ = .ok (.d (.lst (SOME_T.map .str))) τ := by
    unfold SOME eLst
    rw [el_c (e_cst _ _) (el_c (e_cst _ _) (el_c (e_cst _ _) (el_c (e_cst _ _) (el_c (e_cst _ _) (el_c (e_cst _ _) (el_c (e_cst _ _) (el1 (e_var g13 τ)))))))), R.bind_ok]
    rfl
  have s2 := g_set (i := 4) f1
  obtain ⟨ρ2, e2⟩ : ∃ ρ2, ρ1.set 4 (some (.d (.lst (SOME_T.map .str)))) = ρ2 := ⟨_, rfl⟩
  have n2 : ρ2.length = 16 := by rw [← e2]; simp [n1]
  have g23 : ρ2[3]? = some (some (.d (.str NINE_T))) := by rw [← e2]; exact sg_ne (by decide) g13
  have g24 : ρ2[4]? = some (some (.d (.lst (SOME_T.map .str)))) := by rw [← e2]; exact sg_self (by omega)
  rw [e2] at s2
  have w1 : eOp oEq BAD (eLst false elNil) ρ2 τ = .ok (.d (.bl true)) τ := e_op (e_bad g24 (by omega) τ) rfl (eq_nilD τ)
  have w := e_law_wrong (some_fine (t := NINE_T) (by simp [SOME_T])) τ
  rw [nine_code] at w
  have w2 : eOp oEq (eCall 1 d__law_wrong (elCons (eVar 3) elNil)) (eTup (elCons (eC (.int 8)) (elCons (eC (.int 0)) elNil))) ρ2 τ = .ok (.d (.bl true)) τ := e_op (e_call1 (el1 (e_var g23 τ)) w) rfl (eq_80 τ)
  unfold gZ
  rw [g_seq s1, g_seq s2]
  refine g_ret ?_
  unfold eAnd
  rw [w1, R.bind_ok]
  exact w2
theorem law_plain (ns : List Int) (hl : ns.length ≤ 63) : ∃ τ, d_law [.d (.fl (ns.map .int))] [] = .ok (.d (.bl true)) τ := by
  have p := e_pen ns hl
  have hcall : d_law [.d (.fl (ns.map .int))] [] = outR 0 (g_law [some (.d (.fl (ns.map .int))), none, none, none, none, none, none, none, none, none, none, none, none, none, none, none] []) := rfl
  have s1 : gSet 1 (eCall 1 d__law_pen (elCons (eVar 0) elNil)) [some (.d (.fl (ns.map .int))), none, none, none, none, none, none, none, none, none, none, none, none, none, none, none] [] = .nx [some (.d (.fl (ns.map .int))), some (.loc 0), none, none, none, none, none, none, none, none, none, none, none, none, none, none] [PenC ns 0 0] := g_set (e_call1 (F := d__law_pen) (el1 (e_var rfl _)) p)
  obtain ⟨ρ', τ', q, n⟩ := loopO (ns := ns) 8 0 [some (.d (.fl (ns.map .int))), some (.loc 0), none, none, none, none, none, none, none, none, none, none, none, none, none, none] 0 0 [] rfl rfl (by omega)
  have s2 : gFor (dRange1 (elCons (eC (.int 8)) elNil)) (tName 2) gO [some (.d (.fl (ns.map .int))), some (.loc 0), none, none, none, none, none, none, none, none, none, none, none, none, none, none] [PenC ns 0 0] = .nx ρ' τ' := q
  obtain ⟨τ2, z⟩ := e_Z n τ'
  rw [hcall, g_law_eq, g_seq s1, g_seq s2, z]
  exact ⟨_, rfl⟩
end K82

namespace K82
open PySem PySem.Spec PyProof.Rows L2 LamX VL
theorem kit_self {K : PySem.W.Frag} {v : Value} : PySem.W.kitOne K v v = some true := by unfold PySem.W.kitOne; simp
theorem all_mk {P : Program} {w : World} {K : PySem.W.Frag} {h : Heap} {mg : Str → Option Value} {fa : Addr} (X : K.In h) (NS : h.Ns mainGlobals mg) (hfa : mg "law" = some (.ref fa)) (tp : (P.main.scope.names.lookup ("super" : Str)).isSome = false)
    {f_is_integer : Addr} {oc_is_integer : Value} {od_is_integer an_is_integer : Option Addr} {sl_is_integer : Array (Option Value)} {kV_is_integer dc_is_integer pm_is_integer cd_is_integer ct_is_integer : Value}
    (a_is_integer : PySem.W.nsIn K mainGlobals "is_integer" = some (some (.ref f_is_integer)))
    (l_is_integer : K.lookup f_is_integer = some ⟨oc_is_integer, od_is_integer, .func (PySem.W.fnOf "is_integer" "is_integer" (defArgs st_is_integer) (defBody st_is_integer) (defScope st_is_integer) .none kV_is_integer dc_is_integer pm_is_integer an_is_integer cd_is_integer ct_is_integer), sl_is_integer⟩)
    (c_is_integer : PySem.W.codeIn K cd_is_integer "is_integer" = true)
    (k_is_integer : PySem.W.keepIn K (.ref f_is_integer) = true)
    {f_is_name : Addr} {oc_is_name : Value} {od_is_name an_is_name : Option Addr} {sl_is_name : Array (Option Value)} {kV_is_name dc_is_name pm_is_name cd_is_name ct_is_name : Value}
    (a_is_name : PySem.W.nsIn K mainGlobals "is_name" = some (some (.ref f_is_name)))
    (l_is_name : K.lookup f_is_name = some ⟨oc_is_name, od_is_name, .func (PySem.W.fnOf "is_name" "is_name" (defArgs st_is_name) (defBody st_is_name) (defScope st_is_name) .none kV_is_name dc_is_name pm_is_name an_is_name cd_is_name ct_is_name), sl_is_name⟩)
    (c_is_name : PySem.W.codeIn K cd_is_name "is_name" = true)
    (k_is_name : PySem.W.keepIn K (.ref f_is_name) = true)
    {f_is_own_name : Addr} {oc_is_own_name : Value} {od_is_own_name an_is_own_name : Option Addr} {sl_is_own_name : Array (Option Value)} {kV_is_own_name dc_is_own_name pm_is_own_name cd_is_own_name ct_is_own_name : Value}
    (a_is_own_name : PySem.W.nsIn K mainGlobals "is_own_name" = some (some (.ref f_is_own_name)))
    (l_is_own_name : K.lookup f_is_own_name = some ⟨oc_is_own_name, od_is_own_name, .func (PySem.W.fnOf "is_own_name" "is_own_name" (defArgs st_is_own_name) (defBody st_is_own_name) (defScope st_is_own_name) .none kV_is_own_name dc_is_own_name pm_is_own_name an_is_own_name cd_is_own_name ct_is_own_name), sl_is_own_name⟩)
    (c_is_own_name : PySem.W.codeIn K cd_is_own_name "is_own_name" = true)
    (k_is_own_name : PySem.W.keepIn K (.ref f_is_own_name) = true)
    {f_is_between : Addr} {oc_is_between : Value} {od_is_between an_is_between : Option Addr} {sl_is_between : Array (Option Value)} {kV_is_between dc_is_between pm_is_between cd_is_between ct_is_between : Value}
    (a_is_between : PySem.W.nsIn K mainGlobals "is_between" = some (some (.ref f_is_between)))
    (l_is_between : K.lookup f_is_between = some ⟨oc_is_between, od_is_between, .func (PySem.W.fnOf "is_between" "is_between" (defArgs st_is_between) (defBody st_is_between) (defScope st_is_between) .none kV_is_between dc_is_between pm_is_between an_is_between cd_is_between ct_is_between), sl_is_between⟩)
    (c_is_between : PySem.W.codeIn K cd_is_between "is_between" = true)
    (k_is_between : PySem.W.keepIn K (.ref f_is_between) = true)
    {f_is_cap : Addr} {oc_is_cap : Value} {od_is_cap an_is_cap : Option Addr} {sl_is_cap : Array (Option Value)} {kV_is_cap dc_is_cap pm_is_cap cd_is_cap ct_is_cap : Value}
    (a_is_cap : PySem.W.nsIn K mainGlobals "is_cap" = some (some (.ref f_is_cap)))
    (l_is_cap : K.lookup f_is_cap = some ⟨oc_is_cap, od_is_cap, .func (PySem.W.fnOf "is_cap" "is_cap" (defArgs st_is_cap) (defBody st_is_cap) (defScope st_is_cap) .none kV_is_cap dc_is_cap pm_is_cap an_is_cap cd_is_cap ct_is_cap), sl_is_cap⟩)
    (c_is_cap : PySem.W.codeIn K cd_is_cap "is_cap" = true)
    (k_is_cap : PySem.W.keepIn K (.ref f_is_cap) = true)
    {f_are_weights : Addr} {oc_are_weights : Value} {od_are_weights an_are_weights : Option Addr} {sl_are_weights : Array (Option Value)} {kV_are_weights dc_are_weights pm_are_weights cd_are_weights ct_are_weights : Value}
    (a_are_weights : PySem.W.nsIn K mainGlobals "are_weights" = some (some (.ref f_are_weights)))
    (l_are_weights : K.lookup f_are_weights = some ⟨oc_are_weights, od_are_weights, .func (PySem.W.fnOf "are_weights" "are_weights" (defArgs st_are_weights) (defBody st_are_weights) (defScope st_are_weights) .none kV_are_weights dc_are_weights pm_are_weights an_are_weights cd_are_weights ct_are_weights), sl_are_weights⟩)
    (c_are_weights : PySem.W.codeIn K cd_are_weights "are_weights" = true)
    (k_are_weights : PySem.W.keepIn K (.ref f_are_weights) = true)
    {f_number_in : Addr} {oc_number_in : Value} {od_number_in an_number_in : Option Addr} {sl_number_in : Array (Option Value)} {kV_number_in dc_number_in pm_number_in cd_number_in ct_number_in : Value}
    (a_number_in : PySem.W.nsIn K mainGlobals "number_in" = some (some (.ref f_number_in)))
    (l_number_in : K.lookup f_number_in = some ⟨oc_number_in, od_number_in, .func (PySem.W.fnOf "number_in" "number_in" (defArgs st_number_in) (defBody st_number_in) (defScope st_number_in) .none kV_number_in dc_number_in pm_number_in an_number_in cd_number_in ct_number_in), sl_number_in⟩)
    (c_number_in : PySem.W.codeIn K cd_number_in "number_in" = true)
    (k_number_in : PySem.W.keepIn K (.ref f_number_in) = true)
    {f_refuse : Addr} {oc_refuse : Value} {od_refuse an_refuse : Option Addr} {sl_refuse : Array (Option Value)} {kV_refuse dc_refuse pm_refuse cd_refuse ct_refuse : Value}
    (a_refuse : PySem.W.nsIn K mainGlobals "refuse" = some (some (.ref f_refuse)))
    (l_refuse : K.lookup f_refuse = some ⟨oc_refuse, od_refuse, .func (PySem.W.fnOf "refuse" "refuse" (defArgs st_refuse) (defBody st_refuse) (defScope st_refuse) .none kV_refuse dc_refuse pm_refuse an_refuse cd_refuse ct_refuse), sl_refuse⟩)
    (c_refuse : PySem.W.codeIn K cd_refuse "refuse" = true)
    (k_refuse : PySem.W.keepIn K (.ref f_refuse) = true)
    {f_need_size : Addr} {oc_need_size : Value} {od_need_size an_need_size : Option Addr} {sl_need_size : Array (Option Value)} {kV_need_size dc_need_size pm_need_size cd_need_size ct_need_size : Value}
    (a_need_size : PySem.W.nsIn K mainGlobals "need_size" = some (some (.ref f_need_size)))
    (l_need_size : K.lookup f_need_size = some ⟨oc_need_size, od_need_size, .func (PySem.W.fnOf "need_size" "need_size" (defArgs st_need_size) (defBody st_need_size) (defScope st_need_size) .none kV_need_size dc_need_size pm_need_size an_need_size cd_need_size ct_need_size), sl_need_size⟩)
    (c_need_size : PySem.W.codeIn K cd_need_size "need_size" = true)
    (k_need_size : PySem.W.keepIn K (.ref f_need_size) = true)
    {f_weight_in : Addr} {oc_weight_in : Value} {od_weight_in an_weight_in : Option Addr} {sl_weight_in : Array (Option Value)} {kV_weight_in dc_weight_in pm_weight_in cd_weight_in ct_weight_in : Value}
    (a_weight_in : PySem.W.nsIn K mainGlobals "weight_in" = some (some (.ref f_weight_in)))
    (l_weight_in : K.lookup f_weight_in = some ⟨oc_weight_in, od_weight_in, .func (PySem.W.fnOf "weight_in" "weight_in" (defArgs st_weight_in) (defBody st_weight_in) (defScope st_weight_in) .none kV_weight_in dc_weight_in pm_weight_in an_weight_in cd_weight_in ct_weight_in), sl_weight_in⟩)
    (c_weight_in : PySem.W.codeIn K cd_weight_in "weight_in" = true)
    (k_weight_in : PySem.W.keepIn K (.ref f_weight_in) = true)
    {f_cap_in : Addr} {oc_cap_in : Value} {od_cap_in an_cap_in : Option Addr} {sl_cap_in : Array (Option Value)} {kV_cap_in dc_cap_in pm_cap_in cd_cap_in ct_cap_in : Value}
    (a_cap_in : PySem.W.nsIn K mainGlobals "cap_in" = some (some (.ref f_cap_in)))
    (l_cap_in : K.lookup f_cap_in = some ⟨oc_cap_in, od_cap_in, .func (PySem.W.fnOf "cap_in" "cap_in" (defArgs st_cap_in) (defBody st_cap_in) (defScope st_cap_in) .none kV_cap_in dc_cap_in pm_cap_in an_cap_in cd_cap_in ct_cap_in), sl_cap_in⟩)
    (c_cap_in : PySem.W.codeIn K cd_cap_in "cap_in" = true)
    (k_cap_in : PySem.W.keepIn K (.ref f_cap_in) = true)
    {f_Ledger___init__ : Addr} {oc_Ledger___init__ : Value} {od_Ledger___init__ an_Ledger___init__ : Option Addr} {sl_Ledger___init__ : Array (Option Value)} {kV_Ledger___init__ dc_Ledger___init__ pm_Ledger___init__ cd_Ledger___init__ ct_Ledger___init__ : Value}
    {f_Ledger_read : Addr} {oc_Ledger_read : Value} {od_Ledger_read an_Ledger_read : Option Addr} {sl_Ledger_read : Array (Option Value)} {kV_Ledger_read dc_Ledger_read pm_Ledger_read cd_Ledger_read ct_Ledger_read : Value}
    {f_Ledger___eq__ : Addr} {oc_Ledger___eq__ : Value} {od_Ledger___eq__ an_Ledger___eq__ : Option Addr} {sl_Ledger___eq__ : Array (Option Value)} {kV_Ledger___eq__ dc_Ledger___eq__ pm_Ledger___eq__ cd_Ledger___eq__ ct_Ledger___eq__ : Value}
    {f_Ledger___str__ : Addr} {oc_Ledger___str__ : Value} {od_Ledger___str__ an_Ledger___str__ : Option Addr} {sl_Ledger___str__ : Array (Option Value)} {kV_Ledger___str__ dc_Ledger___str__ pm_Ledger___str__ cd_Ledger___str__ ct_Ledger___str__ : Value}
    {f__law_pen : Addr} {oc__law_pen : Value} {od__law_pen an__law_pen : Option Addr} {sl__law_pen : Array (Option Value)} {kV__law_pen dc__law_pen pm__law_pen cd__law_pen ct__law_pen : Value}
    (a__law_pen : PySem.W.nsIn K mainGlobals "_law_pen" = some (some (.ref f__law_pen)))
    (l__law_pen : K.lookup f__law_pen = some ⟨oc__law_pen, od__law_pen, .func (PySem.W.fnOf "_law_pen" "_law_pen" (defArgs st__law_pen) (defBody st__law_pen) (defScope st__law_pen) .none kV__law_pen dc__law_pen pm__law_pen an__law_pen cd__law_pen ct__law_pen), sl__law_pen⟩)
    (c__law_pen : PySem.W.codeIn K cd__law_pen "_law_pen" = true)
    (k__law_pen : PySem.W.keepIn K (.ref f__law_pen) = true)
    {f__law_draw : Addr} {oc__law_draw : Value} {od__law_draw an__law_draw : Option Addr} {sl__law_draw : Array (Option Value)} {kV__law_draw dc__law_draw pm__law_draw cd__law_draw ct__law_draw : Value}
    (a__law_draw : PySem.W.nsIn K mainGlobals "_law_draw" = some (some (.ref f__law_draw)))
    (l__law_draw : K.lookup f__law_draw = some ⟨oc__law_draw, od__law_draw, .func (PySem.W.fnOf "_law_draw" "_law_draw" (defArgs st__law_draw) (defBody st__law_draw) (defScope st__law_draw) .none kV__law_draw dc__law_draw pm__law_draw an__law_draw cd__law_draw ct__law_draw), sl__law_draw⟩)
    (c__law_draw : PySem.W.codeIn K cd__law_draw "_law_draw" = true)
    (k__law_draw : PySem.W.keepIn K (.ref f__law_draw) = true)
    {f__law_pick : Addr} {oc__law_pick : Value} {od__law_pick an__law_pick : Option Addr} {sl__law_pick : Array (Option Value)} {kV__law_pick dc__law_pick pm__law_pick cd__law_pick ct__law_pick : Value}
    (a__law_pick : PySem.W.nsIn K mainGlobals "_law_pick" = some (some (.ref f__law_pick)))
    (l__law_pick : K.lookup f__law_pick = some ⟨oc__law_pick, od__law_pick, .func (PySem.W.fnOf "_law_pick" "_law_pick" (defArgs st__law_pick) (defBody st__law_pick) (defScope st__law_pick) .none kV__law_pick dc__law_pick pm__law_pick an__law_pick cd__law_pick ct__law_pick), sl__law_pick⟩)
    (c__law_pick : PySem.W.codeIn K cd__law_pick "_law_pick" = true)
    (k__law_pick : PySem.W.keepIn K (.ref f__law_pick) = true)
    {f__law_text : Addr} {oc__law_text : Value} {od__law_text an__law_text : Option Addr} {sl__law_text : Array (Option Value)} {kV__law_text dc__law_text pm__law_text cd__law_text ct__law_text : Value}
    (a__law_text : PySem.W.nsIn K mainGlobals "_law_text" = some (some (.ref f__law_text)))
    (l__law_text : K.lookup f__law_text = some ⟨oc__law_text, od__law_text, .func (PySem.W.fnOf "_law_text" "_law_text" (defArgs st__law_text) (defBody st__law_text) (defScope st__law_text) .none kV__law_text dc__law_text pm__law_text an__law_text cd__law_text ct__law_text), sl__law_text⟩)
    (c__law_text : PySem.W.codeIn K cd__law_text "_law_text" = true)
    (k__law_text : PySem.W.keepIn K (.ref f__law_text) = true)
    {f__law_is_tag : Addr} {oc__law_is_tag : Value} {od__law_is_tag an__law_is_tag : Option Addr} {sl__law_is_tag : Array (Option Value)} {kV__law_is_tag dc__law_is_tag pm__law_is_tag cd__law_is_tag ct__law_is_tag : Value}
    (a__law_is_tag : PySem.W.nsIn K mainGlobals "_law_is_tag" = some (some (.ref f__law_is_tag)))
    (l__law_is_tag : K.lookup f__law_is_tag = some ⟨oc__law_is_tag, od__law_is_tag, .func (PySem.W.fnOf "_law_is_tag" "_law_is_tag" (defArgs st__law_is_tag) (defBody st__law_is_tag) (defScope st__law_is_tag) .none kV__law_is_tag dc__law_is_tag pm__law_is_tag an__law_is_tag cd__law_is_tag ct__law_is_tag), sl__law_is_tag⟩)
    (c__law_is_tag : PySem.W.codeIn K cd__law_is_tag "_law_is_tag" = true)
    (k__law_is_tag : PySem.W.keepIn K (.ref f__law_is_tag) = true)
    {f__law_is_number : Addr} {oc__law_is_number : Value} {od__law_is_number an__law_is_number : Option Addr} {sl__law_is_number : Array (Option Value)} {kV__law_is_number dc__law_is_number pm__law_is_number cd__law_is_number ct__law_is_number : Value}
    (a__law_is_number : PySem.W.nsIn K mainGlobals "_law_is_number" = some (some (.ref f__law_is_number)))
    (l__law_is_number : K.lookup f__law_is_number = some ⟨oc__law_is_number, od__law_is_number, .func (PySem.W.fnOf "_law_is_number" "_law_is_number" (defArgs st__law_is_number) (defBody st__law_is_number) (defScope st__law_is_number) .none kV__law_is_number dc__law_is_number pm__law_is_number an__law_is_number cd__law_is_number ct__law_is_number), sl__law_is_number⟩)
    (c__law_is_number : PySem.W.codeIn K cd__law_is_number "_law_is_number" = true)
    (k__law_is_number : PySem.W.keepIn K (.ref f__law_is_number) = true)
    {f__law_row_wrong : Addr} {oc__law_row_wrong : Value} {od__law_row_wrong an__law_row_wrong : Option Addr} {sl__law_row_wrong : Array (Option Value)} {kV__law_row_wrong dc__law_row_wrong pm__law_row_wrong cd__law_row_wrong ct__law_row_wrong : Value}
    (a__law_row_wrong : PySem.W.nsIn K mainGlobals "_law_row_wrong" = some (some (.ref f__law_row_wrong)))
    (l__law_row_wrong : K.lookup f__law_row_wrong = some ⟨oc__law_row_wrong, od__law_row_wrong, .func (PySem.W.fnOf "_law_row_wrong" "_law_row_wrong" (defArgs st__law_row_wrong) (defBody st__law_row_wrong) (defScope st__law_row_wrong) .none kV__law_row_wrong dc__law_row_wrong pm__law_row_wrong an__law_row_wrong cd__law_row_wrong ct__law_row_wrong), sl__law_row_wrong⟩)
    (c__law_row_wrong : PySem.W.codeIn K cd__law_row_wrong "_law_row_wrong" = true)
    (k__law_row_wrong : PySem.W.keepIn K (.ref f__law_row_wrong) = true)
    {f__law_cap_wrong : Addr} {oc__law_cap_wrong : Value} {od__law_cap_wrong an__law_cap_wrong : Option Addr} {sl__law_cap_wrong : Array (Option Value)} {kV__law_cap_wrong dc__law_cap_wrong pm__law_cap_wrong cd__law_cap_wrong ct__law_cap_wrong : Value}
    (a__law_cap_wrong : PySem.W.nsIn K mainGlobals "_law_cap_wrong" = some (some (.ref f__law_cap_wrong)))
    (l__law_cap_wrong : K.lookup f__law_cap_wrong = some ⟨oc__law_cap_wrong, od__law_cap_wrong, .func (PySem.W.fnOf "_law_cap_wrong" "_law_cap_wrong" (defArgs st__law_cap_wrong) (defBody st__law_cap_wrong) (defScope st__law_cap_wrong) .none kV__law_cap_wrong dc__law_cap_wrong pm__law_cap_wrong an__law_cap_wrong cd__law_cap_wrong ct__law_cap_wrong), sl__law_cap_wrong⟩)
    (c__law_cap_wrong : PySem.W.codeIn K cd__law_cap_wrong "_law_cap_wrong" = true)
    (k__law_cap_wrong : PySem.W.keepIn K (.ref f__law_cap_wrong) = true)
    {f__law_wrong : Addr} {oc__law_wrong : Value} {od__law_wrong an__law_wrong : Option Addr} {sl__law_wrong : Array (Option Value)} {kV__law_wrong dc__law_wrong pm__law_wrong cd__law_wrong ct__law_wrong : Value}
    (a__law_wrong : PySem.W.nsIn K mainGlobals "_law_wrong" = some (some (.ref f__law_wrong)))
    (l__law_wrong : K.lookup f__law_wrong = some ⟨oc__law_wrong, od__law_wrong, .func (PySem.W.fnOf "_law_wrong" "_law_wrong" (defArgs st__law_wrong) (defBody st__law_wrong) (defScope st__law_wrong) .none kV__law_wrong dc__law_wrong pm__law_wrong an__law_wrong cd__law_wrong ct__law_wrong), sl__law_wrong⟩)
    (c__law_wrong : PySem.W.codeIn K cd__law_wrong "_law_wrong" = true)
    (k__law_wrong : PySem.W.keepIn K (.ref f__law_wrong) = true)
    {f__law_right : Addr} {oc__law_right : Value} {od__law_right an__law_right : Option Addr} {sl__law_right : Array (Option Value)} {kV__law_right dc__law_right pm__law_right cd__law_right ct__law_right : Value}
    (a__law_right : PySem.W.nsIn K mainGlobals "_law_right" = some (some (.ref f__law_right)))
    (l__law_right : K.lookup f__law_right = some ⟨oc__law_right, od__law_right, .func (PySem.W.fnOf "_law_right" "_law_right" (defArgs st__law_right) (defBody st__law_right) (defScope st__law_right) .none kV__law_right dc__law_right pm__law_right an__law_right cd__law_right ct__law_right), sl__law_right⟩)
    (c__law_right : PySem.W.codeIn K cd__law_right "_law_right" = true)
    (k__law_right : PySem.W.keepIn K (.ref f__law_right) = true)
    {f__law_bent : Addr} {oc__law_bent : Value} {od__law_bent an__law_bent : Option Addr} {sl__law_bent : Array (Option Value)} {kV__law_bent dc__law_bent pm__law_bent cd__law_bent ct__law_bent : Value}
    (a__law_bent : PySem.W.nsIn K mainGlobals "_law_bent" = some (some (.ref f__law_bent)))
    (l__law_bent : K.lookup f__law_bent = some ⟨oc__law_bent, od__law_bent, .func (PySem.W.fnOf "_law_bent" "_law_bent" (defArgs st__law_bent) (defBody st__law_bent) (defScope st__law_bent) .none kV__law_bent dc__law_bent pm__law_bent an__law_bent cd__law_bent ct__law_bent), sl__law_bent⟩)
    (c__law_bent : PySem.W.codeIn K cd__law_bent "_law_bent" = true)
    (k__law_bent : PySem.W.keepIn K (.ref f__law_bent) = true)
    {f__law_weights : Addr} {oc__law_weights : Value} {od__law_weights an__law_weights : Option Addr} {sl__law_weights : Array (Option Value)} {kV__law_weights dc__law_weights pm__law_weights cd__law_weights ct__law_weights : Value}
    (a__law_weights : PySem.W.nsIn K mainGlobals "_law_weights" = some (some (.ref f__law_weights)))
    (l__law_weights : K.lookup f__law_weights = some ⟨oc__law_weights, od__law_weights, .func (PySem.W.fnOf "_law_weights" "_law_weights" (defArgs st__law_weights) (defBody st__law_weights) (defScope st__law_weights) .none kV__law_weights dc__law_weights pm__law_weights an__law_weights cd__law_weights ct__law_weights), sl__law_weights⟩)
    (c__law_weights : PySem.W.codeIn K cd__law_weights "_law_weights" = true)
    (k__law_weights : PySem.W.keepIn K (.ref f__law_weights) = true)
    {f_law : Addr} {oc_law : Value} {od_law an_law : Option Addr} {sl_law : Array (Option Value)} {kV_law dc_law pm_law cd_law ct_law : Value}
    (a_law : PySem.W.nsIn K mainGlobals "law" = some (some (.ref f_law)))
    (l_law : K.lookup f_law = some ⟨oc_law, od_law, .func (PySem.W.fnOf "law" "law" (defArgs st_law) (defBody st_law) (defScope st_law) .none kV_law dc_law pm_law an_law cd_law ct_law), sl_law⟩)
    (c_law : PySem.W.codeIn K cd_law "law" = true)
    (k_law : PySem.W.keepIn K (.ref f_law) = true)
    (u_abs : PySem.W.nsIn K mainGlobals "abs" = some none)
    (u_all : PySem.W.nsIn K mainGlobals "all" = some none)
    (u_bool : PySem.W.nsIn K mainGlobals "bool" = some none)
    (u_dict : PySem.W.nsIn K mainGlobals "dict" = some none)
    (u_int : PySem.W.nsIn K mainGlobals "int" = some none)
    (u_isinstance : PySem.W.nsIn K mainGlobals "isinstance" = some none)
    (u_len : PySem.W.nsIn K mainGlobals "len" = some none)
    (u_list : PySem.W.nsIn K mainGlobals "list" = some none)
    (u_min : PySem.W.nsIn K mainGlobals "min" = some none)
    (u_range : PySem.W.nsIn K mainGlobals "range" = some none)
    (u_repr : PySem.W.nsIn K mainGlobals "repr" = some none)
    (u_sorted : PySem.W.nsIn K mainGlobals "sorted" = some none)
    (u_str : PySem.W.nsIn K mainGlobals "str" = some none)
    (u_tuple : PySem.W.nsIn K mainGlobals "tuple" = some none)
    {t_LETTERS : Tok}
    (g_LETTERS : PySem.W.nsIn K mainGlobals "LETTERS" = some (some (.str (PySem.Str.ofString "abcdefghijklmnopqrstuvwxyz") t_LETTERS)))
    {t_MOST_CAP : Tok}
    (g_MOST_CAP : PySem.W.nsIn K mainGlobals "MOST_CAP" = some (some (.int 10000000000 t_MOST_CAP)))
    {t_MOST_ISLES : Tok}
    (g_MOST_ISLES : PySem.W.nsIn K mainGlobals "MOST_ISLES" = some (some (.int 8 t_MOST_ISLES)))
    {t_MOST_LETTERS : Tok}
    (g_MOST_LETTERS : PySem.W.nsIn K mainGlobals "MOST_LETTERS" = some (some (.int 8 t_MOST_LETTERS)))
    {t_MOST_WEIGHT : Tok}
    (g_MOST_WEIGHT : PySem.W.nsIn K mainGlobals "MOST_WEIGHT" = some (some (.int 1000000000 t_MOST_WEIGHT)))
    {t_NONE : Tok}
    (g_NONE : PySem.W.nsIn K mainGlobals "NONE" = some (some (.str (PySem.Str.ofString "-") t_NONE)))
    {t_SHORE : Tok}
    (g_SHORE : PySem.W.nsIn K mainGlobals "SHORE" = some (some (.str (PySem.Str.ofString "shore") t_SHORE)))
    {C CL CD fI cda cc pR : Addr} {nmE qE : Str} {NE : Addr} {bsE : List Value} {bmE : List Value} {snE : List Str} {subE : List Value} {abE : Bool} {colE : Option Bool} {ddE : Option Addr} {m0 m1 m2 m3 m5 : Option Value} {ocE dcE pmE ctE clE cclE : Value} {odE anE cldE cddE : Option Addr} {slE cslE ccsE : Array (Option Value)} {vsE : Array Value} {fileE : Str} {tfE : Tok} {restR : List Value}
    (e_g : PySem.W.nsIn K mainGlobals "InvalidText" = some (some (.ref C)))
    (e_l : K.lookup C = some (excClassObj nmE qE C NE bsE bmE true snE subE abE colE ddE m0 m1 m2 m3 m5 "ValueError.__new__"))
    (e_k : PySem.W.keepIn K (.ref C) = true)
    (e_sa : PySem.W.findIn K (.ref C) "__setattr__" = some (some (.builtin "object.__setattr__")))
    (e_ga : PySem.W.findIn K (.ref C) "__getattribute__" = some (some (.builtin "BaseException.__getattribute__")))
    (e_gg : PySem.W.findIn K (.ref C) "__getattr__" = some none)
    (e_f_row : PySem.W.findIn K (.ref C) "row" = some none)
    (e_f_word : PySem.W.findIn K (.ref C) "word" = some none)
    (e_ex : PySem.W.subIn K (.ref C) (.type "BaseException") = some true)
    (e_v : PySem.W.subIn K (.ref C) (.type "ValueError") = some true)
    (e_m : PySem.W.mroIn K C (.ref C) = some true)
    (e_t : PySem.W.typeIn K (.ref C) = some (.type "type"))
    (e_h : PySem.W.hasDictIn K C = true)
    (e_ic : PySem.W.isClsIn K C = true)
    (e_sc : PySem.W.subIn K (.ref C) (.ref C) = some true)
    (e_o : PySem.W.nsIn K PySem.cStatics "thirdparty.any" = some none)
    (e_ns : PySem.W.nsIn K mainGlobals "super" = some none)
    (e_i : PySem.W.findIn K (.ref C) "__init__" = some (some (.ref fI)))
    (e_ti : PySem.W.typeIn K (.ref fI) = some (.type "function"))
    (e_fn : K.lookup fI = some ⟨ocE, odE, .func (PySem.W.ksFn "__init__" "InvalidText.__init__" (VX.iA ⟨14, 17, 14, 21⟩ [(("row" : Str), (⟨14, 23, 14, 26⟩ : Pos)), (("word" : Str), (⟨14, 28, 14, 32⟩ : Pos))]) (VX.sup (PySem.Str.ofString "not written as it must be") ⟨15, 8, 15, 13⟩ ⟨15, 8, 15, 15⟩ ⟨15, 8, 15, 24⟩ ⟨15, 25, 15, 52⟩ ⟨15, 8, 15, 53⟩ ⟨15, 8, 15, 53⟩ :: [.Assign [.Attribute (.Name "self" ⟨16, 8, 16, 12⟩) "row" ⟨16, 8, 16, 16⟩] (.Name "row" ⟨16, 19, 16, 22⟩) ⟨16, 8, 16, 22⟩, .Assign [.Attribute (.Name "self" ⟨17, 8, 17, 12⟩) "word" ⟨17, 8, 17, 17⟩] (.Name "word" ⟨17, 20, 17, 24⟩) ⟨17, 8, 17, 24⟩]) (VX.iS [("row" : Str), ("word" : Str)]) .none .none dcE pmE anE (.ref cda) ctE cc), slE⟩)
    (e_co : PySem.W.codeIn K (.ref cda) "InvalidText.__init__" = true)
    (e_cc : K.lookup cc = some ⟨clE, cldE, .cell (some (.ref C)), cslE⟩)
    (e_ca : K.lookup cda = some ⟨cclE, cddE, .fields vsE, ccsE⟩)
    (e_vs : vsE[2]? = some (.str fileE tfE))
    (e_fi : ((P.main.file : Str) == fileE) = true)
    (e_su : PySem.W.ks_superIn K C C "__init__" = some (some (.builtin "ValueError.__init__")))
    (e_bm : PySem.HandSPX.refsVE bmE = true)
    (e_ha : PySem.W.findIn K (.ref C) "__class__" = some (some (.builtin "object.__class__")))
    (e_hm : PySem.W.mroIn K C (.type "object") = some true)
    (o_hn : PySem.W.specialIn K (.builtin "object.__class__") "__get__" = some (some (.builtin "getset_descriptor.__get__")))
    (o_tk : PySem.W.takesIn K (.builtin "object.__class__") = some true)
    (d_g : PySem.W.nsIn K mainGlobals "DuskError" = some (some (.ref CD)))
    (d_ex : PySem.W.subIn K (.ref CD) (.type "BaseException") = some true)
    (d_h : PySem.W.hasDictIn K CD = true)
    (d_t : PySem.W.typeIn K (.ref CD) = some (.type "type"))
    (d_s : PySem.W.subIn K (.ref C) (.ref CD) = some true)
    (k_g : PySem.W.nsIn K mainGlobals "Ledger" = some (some (.ref CL)))
    (k_pg : PySem.W.plainGet K CL Str.empty = true)
    (k_hd : PySem.W.hasDictIn K CL = true)
    (k_po : PySem.W.plainOver K CL = true)
    (k_sa : PySem.W.findIn K (.ref CL) "__setattr__" = some (some (.builtin "object.__setattr__")))
    (k_f_entries : PySem.W.findIn K (.ref CL) "entries" = some none)
    (k_f_limits : PySem.W.findIn K (.ref CL) "limits" = some none)
    (k_ha : PySem.W.findIn K (.ref CL) "__class__" = some (some (.builtin "object.__class__")))
    (k_hm : PySem.W.mroIn K CL (.type "object") = some true)
    (k_ns : PySem.W.kitOne K (.ref CL) (.type "str") = some false)
    (k_mk : PySem.W.makesIn K CL = true)
    (k_kp : PySem.W.keepIn K (.ref CL) = true)
    (k_rd : PySem.W.readsIn K CL (.type "type") = true)
    (k_rg : PySem.W.specialIn K (.ref CL) "__getattribute__" = some (some (.builtin "type.__getattribute__")))
    (k_ne : PySem.W.findIn K (.ref CL) "__ne__" = some (some (.builtin "object.__ne__")))
    (a_Ledger___init__ : PySem.W.findIn K (.ref CL) "__init__" = some (some (.ref f_Ledger___init__)))
    (i_Ledger___init__ : PySem.W.isFn K (.ref f_Ledger___init__) = true)
    (l_Ledger___init__ : K.lookup f_Ledger___init__ = some ⟨oc_Ledger___init__, od_Ledger___init__, .func (PySem.W.fnOf "__init__" "Ledger.__init__" (defArgs st_Ledger___init__) (defBody st_Ledger___init__) (defScope st_Ledger___init__) .none kV_Ledger___init__ dc_Ledger___init__ pm_Ledger___init__ an_Ledger___init__ cd_Ledger___init__ ct_Ledger___init__), sl_Ledger___init__⟩)
    (c_Ledger___init__ : PySem.W.codeIn K cd_Ledger___init__ "Ledger.__init__" = true)
    (k_Ledger___init__ : PySem.W.keepIn K (.ref f_Ledger___init__) = true)
    (a_Ledger_read : PySem.W.findCls K (.ref CL) (.type "type") "read" = some (.get (.builtin "classmethod.__get__") (.ref pR) .none (.ref CL)))
    (r_Ledger_read : PySem.W.recIn K pR "classmethod" = some (.ref f_Ledger_read :: restR))
    (i_Ledger_read : PySem.W.fnIn K f_Ledger_read = true)
    (l_Ledger_read : K.lookup f_Ledger_read = some ⟨oc_Ledger_read, od_Ledger_read, .func (PySem.W.fnOf "read" "Ledger.read" (defArgs st_Ledger_read) (defBody st_Ledger_read) (defScope st_Ledger_read) .none kV_Ledger_read dc_Ledger_read pm_Ledger_read an_Ledger_read cd_Ledger_read ct_Ledger_read), sl_Ledger_read⟩)
    (c_Ledger_read : PySem.W.codeIn K cd_Ledger_read "Ledger.read" = true)
    (k_Ledger_read : PySem.W.keepIn K (.ref f_Ledger_read) = true)
    (a_Ledger___eq__ : PySem.W.findIn K (.ref CL) "__eq__" = some (some (.ref f_Ledger___eq__)))
    (i_Ledger___eq__ : PySem.W.isFn K (.ref f_Ledger___eq__) = true)
    (l_Ledger___eq__ : K.lookup f_Ledger___eq__ = some ⟨oc_Ledger___eq__, od_Ledger___eq__, .func (PySem.W.fnOf "__eq__" "Ledger.__eq__" (defArgs st_Ledger___eq__) (defBody st_Ledger___eq__) (defScope st_Ledger___eq__) .none kV_Ledger___eq__ dc_Ledger___eq__ pm_Ledger___eq__ an_Ledger___eq__ cd_Ledger___eq__ ct_Ledger___eq__), sl_Ledger___eq__⟩)
    (c_Ledger___eq__ : PySem.W.codeIn K cd_Ledger___eq__ "Ledger.__eq__" = true)
    (k_Ledger___eq__ : PySem.W.keepIn K (.ref f_Ledger___eq__) = true)
    (a_Ledger___str__ : PySem.W.findIn K (.ref CL) "__str__" = some (some (.ref f_Ledger___str__)))
    (i_Ledger___str__ : PySem.W.isFn K (.ref f_Ledger___str__) = true)
    (l_Ledger___str__ : K.lookup f_Ledger___str__ = some ⟨oc_Ledger___str__, od_Ledger___str__, .func (PySem.W.fnOf "__str__" "Ledger.__str__" (defArgs st_Ledger___str__) (defBody st_Ledger___str__) (defScope st_Ledger___str__) .none kV_Ledger___str__ dc_Ledger___str__ pm_Ledger___str__ an_Ledger___str__ cd_Ledger___str__ ct_Ledger___str__), sl_Ledger___str__⟩)
    (c_Ledger___str__ : PySem.W.codeIn K cd_Ledger___str__ "Ledger.__str__" = true)
    (k_Ledger___str__ : PySem.W.keepIn K (.ref f_Ledger___str__) = true)
    : ∃ (fd : FuncData) (G : Gd), G.K = K ∧ G.T = [] ∧ (∀ (s : Shared) (u : Value), BindsTo s fd ⟨[u], []⟩ [(("script" : Str), u)]) ∧
      ∀ base : Heap, K.In base → base.Ns mainGlobals mg → FnV P w K mg base 8 fa fd [("script" : Str)] (spV G 1 d_law) := by
  have e0 := hfa.symm.trans (PySem.W.mg_of X NS a_law)
  cases e0
  have tx : VX.Txt P K mg "InvalidText" C [("row" : Str), ("word" : Str)] := by
    refine { gC := PySem.W.mg_of X NS e_g, kC := e_k, cls := ⟨nmE, qE, NE, bsE, bmE, snE, subE, abE, colE, ddE, m0, m1, m2, m3, m5, e_l, e_bm⟩, sa := e_sa, noF := ?_, exC := e_ex, subV := e_v, mroC := e_m, tyC := e_t, hdC := e_h, sup := e_su, opq := e_o, noS := PySem.W.mg_none_of X NS e_ns, top := tp, fld := by decide +kernel, nd := by decide +kernel, scS := by decide +kernel, scC := by decide +kernel, fn := ?_ }
    · intro f hf
      simp only [List.mem_cons, List.not_mem_nil, or_false] at hf
      rcases hf with rfl | rfl
      · exact e_f_row
      · exact e_f_word
    · exact ⟨fI, cda, cc, ocE, odE, _, dcE, pmE, anE, ctE, slE, _, _, _, _, _, _, _, _, _, _, clE, cldE, cslE, cclE, cddE, vsE, ccsE, fileE, tfE, fun s us hl => (match us, hl with | [_, _, _], _ => .of_eq rfl), fun env => ⟨_, rfl⟩, rfl, .cons (.cons (.nil)), e_i, e_ti, e_fn, e_co, e_cc, e_ca, e_vs, e_fi⟩
  have el : [("row" : Str), ("word" : Str)] = (T.s [114, 111, 119] :: ([[119, 111, 114, 100]] : List T).map T.s) := by
    show [(PySem.Str.ofString "row"), (PySem.Str.ofString "word")] = [T.s [114, 111, 119], T.s [119, 111, 114, 100]]
    rw [lit16, lit17]
  rw [el] at tx
  let G : Gd := ⟨K, fun n => match n with | 0 => C | 1 => CL | _ => CD, []⟩
  have cl : Cls K CL := ⟨k_pg, k_hd, k_po, k_sa⟩
  have kd : ClsD mg G "Ledger" 1 [("entries" : Str), ("limits" : Str)] := by
    refine ⟨PySem.W.mg_of X NS k_g, cl, fun f hf => ?_, ⟨cl, k_ha, o_hn, o_tk, k_hm, kit_self⟩, k_ns⟩
    simp only [List.mem_cons, List.not_mem_nil, or_false] at hf
    rcases hf with rfl | rfl
    · exact k_f_entries
    · exact k_f_limits
  have B : Bnds P mg G := ⟨PySem.W.mg_none_of X NS u_abs, PySem.W.mg_none_of X NS u_all, PySem.W.mg_none_of X NS u_bool, PySem.W.mg_none_of X NS u_dict, PySem.W.mg_none_of X NS u_int, PySem.W.mg_none_of X NS u_isinstance, PySem.W.mg_none_of X NS u_len, PySem.W.mg_none_of X NS u_list, PySem.W.mg_none_of X NS u_min, PySem.W.mg_none_of X NS u_range, PySem.W.mg_none_of X NS u_repr, PySem.W.mg_none_of X NS u_sorted, PySem.W.mg_none_of X NS u_str, PySem.W.mg_none_of X NS u_tuple, ⟨_, PySem.W.mg_of X NS g_LETTERS, ⟨t_LETTERS, rfl⟩⟩, ⟨_, PySem.W.mg_of X NS g_MOST_CAP, ⟨t_MOST_CAP, rfl⟩⟩, ⟨_, PySem.W.mg_of X NS g_MOST_ISLES, ⟨t_MOST_ISLES, rfl⟩⟩, ⟨_, PySem.W.mg_of X NS g_MOST_LETTERS, ⟨t_MOST_LETTERS, rfl⟩⟩, ⟨_, PySem.W.mg_of X NS g_MOST_WEIGHT, ⟨t_MOST_WEIGHT, rfl⟩⟩, ⟨_, PySem.W.mg_of X NS g_NONE, ⟨t_NONE, rfl⟩⟩, ⟨_, PySem.W.mg_of X NS g_SHORE, ⟨t_SHORE, rfl⟩⟩, tx, ⟨⟨e_ga, e_gg, e_ex, e_h⟩, e_ha, o_hn, o_tk, e_hm, e_ic, kit_self⟩, e_f_row, e_f_word, PySem.W.exm_ref e_ex e_h e_t e_sc, PySem.W.mg_of X NS d_g, PySem.W.exm_ref d_ex d_h d_t d_s, kd⟩
  have F_is_integer : Fun G.K "is_integer" "is_integer" st_is_integer _ _ := fun_mk (st := st_is_integer) l_is_integer c_is_integer k_is_integer
  have F_is_name : Fun G.K "is_name" "is_name" st_is_name _ _ := fun_mk (st := st_is_name) l_is_name c_is_name k_is_name
  have F_is_own_name : Fun G.K "is_own_name" "is_own_name" st_is_own_name _ _ := fun_mk (st := st_is_own_name) l_is_own_name c_is_own_name k_is_own_name
  have F_is_between : Fun G.K "is_between" "is_between" st_is_between _ _ := fun_mk (st := st_is_between) l_is_between c_is_between k_is_between
  have F_is_cap : Fun G.K "is_cap" "is_cap" st_is_cap _ _ := fun_mk (st := st_is_cap) l_is_cap c_is_cap k_is_cap
  have F_are_weights : Fun G.K "are_weights" "are_weights" st_are_weights _ _ := fun_mk (st := st_are_weights) l_are_weights c_are_weights k_are_weights
  have F_number_in : Fun G.K "number_in" "number_in" st_number_in _ _ := fun_mk (st := st_number_in) l_number_in c_number_in k_number_in
  have F_refuse : Fun G.K "refuse" "refuse" st_refuse _ _ := fun_mk (st := st_refuse) l_refuse c_refuse k_refuse
  have F_need_size : Fun G.K "need_size" "need_size" st_need_size _ _ := fun_mk (st := st_need_size) l_need_size c_need_size k_need_size
  have F_weight_in : Fun G.K "weight_in" "weight_in" st_weight_in _ _ := fun_mk (st := st_weight_in) l_weight_in c_weight_in k_weight_in
  have F_cap_in : Fun G.K "cap_in" "cap_in" st_cap_in _ _ := fun_mk (st := st_cap_in) l_cap_in c_cap_in k_cap_in
  have F_Ledger___init__ : Fun G.K "__init__" "Ledger.__init__" st_Ledger___init__ _ _ := fun_mk (st := st_Ledger___init__) l_Ledger___init__ c_Ledger___init__ k_Ledger___init__
  have F_Ledger_read : Fun G.K "read" "Ledger.read" st_Ledger_read _ _ := fun_mk (st := st_Ledger_read) l_Ledger_read c_Ledger_read k_Ledger_read
  have F_Ledger___eq__ : Fun G.K "__eq__" "Ledger.__eq__" st_Ledger___eq__ _ _ := fun_mk (st := st_Ledger___eq__) l_Ledger___eq__ c_Ledger___eq__ k_Ledger___eq__
  have F_Ledger___str__ : Fun G.K "__str__" "Ledger.__str__" st_Ledger___str__ _ _ := fun_mk (st := st_Ledger___str__) l_Ledger___str__ c_Ledger___str__ k_Ledger___str__
  have F__law_pen : Fun G.K "_law_pen" "_law_pen" st__law_pen _ _ := fun_mk (st := st__law_pen) l__law_pen c__law_pen k__law_pen
  have F__law_draw : Fun G.K "_law_draw" "_law_draw" st__law_draw _ _ := fun_mk (st := st__law_draw) l__law_draw c__law_draw k__law_draw
  have F__law_pick : Fun G.K "_law_pick" "_law_pick" st__law_pick _ _ := fun_mk (st := st__law_pick) l__law_pick c__law_pick k__law_pick
  have F__law_text : Fun G.K "_law_text" "_law_text" st__law_text _ _ := fun_mk (st := st__law_text) l__law_text c__law_text k__law_text
  have F__law_is_tag : Fun G.K "_law_is_tag" "_law_is_tag" st__law_is_tag _ _ := fun_mk (st := st__law_is_tag) l__law_is_tag c__law_is_tag k__law_is_tag
  have F__law_is_number : Fun G.K "_law_is_number" "_law_is_number" st__law_is_number _ _ := fun_mk (st := st__law_is_number) l__law_is_number c__law_is_number k__law_is_number
  have F__law_row_wrong : Fun G.K "_law_row_wrong" "_law_row_wrong" st__law_row_wrong _ _ := fun_mk (st := st__law_row_wrong) l__law_row_wrong c__law_row_wrong k__law_row_wrong
  have F__law_cap_wrong : Fun G.K "_law_cap_wrong" "_law_cap_wrong" st__law_cap_wrong _ _ := fun_mk (st := st__law_cap_wrong) l__law_cap_wrong c__law_cap_wrong k__law_cap_wrong
  have F__law_wrong : Fun G.K "_law_wrong" "_law_wrong" st__law_wrong _ _ := fun_mk (st := st__law_wrong) l__law_wrong c__law_wrong k__law_wrong
  have F__law_right : Fun G.K "_law_right" "_law_right" st__law_right _ _ := fun_mk (st := st__law_right) l__law_right c__law_right k__law_right
  have F__law_bent : Fun G.K "_law_bent" "_law_bent" st__law_bent _ _ := fun_mk (st := st__law_bent) l__law_bent c__law_bent k__law_bent
  have F__law_weights : Fun G.K "_law_weights" "_law_weights" st__law_weights _ _ := fun_mk (st := st__law_weights) l__law_weights c__law_weights k__law_weights
  have F_law : Fun G.K "law" "law" st_law _ _ := fun_mk (st := st_law) l_law c_law k_law
  refine ⟨(PySem.W.fnOf "law" "law" (defArgs st_law) (defBody st_law) (defScope st_law) .none kV_law dc_law pm_law an_law cd_law ct_law), G, rfl, rfl, fun s u => .of_eq rfl, fun base Xb Nb => ?_⟩
  have D_is_integer := def_is_integer (P := P) (w := w) (mg := mg) (base := base) (G := G) B F_is_integer (PySem.W.mg_of X NS a_is_integer)
  have D_is_name := def_is_name (P := P) (w := w) (mg := mg) (base := base) (G := G) B F_is_name (PySem.W.mg_of X NS a_is_name)
  have D_is_own_name := def_is_own_name (P := P) (w := w) (mg := mg) (base := base) (G := G) B F_is_own_name (PySem.W.mg_of X NS a_is_own_name) D_is_name
  have D_is_between := def_is_between (P := P) (w := w) (mg := mg) (base := base) (G := G) B F_is_between (PySem.W.mg_of X NS a_is_between) D_is_integer
  have D_is_cap := def_is_cap (P := P) (w := w) (mg := mg) (base := base) (G := G) B F_is_cap (PySem.W.mg_of X NS a_is_cap) D_is_between
  have D_are_weights := def_are_weights (P := P) (w := w) (mg := mg) (base := base) (G := G) B F_are_weights (PySem.W.mg_of X NS a_are_weights) D_is_own_name D_is_between
  have D_number_in := def_number_in (P := P) (w := w) (mg := mg) (base := base) (G := G) B F_number_in (PySem.W.mg_of X NS a_number_in)
  have D_refuse := def_refuse (P := P) (w := w) (mg := mg) (base := base) (G := G) B F_refuse (PySem.W.mg_of X NS a_refuse)
  have D_need_size := def_need_size (P := P) (w := w) (mg := mg) (base := base) (G := G) B F_need_size (PySem.W.mg_of X NS a_need_size) D_refuse
  have D_weight_in := def_weight_in (P := P) (w := w) (mg := mg) (base := base) (G := G) B F_weight_in (PySem.W.mg_of X NS a_weight_in) D_is_own_name D_number_in D_refuse D_need_size
  have D_cap_in := def_cap_in (P := P) (w := w) (mg := mg) (base := base) (G := G) B F_cap_in (PySem.W.mg_of X NS a_cap_in) D_number_in D_refuse D_need_size
  have D_Ledger___init__ := def_Ledger___init__ (P := P) (w := w) (mg := mg) (base := base) (G := G) B F_Ledger___init__ ⟨k_mk, a_Ledger___init__, i_Ledger___init__, k_kp⟩ D_is_cap D_are_weights
  have D_Ledger_read := def_Ledger_read (P := P) (w := w) (mg := mg) (base := base) (G := G) B F_Ledger_read ⟨k_rd, k_rg⟩ ⟨a_Ledger_read, ⟨_, r_Ledger_read⟩, i_Ledger_read⟩ D_weight_in D_cap_in D_Ledger___init__
  have D_Ledger___eq__ := def_Ledger___eq__ (P := P) (w := w) (mg := mg) (base := base) (G := G) B F_Ledger___eq__ ⟨a_Ledger___eq__, i_Ledger___eq__, k_ne, k_hm⟩
  have D_Ledger___str__ := def_Ledger___str__ (P := P) (w := w) (mg := mg) (base := base) (G := G) B F_Ledger___str__ ⟨a_Ledger___str__, i_Ledger___str__⟩
  have D__law_pen := def__law_pen (P := P) (w := w) (mg := mg) (base := base) (G := G) B F__law_pen (PySem.W.mg_of X NS a__law_pen)
  have D__law_draw := def__law_draw (P := P) (w := w) (mg := mg) (base := base) (G := G) B F__law_draw (PySem.W.mg_of X NS a__law_draw)
  have D__law_pick := def__law_pick (P := P) (w := w) (mg := mg) (base := base) (G := G) B F__law_pick (PySem.W.mg_of X NS a__law_pick) D__law_draw
  have D__law_text := def__law_text (P := P) (w := w) (mg := mg) (base := base) (G := G) B F__law_text (PySem.W.mg_of X NS a__law_text)
  have D__law_is_tag := def__law_is_tag (P := P) (w := w) (mg := mg) (base := base) (G := G) B F__law_is_tag (PySem.W.mg_of X NS a__law_is_tag)
  have D__law_is_number := def__law_is_number (P := P) (w := w) (mg := mg) (base := base) (G := G) B F__law_is_number (PySem.W.mg_of X NS a__law_is_number)
  have D__law_row_wrong := def__law_row_wrong (P := P) (w := w) (mg := mg) (base := base) (G := G) B F__law_row_wrong (PySem.W.mg_of X NS a__law_row_wrong) D__law_is_tag D__law_is_number
  have D__law_cap_wrong := def__law_cap_wrong (P := P) (w := w) (mg := mg) (base := base) (G := G) B F__law_cap_wrong (PySem.W.mg_of X NS a__law_cap_wrong) D__law_is_number
  have D__law_wrong := def__law_wrong (P := P) (w := w) (mg := mg) (base := base) (G := G) B F__law_wrong (PySem.W.mg_of X NS a__law_wrong) D__law_row_wrong D__law_cap_wrong
  have D__law_right := def__law_right (P := P) (w := w) (mg := mg) (base := base) (G := G) B F__law_right (PySem.W.mg_of X NS a__law_right) D_Ledger_read D_Ledger___eq__ D_Ledger___str__ D__law_wrong
  have D__law_bent := def__law_bent (P := P) (w := w) (mg := mg) (base := base) (G := G) B F__law_bent (PySem.W.mg_of X NS a__law_bent) D__law_draw D__law_pick
  have D__law_weights := def__law_weights (P := P) (w := w) (mg := mg) (base := base) (G := G) B F__law_weights (PySem.W.mg_of X NS a__law_weights) D__law_draw D__law_pick
  exact ok_law B F_law D_Ledger___init__ D_Ledger_read D_Ledger___eq__ D_Ledger___str__ D__law_pen D__law_draw D__law_pick D__law_text D__law_wrong D__law_right D__law_bent D__law_weights
end K82
open PySem PySem.W PyProof.Rows in
set_option maxRecDepth 100000 in
set_option maxHeartbeats 0 in
theorem PySem.Challenge.cw_duskwishes_k82_texts_of_ledgers_holds : PySem.Challenge.rw_duskwishes_k82_texts_of_ledgers.Holds := by
  w_on; o_law; k_head; (case hw => w_witness2)
  k_fill
  refine VL.walk_of_ask (l := PySem.Challenge.rw_duskwishes_k82_texts_of_ledgers) (n := 63) (k := 8) (x := "script") rfl (by decide) (by kernel_rfl) ⟨rfl, by decide, by decide⟩ (fun w h Y => kIn_of Y) ?F
  intro w mg fa h Y KX G hmg
  obtain ⟨fd, Gd, h1, h2, h3, h4⟩ : ∃ (fd : FuncData) (G : VL.Gd), _ := by
    refine' K82.all_mk (P := (PySem.Challenge.rw_duskwishes_k82_texts_of_ledgers).prog) (w := w) KX G hmg ?tp ?a_is_integer ?l_is_integer ?c_is_integer ?k_is_integer ?a_is_name ?l_is_name ?c_is_name ?k_is_name ?a_is_own_name ?l_is_own_name ?c_is_own_name ?k_is_own_name ?a_is_between ?l_is_between ?c_is_between ?k_is_between ?a_is_cap ?l_is_cap ?c_is_cap ?k_is_cap ?a_are_weights ?l_are_weights ?c_are_weights ?k_are_weights ?a_number_in ?l_number_in ?c_number_in ?k_number_in ?a_refuse ?l_refuse ?c_refuse ?k_refuse ?a_need_size ?l_need_size ?c_need_size ?k_need_size ?a_weight_in ?l_weight_in ?c_weight_in ?k_weight_in ?a_cap_in ?l_cap_in ?c_cap_in ?k_cap_in ?a__law_pen ?l__law_pen ?c__law_pen ?k__law_pen ?a__law_draw ?l__law_draw ?c__law_draw ?k__law_draw ?a__law_pick ?l__law_pick ?c__law_pick ?k__law_pick ?a__law_text ?l__law_text ?c__law_text ?k__law_text ?a__law_is_tag ?l__law_is_tag ?c__law_is_tag ?k__law_is_tag ?a__law_is_number ?l__law_is_number ?c__law_is_number ?k__law_is_number ?a__law_row_wrong ?l__law_row_wrong ?c__law_row_wrong ?k__law_row_wrong ?a__law_cap_wrong ?l__law_cap_wrong ?c__law_cap_wrong ?k__law_cap_wrong ?a__law_wrong ?l__law_wrong ?c__law_wrong ?k__law_wrong ?a__law_right ?l__law_right ?c__law_right ?k__law_right ?a__law_bent ?l__law_bent ?c__law_bent ?k__law_bent ?a__law_weights ?l__law_weights ?c__law_weights ?k__law_weights ?a_law ?l_law ?c_law ?k_law ?u_abs ?u_all ?u_bool ?u_dict ?u_int ?u_isinstance ?u_len ?u_list ?u_min ?u_range ?u_repr ?u_sorted ?u_str ?u_tuple ?g_LETTERS ?g_MOST_CAP ?g_MOST_ISLES ?g_MOST_LETTERS ?g_MOST_WEIGHT ?g_NONE ?g_SHORE ?e_g ?e_l ?e_k ?e_sa ?e_ga ?e_gg ?e_f_row ?e_f_word ?e_ex ?e_v ?e_m ?e_t ?e_h ?e_ic ?e_sc ?e_o ?e_ns ?e_i ?e_ti ?e_fn ?e_co ?e_cc ?e_ca ?e_vs ?e_fi ?e_su ?e_bm ?e_ha ?e_hm ?o_hn ?o_tk ?d_g ?d_ex ?d_h ?d_t ?d_s ?k_g ?k_pg ?k_hd ?k_po ?k_sa ?k_f_entries ?k_f_limits ?k_ha ?k_hm ?k_ns ?k_mk ?k_kp ?k_rd ?k_rg ?k_ne ?a_Ledger___init__ ?i_Ledger___init__ ?l_Ledger___init__ ?c_Ledger___init__ ?k_Ledger___init__ ?a_Ledger_read ?r_Ledger_read ?i_Ledger_read ?l_Ledger_read ?c_Ledger_read ?k_Ledger_read ?a_Ledger___eq__ ?i_Ledger___eq__ ?l_Ledger___eq__ ?c_Ledger___eq__ ?k_Ledger___eq__ ?a_Ledger___str__ ?i_Ledger___str__ ?l_Ledger___str__ ?c_Ledger___str__ ?k_Ledger___str__
    (case a_is_integer => first | k_is | rfl | decide +kernel)
    (case l_is_integer => first | k_is | rfl | decide +kernel)
    (case c_is_integer => first | k_is | rfl | decide +kernel)
    (case k_is_integer => first | k_is | rfl | decide +kernel)
    (case a_is_name => first | k_is | rfl | decide +kernel)
    (case l_is_name => first | k_is | rfl | decide +kernel)
    (case c_is_name => first | k_is | rfl | decide +kernel)
    (case k_is_name => first | k_is | rfl | decide +kernel)
    (case a_is_own_name => first | k_is | rfl | decide +kernel)
    (case l_is_own_name => first | k_is | rfl | decide +kernel)
    (case c_is_own_name => first | k_is | rfl | decide +kernel)
    (case k_is_own_name => first | k_is | rfl | decide +kernel)
    (case a_is_between => first | k_is | rfl | decide +kernel)
    (case l_is_between => first | k_is | rfl | decide +kernel)
    (case c_is_between => first | k_is | rfl | decide +kernel)
    (case k_is_between => first | k_is | rfl | decide +kernel)
    (case a_is_cap => first | k_is | rfl | decide +kernel)
    (case l_is_cap => first | k_is | rfl | decide +kernel)
    (case c_is_cap => first | k_is | rfl | decide +kernel)
    (case k_is_cap => first | k_is | rfl | decide +kernel)
    (case a_are_weights => first | k_is | rfl | decide +kernel)
    (case l_are_weights => first | k_is | rfl | decide +kernel)
    (case c_are_weights => first | k_is | rfl | decide +kernel)
    (case k_are_weights => first | k_is | rfl | decide +kernel)
    (case a_number_in => first | k_is | rfl | decide +kernel)
    (case l_number_in => first | k_is | rfl | decide +kernel)
    (case c_number_in => first | k_is | rfl | decide +kernel)
    (case k_number_in => first | k_is | rfl | decide +kernel)
    (case a_refuse => first | k_is | rfl | decide +kernel)
    (case l_refuse => first | k_is | rfl | decide +kernel)
    (case c_refuse => first | k_is | rfl | decide +kernel)
    (case k_refuse => first | k_is | rfl | decide +kernel)
    (case a_need_size => first | k_is | rfl | decide +kernel)
    (case l_need_size => first | k_is | rfl | decide +kernel)
    (case c_need_size => first | k_is | rfl | decide +kernel)
    (case k_need_size => first | k_is | rfl | decide +kernel)
    (case a_weight_in => first | k_is | rfl | decide +kernel)
    (case l_weight_in => first | k_is | rfl | decide +kernel)
    (case c_weight_in => first | k_is | rfl | decide +kernel)
    (case k_weight_in => first | k_is | rfl | decide +kernel)
    (case a_cap_in => first | k_is | rfl | decide +kernel)
    (case l_cap_in => first | k_is | rfl | decide +kernel)
    (case c_cap_in => first | k_is | rfl | decide +kernel)
    (case k_cap_in => first | k_is | rfl | decide +kernel)
    (case a__law_pen => first | k_is | rfl | decide +kernel)
    (case l__law_pen => first | k_is | rfl | decide +kernel)
    (case c__law_pen => first | k_is | rfl | decide +kernel)
    (case k__law_pen => first | k_is | rfl | decide +kernel)
    (case a__law_draw => first | k_is | rfl | decide +kernel)
    (case l__law_draw => first | k_is | rfl | decide +kernel)
    (case c__law_draw => first | k_is | rfl | decide +kernel)
    (case k__law_draw => first | k_is | rfl | decide +kernel)
    (case a__law_pick => first | k_is | rfl | decide +kernel)
    (case l__law_pick => first | k_is | rfl | decide +kernel)
    (case c__law_pick => first | k_is | rfl | decide +kernel)
    (case k__law_pick => first | k_is | rfl | decide +kernel)
    (case a__law_text => first | k_is | rfl | decide +kernel)
    (case l__law_text => first | k_is | rfl | decide +kernel)
    (case c__law_text => first | k_is | rfl | decide +kernel)
    (case k__law_text => first | k_is | rfl | decide +kernel)
    (case a__law_is_tag => first | k_is | rfl | decide +kernel)
    (case l__law_is_tag => first | k_is | rfl | decide +kernel)
    (case c__law_is_tag => first | k_is | rfl | decide +kernel)
    (case k__law_is_tag => first | k_is | rfl | decide +kernel)
    (case a__law_is_number => first | k_is | rfl | decide +kernel)
    (case l__law_is_number => first | k_is | rfl | decide +kernel)
    (case c__law_is_number => first | k_is | rfl | decide +kernel)
    (case k__law_is_number => first | k_is | rfl | decide +kernel)
    (case a__law_row_wrong => first | k_is | rfl | decide +kernel)
    (case l__law_row_wrong => first | k_is | rfl | decide +kernel)
    (case c__law_row_wrong => first | k_is | rfl | decide +kernel)
    (case k__law_row_wrong => first | k_is | rfl | decide +kernel)
    (case a__law_cap_wrong => first | k_is | rfl | decide +kernel)
    (case l__law_cap_wrong => first | k_is | rfl | decide +kernel)
    (case c__law_cap_wrong => first | k_is | rfl | decide +kernel)
    (case k__law_cap_wrong => first | k_is | rfl | decide +kernel)
    (case a__law_wrong => first | k_is | rfl | decide +kernel)
    (case l__law_wrong => first | k_is | rfl | decide +kernel)
    (case c__law_wrong => first | k_is | rfl | decide +kernel)
    (case k__law_wrong => first | k_is | rfl | decide +kernel)
    (case a__law_right => first | k_is | rfl | decide +kernel)
    (case l__law_right => first | k_is | rfl | decide +kernel)
    (case c__law_right => first | k_is | rfl | decide +kernel)
    (case k__law_right => first | k_is | rfl | decide +kernel)
    (case a__law_bent => first | k_is | rfl | decide +kernel)
    (case l__law_bent => first | k_is | rfl | decide +kernel)
    (case c__law_bent => first | k_is | rfl | decide +kernel)
    (case k__law_bent => first | k_is | rfl | decide +kernel)
    (case a__law_weights => first | k_is | rfl | decide +kernel)
    (case l__law_weights => first | k_is | rfl | decide +kernel)
    (case c__law_weights => first | k_is | rfl | decide +kernel)
    (case k__law_weights => first | k_is | rfl | decide +kernel)
    (case a_law => first | k_is | rfl | decide +kernel)
    (case l_law => first | k_is | rfl | decide +kernel)
    (case c_law => first | k_is | rfl | decide +kernel)
    (case k_law => first | k_is | rfl | decide +kernel)
    (case u_abs => first | k_is | rfl | decide +kernel)
    (case u_all => first | k_is | rfl | decide +kernel)
    (case u_bool => first | k_is | rfl | decide +kernel)
    (case u_dict => first | k_is | rfl | decide +kernel)
    (case u_int => first | k_is | rfl | decide +kernel)
    (case u_isinstance => first | k_is | rfl | decide +kernel)
    (case u_len => first | k_is | rfl | decide +kernel)
    (case u_list => first | k_is | rfl | decide +kernel)
    (case u_min => first | k_is | rfl | decide +kernel)
    (case u_range => first | k_is | rfl | decide +kernel)
    (case u_repr => first | k_is | rfl | decide +kernel)
    (case u_sorted => first | k_is | rfl | decide +kernel)
    (case u_str => first | k_is | rfl | decide +kernel)
    (case u_tuple => first | k_is | rfl | decide +kernel)
    (case g_LETTERS => first | k_is | rfl | decide +kernel)
    (case g_MOST_CAP => first | k_is | rfl | decide +kernel)
    (case g_MOST_ISLES => first | k_is | rfl | decide +kernel)
    (case g_MOST_LETTERS => first | k_is | rfl | decide +kernel)
    (case g_MOST_WEIGHT => first | k_is | rfl | decide +kernel)
    (case g_NONE => first | k_is | rfl | decide +kernel)
    (case g_SHORE => first | k_is | rfl | decide +kernel)
    (case e_g => first | k_is | rfl | decide +kernel)
    (case e_l => first | k_is | rfl | decide +kernel)
    (case e_k => first | k_is | rfl | decide +kernel)
    (case e_sa => first | k_is | rfl | decide +kernel)
    (case e_ga => first | k_is | rfl | decide +kernel)
    (case e_gg => first | k_is | rfl | decide +kernel)
    (case e_f_row => first | k_is | rfl | decide +kernel)
    (case e_f_word => first | k_is | rfl | decide +kernel)
    (case e_ex => first | k_is | rfl | decide +kernel)
    (case e_v => first | k_is | rfl | decide +kernel)
    (case e_m => first | k_is | rfl | decide +kernel)
    (case e_t => first | k_is | rfl | decide +kernel)
    (case e_h => first | k_is | rfl | decide +kernel)
    (case e_ic => first | k_is | rfl | decide +kernel)
    (case e_sc => first | k_is | rfl | decide +kernel)
    (case e_o => first | k_is | rfl | decide +kernel)
    (case e_ns => first | k_is | rfl | decide +kernel)
    (case e_i => first | k_is | rfl | decide +kernel)
    (case e_ti => first | k_is | rfl | decide +kernel)
    (case e_fn => first | k_is | rfl | decide +kernel)
    (case e_co => first | k_is | rfl | decide +kernel)
    (case e_cc => first | k_is | rfl | decide +kernel)
    (case e_ca => first | k_is | rfl | decide +kernel)
    (case e_vs => rfl)
    (case e_fi => decide +kernel)
    (case e_su => ks_is)
    (case e_bm => decide +kernel)
    (case e_ha => first | k_is | rfl | decide +kernel)
    (case e_hm => first | k_is | rfl | decide +kernel)
    (case o_hn => first | k_is | rfl | decide +kernel)
    (case o_tk => first | k_is | rfl | decide +kernel)
    (case d_g => first | k_is | rfl | decide +kernel)
    (case d_ex => first | k_is | rfl | decide +kernel)
    (case d_h => first | k_is | rfl | decide +kernel)
    (case d_t => first | k_is | rfl | decide +kernel)
    (case d_s => first | k_is | rfl | decide +kernel)
    (case k_g => first | k_is | rfl | decide +kernel)
    (case k_pg => first | k_is | rfl | decide +kernel)
    (case k_hd => first | k_is | rfl | decide +kernel)
    (case k_po => first | k_is | rfl | decide +kernel)
    (case k_sa => first | k_is | rfl | decide +kernel)
    (case k_f_entries => first | k_is | rfl | decide +kernel)
    (case k_f_limits => first | k_is | rfl | decide +kernel)
    (case k_ha => first | k_is | rfl | decide +kernel)
    (case k_hm => first | k_is | rfl | decide +kernel)
    (case k_ns => first | k_is | rfl | decide +kernel)
    (case k_mk => first | k_is | rfl | decide +kernel)
    (case k_kp => first | k_is | rfl | decide +kernel)
    (case k_rd => first | k_is | rfl | decide +kernel)
    (case k_rg => first | k_is | rfl | decide +kernel)
    (case k_ne => first | k_is | rfl | decide +kernel)
    (case a_Ledger___init__ => first | k_is | rfl | decide +kernel)
    (case i_Ledger___init__ => first | k_is | rfl | decide +kernel)
    (case l_Ledger___init__ => first | k_is | rfl | decide +kernel)
    (case c_Ledger___init__ => first | k_is | rfl | decide +kernel)
    (case k_Ledger___init__ => first | k_is | rfl | decide +kernel)
    (case a_Ledger_read => first | k_is | rfl | decide +kernel)
    (case r_Ledger_read => first | k_is | rfl | decide +kernel)
    (case i_Ledger_read => first | k_is | rfl | decide +kernel)
    (case l_Ledger_read => first | k_is | rfl | decide +kernel)
    (case c_Ledger_read => first | k_is | rfl | decide +kernel)
    (case k_Ledger_read => first | k_is | rfl | decide +kernel)
    (case a_Ledger___eq__ => first | k_is | rfl | decide +kernel)
    (case i_Ledger___eq__ => first | k_is | rfl | decide +kernel)
    (case l_Ledger___eq__ => first | k_is | rfl | decide +kernel)
    (case c_Ledger___eq__ => first | k_is | rfl | decide +kernel)
    (case k_Ledger___eq__ => first | k_is | rfl | decide +kernel)
    (case a_Ledger___str__ => first | k_is | rfl | decide +kernel)
    (case i_Ledger___str__ => first | k_is | rfl | decide +kernel)
    (case l_Ledger___str__ => first | k_is | rfl | decide +kernel)
    (case c_Ledger___str__ => first | k_is | rfl | decide +kernel)
    (case k_Ledger___str__ => first | k_is | rfl | decide +kernel)
    (case tp => decide +kernel)
  exact ⟨fd, [], Gd, K82.d_law, h1, (fun p hp => by simp at hp), (fun p hp => by simp at hp), (fun p hp => by simp at hp), (fun q hq => by rw [h2] at hq; simp at hq), h3, fun ns hl hb => K82.law_plain ns hl, fun base a b _ => h4 base a b⟩
