import PyProof.Rows.All
import HandS.ForMost
import HandS.Walk
import HandS.Exc
import HandS.ExcOwn
import HandS.WordsExc
import HandS.TryOnly
import HandS.Lambda
import HandS.TupAny
import HandS.RaiseMore
import HandS.Text
import HandS.Style
import HandS.Iter
import HandS.Set
import HandS.SetFor
import HandS.TupSets
import HandS.SortOrd
import HandS.Sort
import PyProof.Rows.SortShellAny
import HandS.IsInst
import HandS.MapJoin
import PyProof.ReprRoads
import KE.KExcSuper
import HandS.ExcInit
import HandS.ExcField
import HandS.EndTab
import HandS.ForDict
import HandS.MakeKw
import HandS.OwnEq
import KE.KCallOwn
import HandS.Codes
import HandS.ClsMeth
import PyProof.InstNe
import HandS.NamedTupSort
import HandS.FStr
import HandS.ExcIs
import KE.KExcIs
import HandS.Star
import PyProof.StrOps2
import HandS.ListItems
import KE.KeyNested
import HandS.Spec
import HandS.Property
import KE.KDictPairs
import PyProof.ReprLen
import PyProof.StrLawsRepr
import PyProof.FitsInt
import PySem.Challenge.RW_duskwishes_k80_ledgers_made_and_refused
set_option Elab.async false
set_option linter.all false
set_option maxRecDepth 100000
set_option maxHeartbeats 4000000
/-! The value layer, 1: data by value, cells, what stands for what, what a step leaves. -/
namespace VL
open PySem PySem.Spec PyProof.Rows L2 LamX

/-- a text, by its signs -/
abbrev T := List Nat
def T.s (t : T) : Str := ⟨t.toArray⟩
theorem T.inj {a b : T} (h : T.s a = T.s b) : a = b := by
  have e : a.toArray = b.toArray := congrArg Str.cps h
  simpa using e
theorem T.len (t : T) : (T.s t).length = t.length := by simp [T.s, Str.length]
theorem T.of (x : Str) : T.s x.cps.toList = x := by simp [T.s]
/-- a dict's key -/
abbrev Ky := Sum Int T
def Ky.k : Ky → Key
  | .inl i => .inl i
  | .inr t => .inr t.s
theorem Ky.inj : ∀ {a b : Ky}, Ky.k a = Ky.k b → a = b
  | .inl _, .inl _, h => by cases h; rfl
  | .inl _, .inr _, h => by cases h
  | .inr _, .inl _, h => by cases h
  | .inr a, .inr b, h => by
    have h' : T.s a = T.s b := Sum.inr.inj h
    rw [T.inj h']
/-- data by value -/
inductive D where
  | non | bl (b : Bool) | int (i : Int) | str (s : T)
  | tup (xs : List D) | tpl (xs : List D) | lst (xs : List D) | fl (xs : List D)
  | dct (kvs : List (Ky × D)) | dcu (kvs : List (List Ky × D)) | dcx (kvs : List (Ky × D)) (x : D)
  | ins (c : Nat) (fs : List (T × D))
  | cls (c : Nat) | exn (c : Nat) (fs : List (T × D))
/-- a changing thing -/
inductive Cell where
  | dead | lst (xs : List D) | dct (kvs : List (Ky × D)) | dcx (kvs : List (Ky × D)) (x : D) | ins (c : Nat) (fs : List (T × D))
/-- what a name or an expression holds -/
inductive U where
  | d (x : D) | loc (n : Nat) | fn
abbrev Env := List (Option U)
abbrev Store := List Cell
/-- how an expression ends -/
inductive R (α : Type) where
  | ok (a : α) (τ : Store)
  | exc (c : Nat) (fs : List (T × D)) (τ : Store)
  | bad
abbrev EV := Env → Store → R U
abbrev EB := Env → Store → R Bool
abbrev EL := Env → Store → R (List U)
def R.bind {α β : Type} : R α → (α → Store → R β) → R β
  | .ok a τ, k => k a τ
  | .exc c fs τ, _ => .exc c fs τ
  | .bad, _ => .bad
@[simp] theorem R.bind_ok {α β : Type} (a : α) (τ : Store) (k : α → Store → R β) : (R.ok a τ).bind k = k a τ := rfl
@[simp] theorem R.bind_exc {α β : Type} (c : Nat) (fs : List (T × D)) (τ : Store) (k : α → Store → R β) : (R.exc c fs τ).bind k = .exc c fs τ := rfl
@[simp] theorem R.bind_bad {α β : Type} (k : α → Store → R β) : (R.bad : R α).bind k = .bad := rfl

/-! ### where one stands: what is shared, the whole heap, the cells' addresses -/
structure Z where
  S : Hp
  H : Hp
  ms : List Addr
def notTbl (o : HO) : Prop := ∀ ps, o ≠ .tbl ps
/-- what a step leaves -/
structure Fut (z z' : Z) : Prop where
  ss : Same z.S z'.S
  pre : z.ms <+: z'.ms
  frame : ∀ a o, z.H a = some o → a ∉ z.ms → notTbl o → z'.H a = some o
  dom : ∀ a o, z.H a = some o → notTbl o → ∃ o', z'.H a = some o' ∧ notTbl o'
  claim : ∀ a o, z.H a = some o → notTbl o → a ∉ z.ms → z'.S a = z.S a
  new : ∀ a, a ∈ z'.ms → a ∈ z.ms ∨ ∀ o, z.H a = some o → ¬ notTbl o
theorem Fut.refl (z : Z) : Fut z z := ⟨Same.refl _, List.prefix_refl _, fun _ _ h _ _ => h, fun a o h n => ⟨o, h, n⟩, fun _ _ _ _ _ => rfl, fun _ h => .inl h⟩
theorem Fut.trans {z z1 z2 : Z} (f : Fut z z1) (g : Fut z1 z2) : Fut z z2 := by
  have out : ∀ a o, z.H a = some o → notTbl o → a ∉ z.ms → a ∉ z1.ms := fun a o h t n m => by
    rcases f.new a m with q | q
    · exact n q
    · exact q o h t
  refine ⟨f.ss.trans g.ss, f.pre.trans g.pre, fun a o h n t => g.frame a o (f.frame a o h n t) (out a o h t n) t, fun a o h t => ?_, fun a o h t n => ?_, fun a h => ?_⟩
  · obtain ⟨o1, h1, t1⟩ := f.dom a o h t
    exact g.dom a o1 h1 t1
  · rw [g.claim a o (f.frame a o h n t) t (out a o h t n), f.claim a o h t n]
  · rcases g.new a h with q | q
    · exact f.new a q
    · refine .inr fun o e t => ?_
      obtain ⟨o', h', t'⟩ := f.dom a o e t
      exact q o' h' t'

/-- what the ground knows: the written part, the classes by number, the tables of code objects -/
structure Gd where
  K : PySem.W.Frag
  ca : Nat → Addr
  T : List (Addr × Str)
  w : World
  fa : Addr
  fp : Z → Prop
  fs : ∀ z z' : Z, Fut z z' → fp z → fp z'

/-- a dict, the last key of which is no int and no text -/
def oddO (w : World) (a : Addr) (ps : List (Key × V)) (v : V) : HO := .ext fun h => ∃ (o : Obj) (es : Array DictEntry) (ep : Nat) (xs : List (Key × Value)) (u : Value) (hs : Int) (t : Tok), h.get? a = some o ∧ o.ExactDict ∧ o.data = .dict es ep ∧ KV ps xs ∧
  (∃ l : List DictEntry, es.toList = l ++ [⟨hs, u, .int 1 t⟩] ∧ Paired (fun (x : Key × Value) (e : DictEntry) => keyIs x.1 e.key = true ∧ e.hash = keyH w x.1 ∧ e.val = x.2) xs l) ∧ RelV v u ∧ ps.length ≤ sizeLine ∧ (a == sysModules) = false ∧ (xs.map (·.1)).Nodup
/-- an error, kept: its class, its dict -/
def exnO (C a dd : Addr) : HO := .ext fun h => ∃ (oe : Obj) (vs : Array Value), h.get? a = some oe ∧ oe.cls = .ref C ∧ oe.dict = some dd ∧ oe.data = .fields vs
mutual
inductive Rep (G : Gd) (S : Hp) : D → V → Prop
  | non : Rep G S .non .non
  | bl (b : Bool) : Rep G S (.bl b) (.bl b)
  | int (i : Int) : Rep G S (.int i) (.int i)
  | str (s : T) : Rep G S (.str s) (.str s.s)
  | tup {a : Addr} {vs : List V} {ds : List D} : SqT G.K S a vs → Reps G S ds vs → Rep G S (.tup ds) (.ref a)
  | tpl {a : Addr} {o : Obj} {vs : List V} {ds : List D} : S a = some (.frz o (.tup vs)) → o.dict = none → Reps G S ds vs → Rep G S (.tpl ds) (.ref a)
  | lst {a : Addr} {vs : List V} {ds : List D} : S a = some (.lst vs) → Reps G S ds vs → Rep G S (.lst ds) (.ref a)
  | fl {a : Addr} {vs : List V} {ds : List D} : SqL G.K S a vs → Reps G S ds vs → Rep G S (.fl ds) (.ref a)
  | dct {a : Addr} {o : Obj} {ps : List (Key × V)} {kvs : List (Ky × D)} : S a = some (.frz o (.dK ps)) → RepK G S kvs ps → Rep G S (.dct kvs) (.ref a)
  | dcu {a : Addr} {ps : List (List Key × V)} {kvs : List (List Ky × D)} : Rd S a (.dT ps) → RepT G S kvs ps → Rep G S (.dcu kvs) (.ref a)
  | dcx {a : Addr} {o : Obj} {ps : List (Key × V)} {kvs : List (Ky × D)} {x : D} {v : V} : S a = some (.frz o (oddO G.w a ps v)) → RepK G S kvs ps → Rep G S x v → Rep G S (.dcx kvs x) (.ref a)
  | ins {a dx : Addr} {c : Nat} {ps : List (Str × V)} {fs : List (T × D)} : S a = some (.ins (G.ca c) dx ps) → RepF G S fs ps → Rep G S (.ins c fs) (.ref a)
  | cls (c : Nat) : Rep G S (.cls c) (.ref (G.ca c))
  | exn {a dd : Addr} {c : Nat} {ps : List (Str × V)} {fs : List (T × D)} : S a = some (exnO (G.ca c) a dd) → S dd = some (.xd ps) → RepF G S fs ps → Rep G S (.exn c fs) (.ref a)
inductive Reps (G : Gd) (S : Hp) : List D → List V → Prop
  | nil : Reps G S [] []
  | cons {d : D} {v : V} {ds : List D} {vs : List V} : Rep G S d v → Reps G S ds vs → Reps G S (d :: ds) (v :: vs)
inductive RepK (G : Gd) (S : Hp) : List (Ky × D) → List (Key × V) → Prop
  | nil : RepK G S [] []
  | cons {k : Ky} {d : D} {v : V} {ds : List (Ky × D)} {vs : List (Key × V)} : Rep G S d v → RepK G S ds vs → RepK G S ((k, d) :: ds) ((k.k, v) :: vs)
inductive RepT (G : Gd) (S : Hp) : List (List Ky × D) → List (List Key × V) → Prop
  | nil : RepT G S [] []
  | cons {k : List Ky} {d : D} {v : V} {ds : List (List Ky × D)} {vs : List (List Key × V)} : Rep G S d v → RepT G S ds vs → RepT G S ((k, d) :: ds) ((k.map Ky.k, v) :: vs)
inductive RepF (G : Gd) (S : Hp) : List (T × D) → List (Str × V) → Prop
  | nil : RepF G S [] []
  | cons {k : T} {d : D} {v : V} {ds : List (T × D)} {vs : List (Str × V)} : Rep G S d v → RepF G S ds vs → RepF G S ((k, d) :: ds) ((k.s, v) :: vs)
end

section
variable {G : Gd} {S S' : Hp}
theorem rd_mono (e : Same S S') {a : Addr} {u : HO} (h : Rd S a u) : Rd S' a u := by
  rcases h with h | ⟨o, h⟩
  · exact .inl (e _ _ h)
  · exact .inr ⟨o, e _ _ h⟩
theorem sqT_mono {K : PySem.W.Frag} (e : Same S S') {a : Addr} {xs : List V} (h : SqT K S a xs) : SqT K S' a xs := by
  rcases h with h | h
  · exact .inl (rd_mono e h)
  · exact .inr h
theorem sqL_mono {K : PySem.W.Frag} (e : Same S S') {a : Addr} {xs : List V} (h : SqL K S a xs) : SqL K S' a xs := by
  rcases h with h | h
  · exact .inl (rd_mono e h)
  · exact .inr h
mutual
theorem Rep.mono (e : Same S S') : ∀ (d : D) (v : V), Rep G S d v → Rep G S' d v
  | .non, _, h => by cases h; exact .non
  | .bl b, _, h => by cases h; exact .bl b
  | .int i, _, h => by cases h; exact .int i
  | .str s, _, h => by cases h; exact .str s
  | .tup ds, _, h => by
    cases h with
    | tup h1 h2 => exact .tup (sqT_mono e h1) (Reps.mono e ds _ h2)
  | .tpl ds, _, h => by
    cases h with
    | tpl h1 h2 h3 => exact .tpl (e _ _ h1) h2 (Reps.mono e ds _ h3)
  | .lst ds, _, h => by
    cases h with
    | lst h1 h2 => exact .lst (e _ _ h1) (Reps.mono e ds _ h2)
  | .fl ds, _, h => by
    cases h with
    | fl h1 h2 => exact .fl (sqL_mono e h1) (Reps.mono e ds _ h2)
  | .dct ds, _, h => by
    cases h with
    | dct h1 h2 => exact .dct (e _ _ h1) (RepK.mono e ds _ h2)
  | .dcu ds, _, h => by
    cases h with
    | dcu h1 h2 => exact .dcu (rd_mono e h1) (RepT.mono e ds _ h2)
  | .dcx ds x, _, h => by
    cases h with
    | dcx h1 h2 h3 => exact .dcx (e _ _ h1) (RepK.mono e ds _ h2) (Rep.mono e x _ h3)
  | .ins c ds, _, h => by
    cases h with
    | ins h1 h2 => exact .ins (e _ _ h1) (RepF.mono e ds _ h2)
  | .cls c, _, h => by cases h; exact .cls c
  | .exn c ds, _, h => by
    cases h with
    | exn h1 h2 h3 => exact .exn (e _ _ h1) (e _ _ h2) (RepF.mono e ds _ h3)
theorem Reps.mono (e : Same S S') : ∀ (ds : List D) (vs : List V), Reps G S ds vs → Reps G S' ds vs
  | [], _, h => by cases h; exact .nil
  | d :: ds, _, h => by
    cases h with
    | cons h1 h2 => exact .cons (Rep.mono e d _ h1) (Reps.mono e ds _ h2)
theorem RepK.mono (e : Same S S') : ∀ (ds : List (Ky × D)) (vs : List (Key × V)), RepK G S ds vs → RepK G S' ds vs
  | [], _, h => by cases h; exact .nil
  | (k, d) :: ds, _, h => by
    cases h with
    | cons h1 h2 => exact .cons (Rep.mono e d _ h1) (RepK.mono e ds _ h2)
theorem RepT.mono (e : Same S S') : ∀ (ds : List (List Ky × D)) (vs : List (List Key × V)), RepT G S ds vs → RepT G S' ds vs
  | [], _, h => by cases h; exact .nil
  | (k, d) :: ds, _, h => by
    cases h with
    | cons h1 h2 => exact .cons (Rep.mono e d _ h1) (RepT.mono e ds _ h2)
theorem RepF.mono (e : Same S S') : ∀ (ds : List (T × D)) (vs : List (Str × V)), RepF G S ds vs → RepF G S' ds vs
  | [], _, h => by cases h; exact .nil
  | (k, d) :: ds, _, h => by
    cases h with
    | cons h1 h2 => exact .cons (Rep.mono e d _ h1) (RepF.mono e ds _ h2)
end
theorem Reps.length : ∀ {ds : List D} {vs : List V}, Reps G S ds vs → ds.length = vs.length
  | [], _, h => by cases h; rfl
  | d :: ds, _, h => by
    cases h with
    | cons _ h2 => simp [Reps.length h2]
theorem Reps.append : ∀ {ds es : List D} {vs ws : List V}, Reps G S ds vs → Reps G S es ws → Reps G S (ds ++ es) (vs ++ ws)
  | [], _, _, _, h, k => by cases h; exact k
  | d :: ds, _, _, _, h, k => by
    cases h with
    | cons h1 h2 => exact .cons h1 (Reps.append h2 k)
theorem Reps.get : ∀ {ds : List D} {vs : List V} {i : Nat} {d : D}, Reps G S ds vs → ds[i]? = some d → ∃ v, vs[i]? = some v ∧ Rep G S d v
  | [], _, _, _, _, e => by simp at e
  | x :: ds, _, 0, d, h, e => by
    cases h with
    | cons h1 h2 =>
      have e' : x = d := by simpa using e
      subst e'
      exact ⟨_, rfl, h1⟩
  | x :: ds, _, i + 1, d, h, e => by
    cases h with
    | cons h1 h2 =>
      obtain ⟨v, q1, q2⟩ := Reps.get (i := i) h2 (by simpa using e)
      exact ⟨v, by simpa using q1, q2⟩
theorem Reps.get' {ds : List D} {vs : List V} {i : Nat} {v : V} (h : Reps G S ds vs) (e : vs[i]? = some v) : ∃ d, ds[i]? = some d ∧ Rep G S d v := by
  have hl := h.length
  have hi := (List.getElem?_eq_some_iff.mp e).1
  obtain ⟨w, q1, q2⟩ := h.get (i := i) (d := ds[i]'(by omega)) (by simp [show i < ds.length by omega])
  rw [e] at q1
  cases q1
  exact ⟨_, by simp [show i < ds.length by omega], q2⟩
theorem Reps.take (n : Nat) : ∀ {ds : List D} {vs : List V}, Reps G S ds vs → Reps G S (ds.take n) (vs.take n) := by
  induction n with
  | zero => intro ds vs h; exact .nil
  | succ n ih =>
    intro ds vs h
    cases h with
    | nil => exact .nil
    | cons h1 h2 => exact .cons h1 (ih h2)
theorem Reps.drop (n : Nat) : ∀ {ds : List D} {vs : List V}, Reps G S ds vs → Reps G S (ds.drop n) (vs.drop n) := by
  induction n with
  | zero => intro ds vs h; exact h
  | succ n ih =>
    intro ds vs h
    cases h with
    | nil => exact .nil
    | cons h1 h2 => exact ih h2
theorem Reps.set {d : D} {v : V} (r : Rep G S d v) : ∀ {ds : List D} {vs : List V} (i : Nat), Reps G S ds vs → Reps G S (ds.set i d) (vs.set i v)
  | [], _, _, h => by cases h; exact .nil
  | _ :: _, _, 0, h => by
    cases h with
    | cons h1 h2 => exact .cons r h2
  | _ :: _, _, i + 1, h => by
    cases h with
    | cons h1 h2 => exact .cons h1 (Reps.set r i h2)
theorem Reps.eraseIdx : ∀ {ds : List D} {vs : List V} (i : Nat), Reps G S ds vs → Reps G S (ds.eraseIdx i) (vs.eraseIdx i)
  | [], _, _, h => by cases h; exact .nil
  | _ :: _, _, 0, h => by
    cases h with
    | cons h1 h2 => exact h2
  | _ :: _, _, i + 1, h => by
    cases h with
    | cons h1 h2 => exact .cons h1 (Reps.eraseIdx i h2)
theorem Reps.reverse : ∀ {ds : List D} {vs : List V}, Reps G S ds vs → Reps G S ds.reverse vs.reverse
  | [], _, h => by cases h; exact .nil
  | d :: ds, _, h => by
    cases h with
    | cons h1 h2 =>
      rw [List.reverse_cons, List.reverse_cons]
      exact (Reps.reverse h2).append (.cons h1 .nil)
theorem reps_ints : ∀ ns : List Int, Reps G S (ns.map D.int) (ns.map V.int)
  | [] => .nil
  | n :: ns => .cons (.int n) (reps_ints ns)
theorem reps_strs : ∀ ns : List T, Reps G S (ns.map D.str) ((ns.map T.s).map V.str)
  | [] => .nil
  | n :: ns => .cons (.str n) (reps_strs ns)
end

def CellR (G : Gd) (S H : Hp) (a : Addr) : Cell → Prop
  | .dead => True
  | .lst ds => S a = none ∧ ∃ vs, H a = some (.lst vs) ∧ Reps G S ds vs
  | .dct kvs => S a = none ∧ ∃ ps, H a = some (.dK ps) ∧ RepK G S kvs ps
  | .dcx kvs x => S a = none ∧ ∃ o ps v, H a = some (.frz o (oddO G.w a ps v)) ∧ RepK G S kvs ps ∧ Rep G S x v
  | .ins c fs => S a = none ∧ ∃ dx ps, H a = some (.ins (G.ca c) dx ps) ∧ RepF G S fs ps
/-- what may change -/
def pln : HO → Prop
  | .lst _ => True
  | .dK _ => True
  | .ins _ _ _ => True
  | .frz _ _ => True
  | _ => False
theorem pln.nt {o : HO} (h : pln o) : notTbl o := fun ps e => by subst e; exact h
structure Cells (G : Gd) (z : Z) (τ : Store) : Prop where
  sub : Same z.S z.H
  len : z.ms.length = τ.length
  nd : z.ms.Nodup
  al : ∀ a ∈ z.ms, ∃ o, z.H a = some o ∧ pln o
  at_ : ∀ (i : Nat) a c, z.ms[i]? = some a → τ[i]? = some c → CellR G z.S z.H a c
  tab : Tabs G.T z.H
  nt : ∀ a o, z.S a = some o → notTbl o
inductive RepU (G : Gd) (z : Z) : U → V → Prop
  | d {x : D} {v : V} : Rep G z.S x v → RepU G z (.d x) v
  | loc {n : Nat} {a : Addr} : z.ms[n]? = some a → RepU G z (.loc n) (.ref a)
  | fn : G.fp z → RepU G z .fn (.ref G.fa)
inductive RepUs (G : Gd) (z : Z) : List U → List V → Prop
  | nil : RepUs G z [] []
  | cons {u : U} {v : V} {us : List U} {vs : List V} : RepU G z u v → RepUs G z us vs → RepUs G z (u :: us) (v :: vs)
structure EnvR (G : Gd) (z : Z) (ρ : Env) (σ : L2.St) : Prop where
  len : σ.length = ρ.length
  at_ : ∀ (i : Nat) u, ρ[i]? = some (some u) → ∃ v, σ[i]? = some (some v) ∧ RepU G z u v
section
variable {G : Gd} {z z' : Z}
theorem pre_get {l m : List Addr} (h : l <+: m) {n : Nat} {a : Addr} (e : l[n]? = some a) : m[n]? = some a := by
  obtain ⟨t, rfl⟩ := h
  have hn := (List.getElem?_eq_some_iff.mp e).1
  rw [List.getElem?_append_left hn]
  exact e
theorem RepU.fut (f : Fut z z') {u : U} {v : V} (h : RepU G z u v) : RepU G z' u v := by
  cases h with
  | d h => exact .d (Rep.mono f.ss _ _ h)
  | loc h => exact .loc (pre_get f.pre h)
  | fn h => exact .fn (G.fs _ _ f h)
theorem RepUs.fut (f : Fut z z') : ∀ {us : List U} {vs : List V}, RepUs G z us vs → RepUs G z' us vs
  | _, _, .nil => .nil
  | _, _, .cons h t => .cons (h.fut f) (RepUs.fut f t)
theorem RepUs.length : ∀ {us : List U} {vs : List V}, RepUs G z us vs → us.length = vs.length
  | _, _, .nil => rfl
  | _, _, .cons _ t => by simp [RepUs.length t]
theorem EnvR.fut {ρ : Env} {σ : L2.St} (f : Fut z z') (h : EnvR G z ρ σ) : EnvR G z' ρ σ :=
  ⟨h.len, fun i u e => let ⟨v, q, r⟩ := h.at_ i u e; ⟨v, q, r.fut f⟩⟩
theorem EnvR.set {ρ : Env} {σ : L2.St} {i : Nat} {u : U} {v : V} (h : EnvR G z ρ σ) (r : RepU G z u v) : EnvR G z (ρ.set i (some u)) (σ.set i (some v)) := by
  refine ⟨by simp [h.len], fun j w e => ?_⟩
  by_cases hj : i = j
  · subst hj
    by_cases hi : i < ρ.length
    · rw [List.getElem?_set_self hi] at e
      cases e
      exact ⟨v, by rw [List.getElem?_set_self (by rw [h.len]; exact hi)], r⟩
    · rw [List.getElem?_eq_none (by simpa using Nat.le_of_not_lt hi)] at e
      cases e
  · rw [List.getElem?_set_ne hj] at e
    obtain ⟨v', q1, q2⟩ := h.at_ j w e
    exact ⟨v', by rw [List.getElem?_set_ne hj]; exact q1, q2⟩
theorem EnvR.unset {ρ : Env} {σ : L2.St} {i : Nat} {x : Option V} (h : EnvR G z ρ σ) : EnvR G z (ρ.set i none) (σ.set i x) := by
  refine ⟨by simp [h.len], fun j w e => ?_⟩
  by_cases hj : i = j
  · subst hj
    by_cases hi : i < ρ.length
    · rw [List.getElem?_set_self hi] at e
      cases e
    · rw [List.getElem?_eq_none (by simpa using Nat.le_of_not_lt hi)] at e
      cases e
  · rw [List.getElem?_set_ne hj] at e
    obtain ⟨v', q1, q2⟩ := h.at_ j w e
    exact ⟨v', by rw [List.getElem?_set_ne hj]; exact q1, q2⟩
end

/-! ### runs -/
/-- what is wanted behind an expression -/
def Run {α β : Type} (G : Gd) (rep : Z → α → β → Prop) (r : R α) (W : XK) (z : Z) (k : β → Hp → Prop) : Prop :=
  match r with
  | .ok a τ => ∀ z' b, Fut z z' → Cells G z' τ → rep z' a b → k b z'.H
  | .exc c fs τ => ∀ z' dd vs, Fut z z' → Cells G z' τ → z'.S dd = some (.xd vs) → RepF G z'.S fs vs → W (.ref (G.ca c)) (some dd) z'.H
  | .bad => False
section
variable {α β α' β' : Type} {G : Gd} {rep : Z → α → β → Prop} {rep' : Z → α' → β' → Prop} {z : Z} {W : XK} {k : β → Hp → Prop} {k' : β' → Hp → Prop}
theorem Run.imp {r : R α} {k2 : β → Hp → Prop} (h : Run G rep r W z k) (hk : ∀ b H, k b H → k2 b H) : Run G rep r W z k2 := by
  cases r with
  | ok a τ => exact fun z' b f c q => hk _ _ (h z' b f c q)
  | exc c fs τ => exact h
  | bad => exact h
theorem Run.bind {r : R α} {g : α → Store → R α'} (h : Run G rep' (r.bind g) W z k') :
    Run G rep r W z fun b H => ∃ z1 a τ1, z1.H = H ∧ Fut z z1 ∧ Cells G z1 τ1 ∧ rep z1 a b ∧ Run G rep' (g a τ1) W z1 k' := by
  cases r with
  | bad => exact h
  | exc c fs τ => exact h
  | ok a τ =>
    intro z1 b f c q
    refine ⟨z1, a, τ, rfl, f, c, q, ?_⟩
    have h' : Run G rep' (g a τ) W z k' := h
    cases e : g a τ with
    | bad => rw [e] at h'; exact h'
    | exc c2 fs τ2 =>
      rw [e] at h'
      exact fun z' dd vs f' c' s' r' => h' z' dd vs (f.trans f') c' s' r'
    | ok a2 τ2 =>
      rw [e] at h'
      exact fun z' b' f' c' q' => h' z' b' (f.trans f') c' q'
theorem Run.ok {a : α} {τ : Store} {b : β} (h : Run G rep (.ok a τ) W z k) (c : Cells G z τ) (r : rep z a b) : k b z.H := h z b (Fut.refl z) c r
theorem Run.pre {r : R α} {z1 : Z} (h : Run G rep r W z k) (f : Fut z z1) : Run G rep r W z1 k := by
  cases r with
  | ok a τ => exact fun z' b f' c q => h z' b (f.trans f') c q
  | exc c fs τ => exact fun z' dd vs f' => h z' dd vs (f.trans f')
  | bad => exact h
end

/-! ### readings -/
abbrev EqRep {β : Type} : Z → β → β → Prop := fun _ a b => a = b
def VE (G : Gd) (W : WX) (f : EV) : TE := fun σ H Q => ∃ z ρ τ, z.H = H ∧ Cells G z τ ∧ EnvR G z ρ σ ∧ Run G (RepU G) (f ρ τ) (fun c d H' => W c d σ H') z Q
def VB (G : Gd) (W : WX) (f : EB) : TT := fun σ H Q => ∃ z ρ τ, z.H = H ∧ Cells G z τ ∧ EnvR G z ρ σ ∧ Run G EqRep (f ρ τ) (fun c d H' => W c d σ H') z Q
def VA (G : Gd) (W : WX) (f : EL) : TA := fun σ H Q => ∃ z ρ τ, z.H = H ∧ Cells G z τ ∧ EnvR G z ρ σ ∧ Run G (RepUs G) (f ρ τ) (fun c d H' => W c d σ H') z Q
theorem pe_weak {X : Cx} {e : Expr} {t t' : TE} (h : PE X e t) (w : ∀ σ H Q, t' σ H Q → t σ H Q) : PE X e t' := ⟨fun pins s σ H Q I q => h.run pins s σ H Q I (w _ _ _ q)⟩
theorem pt_weak {X : Cx} {e : Expr} {t t' : TT} (h : PT X e t) (w : ∀ σ H Q, t' σ H Q → t σ H Q) : PT X e t' := ⟨fun pins s σ H Q I q => h.run pins s σ H Q I (w _ _ _ q)⟩
theorem pw_weak {X : Cx} {e : Expr} {t t' : TT} (h : PW X e t) (w : ∀ σ H Q, t' σ H Q → t σ H Q) : PW X e t' := ⟨fun wh pins s σ H Q I q => h.run wh pins s σ H Q I (w _ _ _ q)⟩
theorem pa_weak {X : Cx} {es : List Expr} {t t' : TA} (h : PA X es t) (w : ∀ σ H Q, t' σ H Q → t σ H Q) : PA X es t' := ⟨fun pos pins s σ H Q I q => h.run pos pins s σ H Q I (w _ _ _ q)⟩
theorem ps_weak {X : Cx} {st : Stmt} {t t' : TS} (h : PS X st t) (w : ∀ D σ H, t' D σ H → t D σ H) : PS X st t' := ⟨fun pins s σ H D I q => h.run pins s σ H D I (w _ _ _ q)⟩
theorem pss_weak {X : Cx} {st : List Stmt} {t t' : TS} (h : PSs X st t) (w : ∀ D σ H, t' D σ H → t D σ H) : PSs X st t' := ⟨fun pins s σ H D I q => h.run pins s σ H D I (w _ _ _ q)⟩

section
variable {X : Cx} {G : Gd} {W : WX} {a b : Expr} {fa fb : EV} {pos : Pos}
/-- one part, then a step on its value -/
theorem ve_step1 {e : Expr} {t : TE} {g : U → Store → R U} {r : V → Hp → VK → Prop} (h : PE X e t) (he : ∀ σ H Q, (VE G W fa) σ H (fun x H1 => r x H1 Q) → t σ H Q)
    (hr : ∀ (z : Z) (u : U) (τ : Store) (v : V) (W : XK) (Q : VK), Cells G z τ → RepU G z u v → Run G (RepU G) (g u τ) W z Q → r v z.H Q) : PE X e (VE G W fun ρ τ => (fa ρ τ).bind g) := by
  refine pe_weak h fun σ H Q ⟨z, ρ, τ, hz, c, en, q⟩ => he _ _ _ ⟨z, ρ, τ, hz, c, en, ?_⟩
  exact (Run.bind q).imp fun v H1 ⟨z1, u, τ1, e1, f, c1, r1, q1⟩ => by
    subst e1
    exact hr z1 u τ1 v _ Q c1 r1 q1
/-- two parts, then a step on their values -/
theorem ve_step2 {e : Expr} {t : TE} {g : U → U → Store → R U} {r : R2} (h : PE X e t) (he : ∀ σ H Q, (VE G W fa) σ H (fun x H1 => (VE G W fb) σ H1 fun y H2 => r x y H2 Q) → t σ H Q)
    (hr : ∀ (z : Z) (u w : U) (τ : Store) (x y : V) (W : XK) (Q : VK), Cells G z τ → RepU G z u x → RepU G z w y → Run G (RepU G) (g u w τ) W z Q → r x y z.H Q) :
    PE X e (VE G W fun ρ τ => (fa ρ τ).bind fun u τ1 => (fb ρ τ1).bind fun w τ2 => g u w τ2) := by
  refine pe_weak h fun σ H Q ⟨z, ρ, τ, hz, c, en, q⟩ => he _ _ _ ⟨z, ρ, τ, hz, c, en, ?_⟩
  exact (Run.bind q).imp fun x H1 ⟨z1, u, τ1, e1, f, c1, r1, q1⟩ => by
    subst e1
    refine ⟨z1, ρ, τ1, rfl, c1, en.fut f, ?_⟩
    exact (Run.bind q1).imp fun y H2 ⟨z2, w, τ2, e2, f2, c2, r2, q2⟩ => by
      subst e2
      exact hr z2 u w τ2 x y _ Q c2 (r1.fut f2) r2 q2
end

/-! ### names and constants -/
def eVar (i : Nat) : EV := fun ρ τ => match ρ[i]? with
  | some (some u) => .ok u τ
  | _ => .bad
def eC (x : D) : EV := fun _ τ => .ok (.d x) τ
section
variable {X : Cx} {G : Gd} {W : WX} {pos : Pos}
theorem v_var (i : Nat) {x : Str} (hN : X.N[i]? = some x) (hv : Vis X.env.scope x) (hd : (x == ("__debug__" : Str)) = false := by decide) (hcd : (x == ("__classdict__" : Str)) = false := by decide) : PE X (.Name x pos) (VE G W (eVar i)) := by
  refine pe_weak (pe_var hN hv hd hcd) fun σ H Q ⟨z, ρ, τ, hz, c, en, q⟩ => ?_
  subst hz
  unfold eVar at q
  cases e : ρ[i]? with
  | none => rw [e] at q; exact q.elim
  | some o =>
    cases o with
    | none => rw [e] at q; exact q.elim
    | some u =>
      rw [e] at q
      obtain ⟨v, h1, h2⟩ := en.at_ i u e
      exact ⟨v, h1, q.ok c h2⟩
theorem v_c {e : Expr} {v : V} {x : D} (h : PE X e (tC v)) (r : ∀ S, Rep G S x v) : PE X e (VE G W (eC x)) := by
  refine pe_weak h fun σ H Q ⟨z, ρ, τ, hz, c, en, q⟩ => ?_
  subst hz
  exact Run.ok (rep := RepU G) q c (.d (r _))
theorem v_int {i : Int} {j} : PE X (.Constant (.int i) j pos) (VE G W (eC (.int i))) := v_c pe_int fun _ => .int i
theorem v_bl {b : Bool} {j} : PE X (.Constant (.bool b) j pos) (VE G W (eC (.bl b))) := v_c pe_bl fun _ => .bl b
theorem v_non {j} : PE X (.Constant .none j pos) (VE G W (eC .non)) := v_c pe_non fun _ => .non
theorem v_str {s : Str} (t : T) {j} (h : s = t.s) : PE X (.Constant (.str s) j pos) (VE G W (eC (.str t))) := v_c pe_str fun _ => by rw [h]; exact .str t
theorem v_glob {x : Str} {v : V} {u : Value} {d : D} (hg : Gl X x) (hm : X.mg x = some u) (r : RelV v u) (h : ∀ S, Rep G S d v) (hd : (x == ("__debug__" : Str)) = false := by decide) : PE X (.Name x pos) (VE G W (eC d)) :=
  v_c (pe_glob hg hm r hd) h
end
end VL

/-! The value layer, 2: what is read, what is made, what is changed; operators and comparisons. -/
namespace VL
open PySem PySem.Spec PyProof.Rows L2 LamX

def vw (τ : Store) : U → Option D
  | .d x => some x
  | .loc n => match τ[n]? with
    | some (.lst ds) => some (.lst ds)
    | some (.dct kvs) => some (.dct kvs)
    | some (.ins c fs) => some (.ins c fs)
    | _ => none
  | .fn => none
@[simp] theorem vw_d (τ : Store) (x : D) : vw τ (.d x) = some x := rfl
/-- what may be read now -/
inductive RepH (G : Gd) (z : Z) : D → V → Prop
  | sh {d : D} {v : V} : Rep G z.S d v → RepH G z d v
  | lst {a : Addr} {vs : List V} {ds : List D} : z.H a = some (.lst vs) → Reps G z.S ds vs → RepH G z (.lst ds) (.ref a)
  | dct {a : Addr} {ps : List (Key × V)} {kvs : List (Ky × D)} : z.H a = some (.dK ps) → RepK G z.S kvs ps → RepH G z (.dct kvs) (.ref a)
  | ins {a dx : Addr} {c : Nat} {ps : List (Str × V)} {fs : List (T × D)} : z.H a = some (.ins (G.ca c) dx ps) → RepF G z.S fs ps → RepH G z (.ins c fs) (.ref a)
section
variable {G : Gd} {z : Z} {τ : Store}
theorem vw_rep (c : Cells G z τ) {u : U} {v : V} {d : D} (r : RepU G z u v) (e : vw τ u = some d) : RepH G z d v := by
  cases r with
  | d h =>
    have e' := Option.some.inj e
    subst e'
    exact .sh h
  | loc h =>
    rename_i n a
    unfold vw at e
    simp only at e
    cases q : τ[n]? with
    | none => rw [q] at e; cases e
    | some cl =>
      have w := c.at_ n a cl h q
      rw [q] at e
      cases cl with
      | dead => cases e
      | lst ds => cases e; obtain ⟨_, vs, h1, h2⟩ := w; exact .lst h1 h2
      | dct kvs => cases e; obtain ⟨_, vs, h1, h2⟩ := w; exact .dct h1 h2
      | dcx kvs x => cases e
      | ins cc fs => cases e; obtain ⟨_, dx, vs, h1, h2⟩ := w; exact .ins h1 h2
  | fn h => cases e
theorem RepH.non_ {v : V} (r : RepH G z .non v) : v = .non := by cases r with | sh h => cases h; rfl
theorem RepH.bl_ {v : V} {b : Bool} (r : RepH G z (.bl b) v) : v = .bl b := by cases r with | sh h => cases h; rfl
theorem RepH.int_ {v : V} {i : Int} (r : RepH G z (.int i) v) : v = .int i := by cases r with | sh h => cases h; rfl
theorem RepH.str_ {v : V} {s : T} (r : RepH G z (.str s) v) : v = .str s.s := by cases r with | sh h => cases h; rfl
theorem RepH.lst_ {v : V} {ds : List D} (c : Cells G z τ) (r : RepH G z (.lst ds) v) : ∃ a vs, v = .ref a ∧ z.H a = some (.lst vs) ∧ Reps G z.S ds vs := by
  cases r with
  | sh h => cases h with | lst h1 h2 => exact ⟨_, _, rfl, c.sub _ _ h1, h2⟩
  | lst h1 h2 => exact ⟨_, _, rfl, h1, h2⟩
theorem RepH.fl_ {v : V} {ds : List D} (c : Cells G z τ) (r : RepH G z (.fl ds) v) : ∃ a vs, v = .ref a ∧ SqL G.K z.H a vs ∧ Reps G z.S ds vs := by
  cases r with
  | sh h => cases h with | fl h1 h2 => exact ⟨_, _, rfl, sqL_mono c.sub h1, h2⟩
theorem RepH.tup_ {v : V} {ds : List D} (c : Cells G z τ) (r : RepH G z (.tup ds) v) : ∃ a vs, v = .ref a ∧ SqT G.K z.H a vs ∧ Reps G z.S ds vs := by
  cases r with
  | sh h => cases h with | tup h1 h2 => exact ⟨_, _, rfl, sqT_mono c.sub h1, h2⟩
/-- a list's or a tuple's items -/
def D.seq : D → Option (List D)
  | .lst ds => some ds
  | .fl ds => some ds
  | .tup ds => some ds
  | .tpl ds => some ds
  | _ => none
theorem RepH.seq_ {v : V} {d : D} {ds : List D} (c : Cells G z τ) (r : RepH G z d v) (e : d.seq = some ds) : ∃ a vs, v = .ref a ∧ (SqL G.K z.H a vs ∨ SqT G.K z.H a vs) ∧ Reps G z.S ds vs := by
  cases d with
  | lst xs =>
    cases e
    obtain ⟨a, vs, h1, h2, h3⟩ := r.lst_ c
    exact ⟨a, vs, h1, .inl (SqL.of h2), h3⟩
  | fl xs =>
    cases e
    obtain ⟨a, vs, h1, h2, h3⟩ := r.fl_ c
    exact ⟨a, vs, h1, .inl h2, h3⟩
  | tup xs =>
    cases e
    obtain ⟨a, vs, h1, h2, h3⟩ := r.tup_ c
    exact ⟨a, vs, h1, .inr h2, h3⟩
  | tpl xs =>
    cases e
    cases r with
    | sh h => cases h with | tpl h1 _ h2 => exact ⟨_, _, rfl, .inr (.inl (.inr ⟨_, c.sub _ _ h1⟩)), h2⟩
  | _ => cases e
theorem RepH.dct_ {v : V} {kvs : List (Ky × D)} (c : Cells G z τ) (r : RepH G z (.dct kvs) v) : ∃ a ps, v = .ref a ∧ Rd z.H a (.dK ps) ∧ RepK G z.S kvs ps := by
  cases r with
  | sh h => cases h with | dct h1 h2 => exact ⟨_, _, rfl, .inr ⟨_, c.sub _ _ h1⟩, h2⟩
  | dct h1 h2 => exact ⟨_, _, rfl, .inl h1, h2⟩
theorem RepH.ins_ {v : V} {cc : Nat} {fs : List (T × D)} (c : Cells G z τ) (r : RepH G z (.ins cc fs) v) : ∃ a dx ps, v = .ref a ∧ z.H a = some (.ins (G.ca cc) dx ps) ∧ RepF G z.S fs ps := by
  cases r with
  | sh h => cases h with | ins h1 h2 => exact ⟨_, _, _, rfl, c.sub _ _ h1, h2⟩
  | ins h1 h2 => exact ⟨_, _, _, rfl, h1, h2⟩

/-! ### a new object -/
theorem CellR.more {S S' H H' : Hp} {a : Addr} {cl : Cell} (h : CellR G S H a cl) (s : Same S S') (e1 : S a = none → S' a = none) (e2 : ∀ o, H a = some o → H' a = some o) : CellR G S' H' a cl := by
  cases cl with
  | dead => exact trivial
  | lst ds => obtain ⟨n, vs, h1, h2⟩ := h; exact ⟨e1 n, vs, e2 _ h1, Reps.mono s _ _ h2⟩
  | dct ds => obtain ⟨n, vs, h1, h2⟩ := h; exact ⟨e1 n, vs, e2 _ h1, RepK.mono s _ _ h2⟩
  | dcx ds x => obtain ⟨n, o, vs, v, h1, h2, h3⟩ := h; exact ⟨e1 n, o, vs, v, e2 _ h1, RepK.mono s _ _ h2, Rep.mono s _ _ h3⟩
  | ins cc ds => obtain ⟨n, dx, vs, h1, h2⟩ := h; exact ⟨e1 n, dx, vs, e2 _ h1, RepF.mono s _ _ h2⟩
theorem same_upd {H : Hp} {p : Addr} {o : HO} (h : H p = none) : Same H (upd H p o) := fun b u e => by rw [upd_ne (ne_of_none e h)]; exact e
theorem Cells.none_ (c : Cells G z τ) {p : Addr} (h : z.H p = none) : z.S p = none := Same.free c.sub h
theorem Cells.nin (c : Cells G z τ) {p : Addr} (h : z.H p = none) : p ∉ z.ms := fun m => by
  obtain ⟨o, e, _⟩ := c.al p m
  rw [h] at e; cases e
theorem fut_sh {p : Addr} {o : HO} (hn : z.S p = none) (h : z.H p = none) : Fut z ⟨upd z.S p o, upd z.H p o, z.ms⟩ :=
  ⟨same_upd hn, List.prefix_refl _, fun a u e _ _ => same_upd h a u e, fun a u e t => ⟨u, same_upd h a u e, t⟩,
    fun a u e _ _ => upd_ne (ne_of_none e h), fun a m => .inl m⟩
theorem cells_sh (c : Cells G z τ) {p : Addr} {o : HO} (h : z.H p = none) (no : notTbl o := by intro ps e; cases e) : Cells G ⟨upd z.S p o, upd z.H p o, z.ms⟩ τ := by
  have hn := c.none_ h
  refine ⟨fun b u e => ?_, c.len, c.nd, fun a m => ?_, fun i a cl e1 e2 => ?_, c.tab.ext (same_upd h), fun a u e => by
    by_cases ha : a = p
    · have e : upd z.S p o a = some u := e
      rw [ha, upd_same] at e
      cases e
      exact no
    · have e : upd z.S p o a = some u := e
      rw [upd_ne ha] at e
      exact c.nt a u e⟩
  · by_cases hb : b = p
    · subst hb
      have e : upd z.S b o b = some u := e
      rw [upd_same] at e
      show upd z.H b o b = some u
      rw [upd_same]
      exact e
    · have e : upd z.S p o b = some u := e
      rw [upd_ne hb] at e
      show upd z.H p o b = some u
      rw [upd_ne hb]
      exact c.sub b u e
  · obtain ⟨u, e, q⟩ := c.al a m
    exact ⟨u, same_upd h a u e, q⟩
  · have ne : a ≠ p := fun q => c.nin h (q ▸ List.mem_of_getElem? e1)
    exact (c.at_ i a cl e1 e2).more (same_upd hn) (fun n => (upd_ne ne).trans n) fun u e => (upd_ne ne).trans e
theorem fut_own {p : Addr} {o : HO} (h : z.H p = none) : Fut z ⟨z.S, upd z.H p o, z.ms ++ [p]⟩ :=
  ⟨Same.refl _, List.prefix_append _ _, fun a u e _ _ => same_upd h a u e, fun a u e t => ⟨u, same_upd h a u e, t⟩, fun a u e _ _ => rfl, fun a m => by
    rcases List.mem_append.mp m with m | m
    · exact .inl m
    · refine .inr fun u e => ?_
      rw [List.mem_singleton.mp m, h] at e
      cases e⟩
theorem cells_own (c : Cells G z τ) {p : Addr} {o : HO} {cl : Cell} (h : z.H p = none) (ho : pln o) (hc : CellR G z.S (upd z.H p o) p cl) : Cells G ⟨z.S, upd z.H p o, z.ms ++ [p]⟩ (τ ++ [cl]) := by
  refine ⟨c.sub.trans (same_upd h), by simp [c.len], ?_, fun a m => ?_, fun i a cl' e1 e2 => ?_, c.tab.ext (same_upd h), c.nt⟩
  · refine List.nodup_append.mpr ⟨c.nd, by simp, fun a ha b hb => ?_⟩
    rw [List.mem_singleton.mp hb]
    exact fun q => c.nin h (q ▸ ha)
  · rcases List.mem_append.mp m with m | m
    · obtain ⟨u, e, q⟩ := c.al a m
      exact ⟨u, same_upd h a u e, q⟩
    · rw [List.mem_singleton.mp m]
      exact ⟨o, upd_same, ho⟩
  · by_cases hi : i < z.ms.length
    · have e1 : (z.ms ++ [p])[i]? = some a := e1
      rw [List.getElem?_append_left hi] at e1
      rw [List.getElem?_append_left (by rw [← c.len]; exact hi)] at e2
      have ne : a ≠ p := fun q => c.nin h (q ▸ List.mem_of_getElem? e1)
      exact (c.at_ i a cl' e1 e2).more (Same.refl _) (fun n => n) fun u e => (upd_ne ne).trans e
    · have e1 : (z.ms ++ [p])[i]? = some a := e1
      have hl := (List.getElem?_eq_some_iff.mp e1).1
      have hi2 : i = z.ms.length := by
        rw [List.length_append, List.length_singleton] at hl
        omega
      subst hi2
      rw [List.getElem?_append_right (Nat.le_refl _)] at e1
      rw [c.len, List.getElem?_append_right (Nat.le_refl _)] at e2
      simp only [Nat.sub_self, List.getElem?_cons_zero, Option.some.injEq] at e1 e2
      subst e1 e2
      exact hc
/-- a new list: shared, or a cell -/
def allocL (own : Bool) (ds : List D) (τ : Store) : R U := if own then .ok (.loc τ.length) (τ ++ [.lst ds]) else .ok (.d (.lst ds)) τ
@[simp] theorem allocL_f (ds : List D) (τ : Store) : allocL false ds τ = .ok (.d (.lst ds)) τ := rfl
@[simp] theorem allocL_t (ds : List D) (τ : Store) : allocL true ds τ = .ok (.loc τ.length) (τ ++ [.lst ds]) := rfl
theorem alloc_lst (c : Cells G z τ) {own : Bool} {ds : List D} {vs : List V} {p : Addr} {W : XK} {Q : VK} (h : z.H p = none) (r : Reps G z.S ds vs) (q : Run G (RepU G) (allocL own ds τ) W z Q) : Q (.ref p) (upd z.H p (.lst vs)) := by
  cases own with
  | false => exact q ⟨upd z.S p (.lst vs), upd z.H p (.lst vs), z.ms⟩ (.ref p) (fut_sh (c.none_ h) h) (cells_sh c h) (.d (.lst upd_same (Reps.mono (same_upd (c.none_ h)) _ _ r)))
  | true =>
    refine q ⟨z.S, upd z.H p (.lst vs), z.ms ++ [p]⟩ (.ref p) (fut_own h) (cells_own c h trivial ⟨c.none_ h, vs, upd_same, r⟩) (.loc ?_)
    show (z.ms ++ [p])[τ.length]? = some p
    rw [← c.len, List.getElem?_append_right (Nat.le_refl _)]
    simp
def allocD (ds : List (Ky × D)) (τ : Store) : R U := .ok (.loc τ.length) (τ ++ [.dct ds])
theorem alloc_dct (c : Cells G z τ) {ds : List (Ky × D)} {vs : List (Key × V)} {p : Addr} {W : XK} {Q : VK} (h : z.H p = none) (r : RepK G z.S ds vs) (q : Run G (RepU G) (allocD ds τ) W z Q) : Q (.ref p) (upd z.H p (.dK vs)) := by
  refine q ⟨z.S, upd z.H p (.dK vs), z.ms ++ [p]⟩ (.ref p) (fut_own h) (cells_own c h trivial ⟨c.none_ h, vs, upd_same, r⟩) (.loc ?_)
  show (z.ms ++ [p])[τ.length]? = some p
  rw [← c.len, List.getElem?_append_right (Nat.le_refl _)]
  simp
theorem alloc_tup (c : Cells G z τ) {ds : List D} {vs : List V} {p : Addr} {W : XK} {Q : VK} (h : z.H p = none) (r : Reps G z.S ds vs) (q : Run G (RepU G) (.ok (.d (.tup ds)) τ) W z Q) : Q (.ref p) (upd z.H p (.tup vs)) :=
  q ⟨upd z.S p (.tup vs), upd z.H p (.tup vs), z.ms⟩ (.ref p) (fut_sh (c.none_ h) h) (cells_sh c h) (.d (.tup (SqT.of upd_same) (Reps.mono (same_upd (c.none_ h)) _ _ r)))

/-! ### a cell is changed, a cell is let go -/
theorem tabs_upd {T : List (Addr × Str)} {H : Hp} {a : Addr} {o o' : HO} (t : Tabs T H) (h : H a = some o) (p : pln o) : Tabs T (upd H a o') := fun x hx => by
  obtain ⟨ps, h1, h2, h3⟩ := t x hx
  have n1 : x.1 ≠ a := fun q => by
    rw [q, h] at h1
    cases h1
    exact p
  refine ⟨ps, by rw [upd_ne n1]; exact h1, h2, fun pos cv hc => ?_⟩
  obtain ⟨cc, e1, e2⟩ := h3 pos cv hc
  have n2 : cc ≠ a := fun q => by
    rw [q, h] at e2
    have e3 := Option.some.inj e2
    subst e3
    exact p
  exact ⟨cc, e1, by rw [upd_ne n2]; exact e2⟩
theorem fut_set {a : Addr} {o o' : HO} (h : z.H a = some o) (m : a ∈ z.ms) (p' : pln o') : Fut z ⟨z.S, upd z.H a o', z.ms⟩ :=
  ⟨Same.refl _, List.prefix_refl _, fun b u e n _ => (upd_ne (show b ≠ a from fun q => n (by rw [q]; exact m))).trans e, fun b u e t => by
    by_cases hb : b = a
    · exact ⟨o', by rw [hb]; exact upd_same, p'.nt⟩
    · exact ⟨u, (upd_ne hb).trans e, t⟩, fun _ _ _ _ _ => rfl, fun _ m => .inl m⟩
theorem cells_set (c : Cells G z τ) {n : Nat} {a : Addr} {o o' : HO} {cl : Cell} (hm : z.ms[n]? = some a) (h : z.H a = some o) (hs : z.S a = none) (p' : pln o') (hc : CellR G z.S (upd z.H a o') a cl) : Cells G ⟨z.S, upd z.H a o', z.ms⟩ (τ.set n cl) := by
  have p : pln o := by
    obtain ⟨u, e, q⟩ := c.al a (List.mem_of_getElem? hm)
    rw [h] at e; cases e
    exact q
  refine ⟨fun b u e => ?_, by simp [c.len], c.nd, fun b m => ?_, fun i b cl' e1 e2 => ?_, tabs_upd c.tab h p, c.nt⟩
  · have nb : b ≠ a := fun q => by
      have e : z.S b = some u := e
      rw [q, hs] at e; cases e
    exact (upd_ne nb).trans (c.sub b u e)
  · by_cases hb : b = a
    · exact ⟨o', by rw [hb]; exact upd_same, p'⟩
    · obtain ⟨u, e, q⟩ := c.al b m
      exact ⟨u, (upd_ne hb).trans e, q⟩
  · by_cases hi : n = i
    · subst hi
      have e1 : z.ms[n]? = some b := e1
      rw [hm] at e1; cases e1
      have hl : n < τ.length := by
        rw [← c.len]
        exact (List.getElem?_eq_some_iff.mp hm).1
      rw [List.getElem?_set_self hl] at e2
      cases e2
      exact hc
    · rw [List.getElem?_set_ne hi] at e2
      have nb : b ≠ a := fun q => by
        subst q
        have e1 : z.ms[i]? = some b := e1
        exact hi (nd_ix c.nd hm e1)
      exact (c.at_ i b cl' e1 e2).more (Same.refl _) (fun n => n) fun u e => (upd_ne nb).trans e
/-- a cell becomes shared data -/
theorem fut_frz {a : Addr} {o : HO} (hs : z.S a = none) (m : a ∈ z.ms) : Fut z ⟨upd z.S a o, z.H, z.ms⟩ :=
  ⟨same_upd hs, List.prefix_refl _, fun _ _ e _ _ => e, fun b u e t => ⟨u, e, t⟩, fun b u e _ n => upd_ne (show b ≠ a from fun q => n (by rw [q]; exact m)), fun _ m => .inl m⟩
theorem cells_frz (c : Cells G z τ) {n : Nat} {a : Addr} {o : HO} (hm : z.ms[n]? = some a) (h : z.H a = some o) (hs : z.S a = none) : Cells G ⟨upd z.S a o, z.H, z.ms⟩ (τ.set n .dead) := by
  refine ⟨fun b u e => ?_, by simp [c.len], c.nd, c.al, fun i b cl' e1 e2 => ?_, c.tab, fun b u e => by
    by_cases hb : b = a
    · have e : upd z.S a o b = some u := e
      rw [hb, upd_same] at e
      cases e
      obtain ⟨v, q1, q2⟩ := c.al a (List.mem_of_getElem? hm)
      rw [h] at q1
      cases q1
      exact q2.nt
    · have e : upd z.S a o b = some u := e
      rw [upd_ne hb] at e
      exact c.nt b u e⟩
  · by_cases hb : b = a
    · have e : upd z.S a o b = some u := e
      rw [hb, upd_same] at e
      cases e
      rw [hb]
      exact h
    · have e : upd z.S a o b = some u := e
      rw [upd_ne hb] at e
      exact c.sub b u e
  · by_cases hi : n = i
    · subst hi
      have hl : n < τ.length := by
        rw [← c.len]
        exact (List.getElem?_eq_some_iff.mp hm).1
      rw [List.getElem?_set_self hl] at e2
      cases e2
      exact trivial
    · rw [List.getElem?_set_ne hi] at e2
      have nb : b ≠ a := fun q => by
        subst q
        have e1 : z.ms[i]? = some b := e1
        exact hi (nd_ix c.nd hm e1)
      exact (c.at_ i b cl' e1 e2).more (same_upd hs) (fun q => (upd_ne nb).trans q) fun u e => e
/-- let go: U as data, the store behind it -/
def frz (τ : Store) : U → Option (D × Store)
  | .d x => some (x, τ)
  | .loc n => match τ[n]? with
    | some (.lst ds) => some (.lst ds, τ.set n .dead)
    | some (.ins c fs) => some (.ins c fs, τ.set n .dead)
    | some (.dcx kvs x) => some (.dcx kvs x, τ.set n .dead)
    | _ => none
  | .fn => none
@[simp] theorem frz_d (τ : Store) (x : D) : frz τ (.d x) = some (x, τ) := rfl
theorem frz_ok (c : Cells G z τ) {u : U} {v : V} {x : D} {τ' : Store} (r : RepU G z u v) (e : frz τ u = some (x, τ')) : ∃ z', z'.H = z.H ∧ Fut z z' ∧ Cells G z' τ' ∧ Rep G z'.S x v ∧ z'.ms = z.ms := by
  cases r with
  | d h =>
    cases e
    exact ⟨z, rfl, Fut.refl z, c, h, rfl⟩
  | loc h =>
    rename_i n a
    unfold frz at e
    simp only at e
    have m := List.mem_of_getElem? h
    cases q : τ[n]? with
    | none => rw [q] at e; cases e
    | some cl =>
      have w := c.at_ n a cl h q
      rw [q] at e
      cases cl with
      | dead => cases e
      | lst ds =>
        cases e
        obtain ⟨hs, vs, h1, h2⟩ := w
        exact ⟨⟨upd z.S a (.lst vs), z.H, z.ms⟩, rfl, fut_frz hs m, cells_frz c h h1 hs, .lst upd_same (Reps.mono (same_upd hs) _ _ h2), rfl⟩
      | dct ds => cases e
      | ins cc ds =>
        cases e
        obtain ⟨hs, dx, vs, h1, h2⟩ := w
        exact ⟨⟨upd z.S a (.ins (G.ca cc) dx vs), z.H, z.ms⟩, rfl, fut_frz hs m, cells_frz c h h1 hs, .ins upd_same (RepF.mono (same_upd hs) _ _ h2), rfl⟩
      | dcx ds x0 =>
        cases e
        obtain ⟨hs, o, vs, v, h1, h2, h3⟩ := w
        exact ⟨⟨upd z.S a (.frz o (oddO G.w a vs v)), z.H, z.ms⟩, rfl, fut_frz hs m, cells_frz c h h1 hs, .dcx upd_same (RepK.mono (same_upd hs) _ _ h2) (Rep.mono (same_upd hs) _ _ h3), rfl⟩
  | fn h => cases e
end

/-! ### two values by an operator -/
def OpS (G : Gd) (g : D → D → Store → R U) (r : R2) : Prop :=
  ∀ (z : Z) (a b : D) (τ : Store) (x y : V) (W : XK) (Q : VK), Cells G z τ → RepH G z a x → RepH G z b y → Run G (RepU G) (g a b τ) W z Q → r x y z.H Q
def opD (g : D → D → Store → R U) (u w : U) (τ : Store) : R U := match vw τ u, vw τ w with
  | some a, some b => g a b τ
  | _, _ => .bad
@[simp] theorem opD_d (g : D → D → Store → R U) (a b : D) (τ : Store) : opD g (.d a) (.d b) τ = g a b τ := rfl
def eOp (g : D → D → Store → R U) (fa fb : EV) : EV := fun ρ τ => (fa ρ τ).bind fun u τ1 => (fb ρ τ1).bind fun w τ2 => opD g u w τ2
theorem opD_run {G : Gd} {g : D → D → Store → R U} {r : R2} (hs : OpS G g r) (z : Z) (u w : U) (τ : Store) (x y : V) (W : XK) (Q : VK) (c : Cells G z τ) (r1 : RepU G z u x) (r2 : RepU G z w y) (q : Run G (RepU G) (opD g u w τ) W z Q) : r x y z.H Q := by
  unfold opD at q
  cases e1 : vw τ u with
  | none => rw [e1] at q; exact q.elim
  | some a =>
    cases e2 : vw τ w with
    | none => rw [e1, e2] at q; exact q.elim
    | some b =>
      rw [e1, e2] at q
      exact hs z a b τ x y W Q c (vw_rep c r1 e1) (vw_rep c r2 e2) q
/-- a truth value wanted -/
def bOf (f : EV) : EB := fun ρ τ => (f ρ τ).bind fun u τ1 => match u with
  | .d (.bl b) => .ok b τ1
  | _ => .bad
section
variable {X : Cx} {G : Gd} {W : WX} {a b : Expr} {fa fb : EV} {pos : Pos}
theorem v_op {op : Operator} {g : D → D → Store → R U} {r : R2} (ho : OpR X (binaryOp op) r) (hs : OpS G g r) (ha : PE X a (VE G W fa)) (hb : PE X b (VE G W fb)) : PE X (.BinOp a op b pos) (VE G W (eOp g fa fb)) :=
  ve_step2 (pe_op ho ha hb) (fun _ _ _ h => h) (opD_run hs)
theorem v_cmp {op : CmpOp} {g : D → D → Store → R U} {r : R2} (ho : OpR X (compareOp op) r) (hs : OpS G g r) (ha : PE X a (VE G W fa)) (hb : PE X b (VE G W fb)) (hm : behindInMarks op b = false) : PE X (.Compare a [op] [b] pos) (VE G W (eOp g fa fb)) :=
  ve_step2 (pe_cmpR ho ha hb hm) (fun _ _ _ h => h) (opD_run hs)
/-- from a reading as a value to one as a truth value -/
theorem vb_tB {t : TE} {f : EV} {e : Expr} (h : PT X e (tB t)) (w : ∀ σ H Q, VE G W f σ H Q → t σ H Q) : PT X e (VB G W (bOf f)) := by
  refine pt_weak h fun σ H Q ⟨z, ρ, τ, hz, c, en, q⟩ => w _ _ _ ⟨z, ρ, τ, hz, c, en, ?_⟩
  refine (Run.bind q).imp fun v H1 ⟨z1, u, τ1, e1, f, c1, r1, q1⟩ => ?_
  subst e1
  cases u with
  | loc n => exact q1.elim
  | fn => exact q1.elim
  | d x =>
    cases x with
    | bl k =>
      cases r1 with
      | d r1 =>
        cases r1
        exact ⟨k, rfl, q1.ok c1 rfl⟩
    | _ => exact q1.elim
theorem vb_val {e : Expr} {f : EV} (h : PE X e (VE G W f)) (he : ∀ whole, isTrue e X.env whole = (do let v ← whole; standAt e.pos; holding [v] (truthy v)) := by intro _; rfl) : PT X e (VB G W (bOf f)) :=
  vb_tB (pt_val h he) fun _ _ _ q => q
theorem vb_cmp {op : CmpOp} {g : D → D → Store → R U} {r : R2} (ho : OpR X (compareOp op) r) (hs : OpS G g r) (ha : PE X a (VE G W fa)) (hb : PE X b (VE G W fb)) (hm : behindInMarks op b = false) : PT X (.Compare a [op] [b] pos) (VB G W (bOf (eOp g fa fb))) := by
  refine vb_tB (t := tOp r (VE G W fa) (VE G W fb)) (pt_cmpR ho ha hb hm) fun σ H Q q => ?_
  obtain ⟨z, ρ, τ, hz, c, en, q⟩ := q
  refine ⟨z, ρ, τ, hz, c, en, ?_⟩
  exact (Run.bind q).imp fun x H1 ⟨z1, u, τ1, e1, f, c1, r1, q1⟩ => by
    subst e1
    refine ⟨z1, ρ, τ1, rfl, c1, en.fut f, ?_⟩
    exact (Run.bind q1).imp fun y H2 ⟨z2, w, τ2, e2, f2, c2, r2, q2⟩ => by
      subst e2
      exact opD_run hs z2 u w τ2 x y _ Q c2 (r1.fut f2) r2 q2
end
end VL

/-! The value layer, 3: the operators' rules, displays, subscripts, truth, built-in calls. -/
namespace VL
open PySem PySem.Spec PyProof.Rows L2 LamX

/-! ### data for == and repr -/
mutual
def D.py : D → Option PyData
  | .non => some .none
  | .bl b => some (.bool b)
  | .int i => some (.int i)
  | .str t => some (.str t.s)
  | .tup ds => (pys ds).map PyData.tuple
  | .tpl ds => (pys ds).map PyData.tuple
  | .lst ds => (pys ds).map PyData.list
  | .fl _ => none
  | .dct _ => none
  | .dcu _ => none
  | .dcx _ _ => none
  | .ins _ _ => none
  | .cls _ => none
  | .exn _ _ => none
def pys : List D → Option (List PyData)
  | [] => some []
  | d :: ds => match D.py d, pys ds with
    | some x, some xs => some (x :: xs)
    | _, _ => none
end
section
variable {G : Gd} {S : Hp}
mutual
theorem Rep.dp : ∀ (d : D) (v : V) (x : PyData), Rep G S d v → d.py = some x → Dp G.K S v x
  | .non, _, _, h, e => by cases h; cases e; exact .non
  | .bl b, _, _, h, e => by cases h; cases e; exact .bl b
  | .int i, _, _, h, e => by cases h; cases e; exact .int i
  | .str t, _, _, h, e => by cases h; cases e; exact .str _
  | .tup ds, _, x, h, e => by
    cases h with
    | tup h1 h2 =>
      cases q : pys ds with
      | none => simp [D.py, q] at e
      | some xs =>
        simp only [D.py, q, Option.map_some, Option.some.injEq] at e
        subst e
        exact .tup h1 (Reps.dp ds _ xs h2 q)
  | .tpl ds, _, x, h, e => by
    cases h with
    | tpl h1 _ h2 =>
      cases q : pys ds with
      | none => simp [D.py, q] at e
      | some xs =>
        simp only [D.py, q, Option.map_some, Option.some.injEq] at e
        subst e
        exact .tup (.inl (.inr ⟨_, h1⟩)) (Reps.dp ds _ xs h2 q)
  | .lst ds, _, x, h, e => by
    cases h with
    | lst h1 h2 =>
      cases q : pys ds with
      | none => simp [D.py, q] at e
      | some xs =>
        simp only [D.py, q, Option.map_some, Option.some.injEq] at e
        subst e
        exact .lst (SqL.of h1) (Reps.dp ds _ xs h2 q)
  | .fl _, _, _, _, e => by cases e
  | .dct _, _, _, _, e => by cases e
  | .dcu _, _, _, _, e => by cases e
  | .dcx _ _, _, _, _, e => by cases e
  | .ins _ _, _, _, _, e => by cases e
  | .cls _, _, _, _, e => by cases e
  | .exn _ _, _, _, _, e => by cases e
theorem Reps.dp : ∀ (ds : List D) (vs : List V) (xs : List PyData), Reps G S ds vs → pys ds = some xs → DpAll G.K S vs xs
  | [], _, _, h, e => by cases h; cases e; exact .nil
  | d :: ds, _, xs, h, e => by
    cases h with
    | cons h1 h2 =>
      cases q1 : D.py d with
      | none => simp [pys, q1] at e
      | some x =>
        cases q2 : pys ds with
        | none => simp [pys, q1, q2] at e
        | some ys =>
          simp only [pys, q1, q2, Option.some.injEq] at e
          subst e
          exact .cons (Rep.dp d _ x h1 q1) (Reps.dp ds _ ys h2 q2)
end
end
mutual
theorem dp_mono {K : PySem.W.Frag} {S S' : Hp} (e : Same S S') : ∀ (x : PyData) (v : V), Dp K S v x → Dp K S' v x
  | .none, _, h => by cases h; exact .non
  | .bool b, _, h => by cases h; exact .bl b
  | .int i, _, h => by cases h; exact .int i
  | .str s, _, h => by cases h; exact .str s
  | .list xs, _, h => by
    cases h with
    | lst h1 h2 => exact .lst (sqL_mono e h1) (dpAll_mono e xs _ h2)
  | .tuple xs, _, h => by
    cases h with
    | tup h1 h2 => exact .tup (sqT_mono e h1) (dpAll_mono e xs _ h2)
  | .dict _, _, h => by cases h
theorem dpAll_mono {K : PySem.W.Frag} {S S' : Hp} (e : Same S S') : ∀ (xs : List PyData) (vs : List V), DpAll K S vs xs → DpAll K S' vs xs
  | [], _, h => by cases h; exact .nil
  | x :: xs, _, h => by
    cases h with
    | cons h1 h2 => exact .cons (dp_mono e x _ h1) (dpAll_mono e xs _ h2)
end
theorem RepH.dp_ {G : Gd} {z : Z} {τ : Store} (c : Cells G z τ) {d : D} {v : V} {x : PyData} (r : RepH G z d v) (e : d.py = some x) : Dp G.K z.H v x := by
  cases r with
  | sh h => exact dp_mono c.sub _ _ (Rep.dp _ _ _ h e)
  | lst h1 h2 =>
    rename_i a vs ds
    cases q : pys ds with
    | none => simp [D.py, q] at e
    | some xs =>
      simp only [D.py, q, Option.map_some, Option.some.injEq] at e
      subst e
      exact .lst (SqL.of h1) (dpAll_mono c.sub _ _ (Reps.dp ds _ xs h2 q))
  | dct h1 h2 => cases e
  | ins h1 h2 => cases e

/-! ### operators by data -/
def oAdd (own : Bool) : D → D → Store → R U
  | .int i, .int j, τ => .ok (.d (.int (i + j))) τ
  | .str a, .str b, τ => if a.length + b.length ≤ sizeLine then .ok (.d (.str (a ++ b))) τ else .bad
  | .lst a, .lst b, τ => if a.length + b.length ≤ sizeLine then allocL own (a ++ b) τ else .bad
  | .tup a, .tup b, τ => if a.length + b.length ≤ sizeLine then .ok (.d (.tup (a ++ b))) τ else .bad
  | _, _, _ => .bad
def oSub : D → D → Store → R U
  | .int i, .int j, τ => .ok (.d (.int (i - j))) τ
  | _, _, _ => .bad
def oMul : D → D → Store → R U
  | .int i, .int j, τ => if (-(2 ^ 64) < i ∧ i < 2 ^ 64) ∨ (-(2 ^ 64) < j ∧ j < 2 ^ 64) then .ok (.d (.int (i * j))) τ else .bad
  | _, _, _ => .bad
def oMod : D → D → Store → R U
  | .int i, .int j, τ => if 0 < j then .ok (.d (.int (i % j))) τ else .bad
  | _, _, _ => .bad
def oDiv : D → D → Store → R U
  | .int i, .int j, τ => if 0 < j ∧ j < 1073741824 then .ok (.d (.int (i / j))) τ else .bad
  | _, _, _ => .bad
def oPow : D → D → Store → R U
  | .int i, .int j, τ => if 0 ≤ j ∧ j ≤ 1000000 ∧ i.natAbs < 2 ^ 64 then .ok (.d (.int (i ^ j.toNat))) τ else .bad
  | _, _, _ => .bad
theorem s_append (a b : T) : a.s ++ b.s = T.s (a ++ b) := by
  show (⟨a.toArray ++ b.toArray⟩ : Str) = ⟨(a ++ b).toArray⟩
  simp
def rAdd' (K : PySem.W.Frag) : R2 := fun x y H Q => (∃ i j, x = .int i ∧ y = .int j ∧ Q (.int (i + j)) H) ∨ ((∃ i j, x = .str i ∧ y = .str j ∧ i.length + j.length ≤ sizeLine ∧ Q (.str (i ++ j)) H) ∨ (rCat x y H Q ∨ rCatA K x y H Q))
theorem op_add' {X : Cx} : OpR X (binaryOp .Add) (rAdd' X.K) := OpR.or op_add (OpR.or op_add_str (OpR.or op_cat op_catA))
section
variable {G : Gd}
theorem s_add {own : Bool} : OpS G (oAdd own) (rAdd' G.K) := by
  intro z a b τ x y W Q c ra rb q
  cases a <;> cases b <;> first | exact q.elim | skip
  · rw [ra.int_, rb.int_]
    exact .inl ⟨_, _, rfl, rfl, Run.ok (rep := RepU G) q c (.d (.int _))⟩
  · rename_i s t
    rw [ra.str_, rb.str_]
    simp only [oAdd] at q
    split at q
    · rename_i h
      refine .inr (.inl ⟨_, _, rfl, rfl, by rw [T.len, T.len]; exact h, ?_⟩)
      rw [s_append]
      exact Run.ok (rep := RepU G) q c (.d (.str _))
    · exact q.elim
  · rename_i as bs
    obtain ⟨p, vs, rfl, h1, h2⟩ := ra.tup_ c
    obtain ⟨p', vs', rfl, h1', h2'⟩ := rb.tup_ c
    simp only [oAdd] at q
    split at q
    · rename_i h
      refine .inr (.inr (.inr ⟨_, _, _, _, rfl, rfl, h1, h1', by rw [← h2.length, ← h2'.length]; exact h, fun e => ?_, fun _ e => ?_, fun _ _ p hp => alloc_tup c hp (h2.append h2') q⟩))
      · subst e
        cases h2
        refine Run.ok (rep := RepU G) q c (.d ?_)
        cases rb with
        | sh r => exact r
      · subst e
        cases h2'
        rw [List.append_nil] at q
        refine Run.ok (rep := RepU G) q c (.d ?_)
        cases ra with
        | sh r => exact r
    · exact q.elim
  · rename_i as bs
    obtain ⟨p, vs, rfl, h1, h2⟩ := ra.lst_ c
    obtain ⟨p', vs', rfl, h1', h2'⟩ := rb.lst_ c
    simp only [oAdd] at q
    split at q
    · rename_i h
      exact .inr (.inr (.inl ⟨_, _, _, _, rfl, rfl, h1, h1', by rw [← h2.length, ← h2'.length]; exact h, fun p hp => alloc_lst c hp (h2.append h2') q⟩))
    · exact q.elim
theorem s_int0 {g : Int → Int → V} {o : D → D → Store → R U} {h : Int → Int → D} (hr : ∀ S i j, Rep G S (h i j) (g i j)) (e : ∀ a b τ, o a b τ = .bad ∨ ∃ i j, a = .int i ∧ b = .int j ∧ o a b τ = .ok (.d (h i j)) τ) : OpS G o (rI0 g) := by
  intro z a b τ x y W Q c ra rb q
  rcases e a b τ with e | ⟨i, j, rfl, rfl, e⟩
  · rw [e] at q; exact q.elim
  · rw [e] at q
    rw [ra.int_, rb.int_]
    exact ⟨i, j, rfl, rfl, Run.ok (rep := RepU G) q c (.d (hr _ i j))⟩
theorem s_int1 {C : Int → Int → Prop} {g : Int → Int → V} {o : D → D → Store → R U} {h : Int → Int → D} (hr : ∀ S i j, Rep G S (h i j) (g i j)) (e : ∀ a b τ, o a b τ = .bad ∨ ∃ i j, a = .int i ∧ b = .int j ∧ C i j ∧ o a b τ = .ok (.d (h i j)) τ) : OpS G o (rI C g) := by
  intro z a b τ x y W Q c ra rb q
  rcases e a b τ with e | ⟨i, j, rfl, rfl, hc, e⟩
  · rw [e] at q; exact q.elim
  · rw [e] at q
    rw [ra.int_, rb.int_]
    exact ⟨i, j, rfl, rfl, hc, Run.ok (rep := RepU G) q c (.d (hr _ i j))⟩
theorem s_sub : OpS G oSub (rI0 fun i j => .int (i - j)) := s_int0 (h := fun i j => .int (i - j)) (fun _ _ _ => .int _) fun a b τ => by
  cases a <;> cases b <;> first | exact .inl rfl | exact .inr ⟨_, _, rfl, rfl, rfl⟩
theorem s_mul : OpS G oMul (rI CMul fun i j => .int (i * j)) := s_int1 (h := fun i j => .int (i * j)) (fun _ _ _ => .int _) fun a b τ => by
  cases a <;> cases b <;> first | exact .inl rfl | skip
  simp only [oMul]
  split
  · rename_i h
    exact .inr ⟨_, _, rfl, rfl, h, rfl⟩
  · exact .inl rfl
theorem s_mod : OpS G oMod (rI (fun _ j => 0 < j) fun i j => .int (i % j)) := s_int1 (h := fun i j => .int (i % j)) (fun _ _ _ => .int _) fun a b τ => by
  cases a <;> cases b <;> first | exact .inl rfl | skip
  simp only [oMod]
  split
  · rename_i h
    exact .inr ⟨_, _, rfl, rfl, h, rfl⟩
  · exact .inl rfl
theorem s_div : OpS G oDiv (rI CDiv fun i j => .int (i / j)) := s_int1 (h := fun i j => .int (i / j)) (fun _ _ _ => .int _) fun a b τ => by
  cases a <;> cases b <;> first | exact .inl rfl | skip
  simp only [oDiv]
  split
  · rename_i h
    exact .inr ⟨_, _, rfl, rfl, h, rfl⟩
  · exact .inl rfl
theorem s_pow : OpS G oPow (rI CPow fun i j => .int (i ^ j.toNat)) := s_int1 (h := fun i j => .int (i ^ j.toNat)) (fun _ _ _ => .int _) fun a b τ => by
  cases a <;> cases b <;> first | exact .inl rfl | skip
  simp only [oPow]
  split
  · rename_i h
    exact .inr ⟨_, _, rfl, rfl, h, rfl⟩
  · exact .inl rfl
end

/-! ### comparisons by data -/
def shp (x : PyData) : Bool := SeqAt.shaped x
def oEq : D → D → Store → R U
  | .int i, .int j, τ => .ok (.d (.bl (decide (i = j)))) τ
  | .str a, .str b, τ => .ok (.d (.bl (decide (a = b)))) τ
  | .bl a, .bl b, τ => .ok (.d (.bl (decide (a = b)))) τ
  | a, b, τ => match a.py, b.py with
    | some x, some y => if shp x = true ∧ shp y = true then .ok (.d (.bl (PyData.eqv x y))) τ else .bad
    | _, _ => .bad
def bNot : R U → R U
  | .ok (.d (.bl b)) τ => .ok (.d (.bl (!b))) τ
  | _ => .bad
def oNe (a b : D) (τ : Store) : R U := bNot (oEq a b τ)
def rEq' (K : PySem.W.Frag) : R2 := fun x y H Q => rEq x y H Q ∨ rEqD K x y H Q
def rNe' (K : PySem.W.Frag) : R2 := fun x y H Q => rNe x y H Q ∨ rNeD K x y H Q
theorem op_eq' {X : Cx} (hu : X.A.units + 64 < cLine) : OpR X (compareOp .Eq) (rEq' X.K) := OpR.or op_eq (op_eqD hu)
theorem op_ne' {X : Cx} (hu : X.A.units + 64 < cLine) : OpR X (compareOp .NotEq) (rNe' X.K) := OpR.or op_ne (op_neD hu)
theorem dec_s {a b : T} : decide (V.str a.s = V.str b.s) = decide (a = b) := by
  by_cases h : a = b
  · subst h; simp
  · rw [decide_eq_false h, decide_eq_false]
    intro q
    exact h (T.inj (V.str.inj q))
/-- the ways of == -/
theorem oEq_ways (G : Gd) (z : Z) (a b : D) (τ : Store) {x y : V} (c : Cells G z τ) (ra : RepH G z a x) (rb : RepH G z b y) :
    oEq a b τ = .bad ∨ (∃ k, oEq a b τ = .ok (.d (.bl k)) τ ∧ scal x y = true ∧ decide (x = y) = k) ∨
      ∃ d e, Dp G.K z.H x d ∧ Dp G.K z.H y e ∧ SeqAt.shaped d = true ∧ SeqAt.shaped e = true ∧ oEq a b τ = .ok (.d (.bl (PyData.eqv d e))) τ := by
  have gen : ∀ r : R U, r = (match a.py, b.py with
    | some x, some y => if shp x = true ∧ shp y = true then .ok (.d (.bl (PyData.eqv x y))) τ else .bad
    | _, _ => .bad) → r = .bad ∨ (∃ k, r = .ok (.d (.bl k)) τ ∧ scal x y = true ∧ decide (x = y) = k) ∨
      ∃ d e, Dp G.K z.H x d ∧ Dp G.K z.H y e ∧ SeqAt.shaped d = true ∧ SeqAt.shaped e = true ∧ r = .ok (.d (.bl (PyData.eqv d e))) τ := by
    intro r hr
    subst hr
    cases e1 : a.py with
    | none => exact .inl rfl
    | some d =>
      cases e2 : b.py with
      | none => exact .inl rfl
      | some e =>
        by_cases h : shp d = true ∧ shp e = true
        · exact .inr (.inr ⟨d, e, ra.dp_ c e1, rb.dp_ c e2, h.1, h.2, if_pos h⟩)
        · exact .inl (if_neg h)
  cases a <;> cases b <;> first
    | exact gen _ rfl
    | (rw [ra.int_, rb.int_]; exact .inr (.inl ⟨_, rfl, rfl, by simp⟩))
    | (rw [ra.str_, rb.str_]; exact .inr (.inl ⟨_, rfl, rfl, dec_s⟩))
    | (rw [ra.bl_, rb.bl_]; exact .inr (.inl ⟨_, rfl, rfl, by simp⟩))
section
variable {G : Gd}
theorem s_eq : OpS G oEq (rEq' G.K) := by
  intro z a b τ x y W Q c ra rb q
  rcases oEq_ways G z a b τ c ra rb with e | ⟨k, e, h1, h2⟩ | ⟨d, e', h1, h2, h3, h4, e⟩
  · rw [e] at q; exact q.elim
  · rw [e] at q
    refine .inl ⟨h1, ?_⟩
    rw [h2]
    exact Run.ok (rep := RepU G) q c (.d (.bl _))
  · rw [e] at q
    exact .inr ⟨d, e', h1, h2, h3, h4, Run.ok (rep := RepU G) q c (.d (.bl _))⟩
theorem s_ne : OpS G oNe (rNe' G.K) := by
  intro z a b τ x y W Q c ra rb q
  unfold oNe at q
  rcases oEq_ways G z a b τ c ra rb with e | ⟨k, e, h1, h2⟩ | ⟨d, e', h1, h2, h3, h4, e⟩
  · rw [e] at q; exact q.elim
  · rw [e] at q
    refine .inl ⟨h1, ?_⟩
    rw [h2]
    exact Run.ok (rep := RepU G) (a := U.d (.bl (!k))) q c (.d (.bl _))
  · rw [e] at q
    exact .inr ⟨d, e', h1, h2, h3, h4, Run.ok (rep := RepU G) (a := U.d (.bl (!PyData.eqv d e'))) q c (.d (.bl _))⟩
end
def oLt : D → D → Store → R U
  | .int i, .int j, τ => .ok (.d (.bl (decide (i < j)))) τ
  | .str a, .str b, τ => .ok (.d (.bl (decide (a < b)))) τ
  | _, _, _ => .bad
def oLe : D → D → Store → R U
  | .int i, .int j, τ => .ok (.d (.bl (decide (i ≤ j)))) τ
  | .str a, .str b, τ => .ok (.d (.bl (!decide (b < a)))) τ
  | _, _, _ => .bad
def oGt : D → D → Store → R U
  | .int i, .int j, τ => .ok (.d (.bl (decide (j < i)))) τ
  | .str a, .str b, τ => .ok (.d (.bl (decide (b < a)))) τ
  | _, _, _ => .bad
def oGe : D → D → Store → R U
  | .int i, .int j, τ => .ok (.d (.bl (decide (j ≤ i)))) τ
  | .str a, .str b, τ => .ok (.d (.bl (!decide (a < b)))) τ
  | _, _, _ => .bad
def rS (g : Str → Str → Bool) : R2 := fun x y H Q => ∃ i j, x = .str i ∧ y = .str j ∧ Q (.bl (g i j)) H
section
variable {G : Gd} {X : Cx}
theorem s_is {gi : Int → Int → Bool} {gs : Str → Str → Bool} {gt : T → T → Bool} {o : D → D → Store → R U} (ht : ∀ a b, gs (T.s a) (T.s b) = gt a b)
    (e : ∀ a b τ, o a b τ = .bad ∨ (∃ i j, a = .int i ∧ b = .int j ∧ o a b τ = .ok (.d (.bl (gi i j))) τ) ∨ ∃ s t, a = .str s ∧ b = .str t ∧ o a b τ = .ok (.d (.bl (gt s t))) τ) :
    OpS G o (fun x y H Q => rI0 (fun i j => .bl (gi i j)) x y H Q ∨ rS gs x y H Q) := by
  intro z a b τ x y W Q c ra rb q
  rcases e a b τ with e | ⟨i, j, rfl, rfl, e⟩ | ⟨s, t, rfl, rfl, e⟩
  · rw [e] at q; exact q.elim
  · rw [e] at q
    rw [ra.int_, rb.int_]
    exact .inl ⟨i, j, rfl, rfl, Run.ok (rep := RepU G) q c (.d (.bl _))⟩
  · rw [e] at q
    rw [ra.str_, rb.str_]
    refine .inr ⟨_, _, rfl, rfl, ?_⟩
    rw [ht]
    exact Run.ok (rep := RepU G) q c (.d (.bl _))
theorem op_lt' : OpR X (compareOp .Lt) (fun x y H Q => rI0 (fun i j => .bl (decide (i < j))) x y H Q ∨ rS (fun i j => decide (i.cps.toList < j.cps.toList)) x y H Q) := OpR.or op_lt op_lt_str
theorem op_le' : OpR X (compareOp .LtE) (fun x y H Q => rI0 (fun i j => .bl (decide (i ≤ j))) x y H Q ∨ rS (fun i j => !decide (j.cps.toList < i.cps.toList)) x y H Q) := OpR.or op_le op_le_str
theorem op_gt' : OpR X (compareOp .Gt) (fun x y H Q => rI0 (fun i j => .bl (decide (j < i))) x y H Q ∨ rS (fun i j => decide (j.cps.toList < i.cps.toList)) x y H Q) := OpR.or op_gt op_gt_str
theorem op_ge' : OpR X (compareOp .GtE) (fun x y H Q => rI0 (fun i j => .bl (decide (j ≤ i))) x y H Q ∨ rS (fun i j => !decide (i.cps.toList < j.cps.toList)) x y H Q) := OpR.or op_ge op_ge_str
theorem s_lt : OpS G oLt (fun x y H Q => rI0 (fun i j => .bl (decide (i < j))) x y H Q ∨ rS (fun i j => decide (i.cps.toList < j.cps.toList)) x y H Q) :=
  s_is (gi := fun i j => decide (i < j)) (gt := fun a b => decide (a < b)) (fun a b => rfl) fun a b τ => by
    cases a <;> cases b <;> first | exact .inl rfl | exact .inr (.inl ⟨_, _, rfl, rfl, rfl⟩) | exact .inr (.inr ⟨_, _, rfl, rfl, rfl⟩)
theorem s_le : OpS G oLe (fun x y H Q => rI0 (fun i j => .bl (decide (i ≤ j))) x y H Q ∨ rS (fun i j => !decide (j.cps.toList < i.cps.toList)) x y H Q) :=
  s_is (gi := fun i j => decide (i ≤ j)) (gt := fun a b => !decide (b < a)) (fun a b => rfl) fun a b τ => by
    cases a <;> cases b <;> first | exact .inl rfl | exact .inr (.inl ⟨_, _, rfl, rfl, rfl⟩) | exact .inr (.inr ⟨_, _, rfl, rfl, rfl⟩)
theorem s_gt : OpS G oGt (fun x y H Q => rI0 (fun i j => .bl (decide (j < i))) x y H Q ∨ rS (fun i j => decide (j.cps.toList < i.cps.toList)) x y H Q) :=
  s_is (gi := fun i j => decide (j < i)) (gt := fun a b => decide (b < a)) (fun a b => rfl) fun a b τ => by
    cases a <;> cases b <;> first | exact .inl rfl | exact .inr (.inl ⟨_, _, rfl, rfl, rfl⟩) | exact .inr (.inr ⟨_, _, rfl, rfl, rfl⟩)
theorem s_ge : OpS G oGe (fun x y H Q => rI0 (fun i j => .bl (decide (j ≤ i))) x y H Q ∨ rS (fun i j => !decide (i.cps.toList < j.cps.toList)) x y H Q) :=
  s_is (gi := fun i j => decide (j ≤ i)) (gt := fun a b => !decide (a < b)) (fun a b => rfl) fun a b τ => by
    cases a <;> cases b <;> first | exact .inl rfl | exact .inr (.inl ⟨_, _, rfl, rfl, rfl⟩) | exact .inr (.inr ⟨_, _, rfl, rfl, rfl⟩)
end

/-! ### in -/
def D.flat : D → Bool
  | .non => true | .bl _ => true | .int _ => true | .str _ => true
  | _ => false
/-- == of flat data -/
def eqF : D → D → Bool
  | .int i, .int j => decide (i = j)
  | .str a, .str b => decide (a = b)
  | .bl a, .bl b => decide (a = b)
  | .non, .non => true
  | .int i, .bl b => decide (i = if b then 1 else 0)
  | .bl b, .int i => decide (i = if b then 1 else 0)
  | _, _ => false
def inF (x : D) (ds : List D) : Bool := ds.any fun y => eqF y x
def oInG (neg : Bool) : D → D → Store → R U
  | .str [c], .str t, τ => .ok (.d (.bl (if neg then !decide (c ∈ t) else decide (c ∈ t)))) τ
  | x, d, τ => match d.seq with
    | some ds => if x.flat = true ∧ ds.all D.flat = true then .ok (.d (.bl (if neg then !inF x ds else inF x ds))) τ else .bad
    | none => .bad
def rInG (K : PySem.W.Frag) (neg : Bool) : R2 := fun x y H Q => (∃ (c : Nat) (z : Str), x = .str ⟨#[c]⟩ ∧ y = .str z ∧ Q (.bl (if neg then !decide (c ∈ z.cps.toList) else decide (c ∈ z.cps.toList))) H) ∨ rIn K neg x y H Q
theorem op_in' {X : Cx} : OpR X (compareOp .In) (rInG X.K false) := OpR.or op_in_sign op_in_seq
theorem op_nin' {X : Cx} : OpR X (compareOp .NotIn) (rInG X.K true) := OpR.or op_notIn_sign op_notIn_seq
section
variable {G : Gd} {z : Z} {S : Hp}
theorem flat_v {d : D} {v : V} (r : Rep G S d v) (h : d.flat = true) : flatV v = true := by
  cases r <;> first | rfl | exact absurd h Bool.false_ne_true
theorem flat_h {d : D} {v : V} (r : RepH G z d v) (h : d.flat = true) : Rep G z.S d v := by
  cases r with
  | sh h => exact h
  | lst _ _ => exact absurd h Bool.false_ne_true
  | dct _ _ => exact absurd h Bool.false_ne_true
  | ins _ _ => exact absurd h Bool.false_ne_true
theorem eqF_v {d e : D} {v w : V} (r : Rep G S d v) (r' : Rep G S e w) (h : d.flat = true) (h' : e.flat = true) : eqV v w = eqF d e := by
  cases r <;> first
    | exact absurd h Bool.false_ne_true
    | (cases r' <;> first
        | exact absurd h' Bool.false_ne_true
        | rfl
        | (simp [eqV, eqF]; done)
        | (rename_i a b; show (T.s a == T.s b) = decide (a = b); by_cases e : a = b
           · subst e; simp
           · rw [decide_eq_false e]; exact beq_eq_false_iff_ne.mpr fun q => e (T.inj q))
        | (simp only [eqV, eqF]; rename_i i b; cases b <;> simp <;> (try rw [Bool.eq_iff_iff]) <;> simp <;> (try omega))
        | (simp only [eqV, eqF]; rename_i b i; cases b <;> simp <;> (try rw [Bool.eq_iff_iff]) <;> simp <;> (try omega)))
theorem flats_v : ∀ {ds : List D} {vs : List V}, Reps G S ds vs → ds.all D.flat = true → vs.all flatV = true
  | _, _, .nil, _ => rfl
  | _, _, .cons r t, h => by
    simp only [List.all_cons, Bool.and_eq_true] at h ⊢
    exact ⟨flat_v r h.1, flats_v t h.2⟩
theorem inF_v {x : D} {v : V} (rx : Rep G S x v) (hx : x.flat = true) : ∀ {ds : List D} {vs : List V}, Reps G S ds vs → ds.all D.flat = true → inV v vs = inF x ds
  | _, _, .nil, _ => rfl
  | _, _, .cons r t, h => by
    simp only [List.all_cons, Bool.and_eq_true] at h
    have ih := inF_v rx hx t h.2
    unfold inV inF at ih ⊢
    rw [List.any_cons, List.any_cons, ih, eqF_v r rx h.1 hx]
theorem s_inG {neg : Bool} : OpS G (oInG neg) (rInG G.K neg) := by
  intro z a b τ x y W Q c ra rb q
  have gen : Run G (RepU G) (match b.seq with
    | some ds => if a.flat = true ∧ ds.all D.flat = true then .ok (.d (.bl (if neg then !inF a ds else inF a ds))) τ else .bad
    | none => .bad) W z Q → rInG G.K neg x y z.H Q := by
    intro q
    cases e : b.seq with
    | none => rw [e] at q; exact q.elim
    | some ds =>
      rw [e] at q
      have q : Run G (RepU G) (if a.flat = true ∧ ds.all D.flat = true then .ok (.d (.bl (if neg then !inF a ds else inF a ds))) τ else .bad) W z Q := q
      by_cases h : a.flat = true ∧ ds.all D.flat = true
      · rw [if_pos h] at q
        obtain ⟨p, vs, rfl, h1, h2⟩ := rb.seq_ c e
        refine .inr ⟨p, vs, rfl, h1, flat_v (flat_h ra h.1) h.1, flats_v h2 h.2, ?_⟩
        rw [inF_v (flat_h ra h.1) h.1 h2 h.2]
        exact Run.ok (rep := RepU G) q c (.d (.bl _))
      · rw [if_neg h] at q; exact q.elim
  unfold oInG at q
  split at q
  · rw [ra.str_, rb.str_]
    exact .inl ⟨_, _, rfl, rfl, Run.ok (rep := RepU G) q c (.d (.bl _))⟩
  · exact gen q
end
/-- is None, is not None -/
def isN : D → Bool
  | .non => true
  | _ => false
def eIs (neg : Bool) (fa : EV) : EV := fun ρ τ => (fa ρ τ).bind fun u τ1 => match u with
  | .d x => .ok (.d (.bl (if neg then !isN x else isN x))) τ1
  | .loc _ => .ok (.d (.bl neg)) τ1
  | .fn => .ok (.d (.bl neg)) τ1
theorem isN_v {G : Gd} {S : Hp} {d : D} {v : V} (r : Rep G S d v) : decide (v = .non) = isN d := by
  cases r <;> rfl
section
variable {X : Cx} {G : Gd} {W : WX} {a : Expr} {fa : EV} {pos p2 : Pos}
theorem v_isN {j} (ha : PE X a (VE G W fa)) : PE X (.Compare a [.Is] [.Constant .none j p2] pos) (VE G W (eIs false fa)) :=
  ve_step1 (pe_cmp (pc_isN ha) rfl) (r := fun x H Q => Q (.bl (decide (x = .non))) H) (fun _ _ _ h => h) fun z u τ v W Q c r q => by
    cases r with
    | d r => rw [isN_v r]; exact Run.ok (rep := RepU G) q c (.d (.bl _))
    | loc h => exact Run.ok (rep := RepU G) q c (.d (.bl _))
    | fn h => exact Run.ok (rep := RepU G) q c (.d (.bl _))
theorem v_notN {j} (ha : PE X a (VE G W fa)) : PE X (.Compare a [.IsNot] [.Constant .none j p2] pos) (VE G W (eIs true fa)) :=
  ve_step1 (pe_cmp (pc_notN ha) rfl) (r := fun x H Q => Q (.bl (!decide (x = .non))) H) (fun _ _ _ h => h) fun z u τ v W Q c r q => by
    cases r with
    | d r => rw [isN_v r]; exact Run.ok (rep := RepU G) q c (.d (.bl _))
    | loc h => exact Run.ok (rep := RepU G) q c (.d (.bl _))
    | fn h => exact Run.ok (rep := RepU G) q c (.d (.bl _))
theorem vb_isN {j} (ha : PE X a (VE G W fa)) : PT X (.Compare a [.Is] [.Constant .none j p2] pos) (VB G W (bOf (eIs false fa))) :=
  vb_tB (pt_cmp (pc_isN ha) rfl) fun σ H Q ⟨z, ρ, τ, hz, c, en, q⟩ => ⟨z, ρ, τ, hz, c, en, (Run.bind q).imp fun v H1 ⟨z1, u, τ1, e1, f, c1, r1, q1⟩ => by
    subst e1
    cases r1 with
    | d r => rw [isN_v r]; exact Run.ok (rep := RepU G) q1 c1 (.d (.bl _))
    | loc h => exact Run.ok (rep := RepU G) q1 c1 (.d (.bl _))
    | fn h => exact Run.ok (rep := RepU G) q1 c1 (.d (.bl _))⟩
theorem vb_notN {j} (ha : PE X a (VE G W fa)) : PT X (.Compare a [.IsNot] [.Constant .none j p2] pos) (VB G W (bOf (eIs true fa))) :=
  vb_tB (pt_cmp (pc_notN ha) rfl) fun σ H Q ⟨z, ρ, τ, hz, c, en, q⟩ => ⟨z, ρ, τ, hz, c, en, (Run.bind q).imp fun v H1 ⟨z1, u, τ1, e1, f, c1, r1, q1⟩ => by
    subst e1
    cases r1 with
    | d r => rw [isN_v r]; exact Run.ok (rep := RepU G) q1 c1 (.d (.bl _))
    | loc h => exact Run.ok (rep := RepU G) q1 c1 (.d (.bl _))
    | fn h => exact Run.ok (rep := RepU G) q1 c1 (.d (.bl _))⟩
end
end VL

/-! The value layer, 4: truth, displays, subscripts, arguments, built-in calls and methods. -/
namespace VL
open PySem PySem.Spec PyProof.Rows L2 LamX

/-! ### and, or, not, if-else -/
def bAnd (f g : EB) : EB := fun ρ τ => (f ρ τ).bind fun b τ1 => if b then g ρ τ1 else .ok false τ1
def bOr (f g : EB) : EB := fun ρ τ => (f ρ τ).bind fun b τ1 => if b then .ok true τ1 else g ρ τ1
def bNeg (f : EB) : EB := fun ρ τ => (f ρ τ).bind fun b τ1 => .ok (!b) τ1
def eAnd (f g : EV) : EV := fun ρ τ => (f ρ τ).bind fun u τ1 => match u with
  | .d (.bl true) => g ρ τ1
  | .d (.bl false) => .ok (.d (.bl false)) τ1
  | _ => .bad
def eOr (f g : EV) : EV := fun ρ τ => (f ρ τ).bind fun u τ1 => match u with
  | .d (.bl false) => g ρ τ1
  | .d (.bl true) => .ok (.d (.bl true)) τ1
  | _ => .bad
def eNot (f : EV) : EV := fun ρ τ => (f ρ τ).bind fun u τ1 => match u with
  | .d (.bl b) => .ok (.d (.bl (!b))) τ1
  | _ => .bad
def eIf (t : EB) (f g : EV) : EV := fun ρ τ => (t ρ τ).bind fun b τ1 => if b then f ρ τ1 else g ρ τ1
section
variable {X : Cx} {G : Gd} {W : WX} {a b c : Expr} {rest : List Expr} {fa fb : EV} {ta tb : EB} {pos : Pos}
theorem wb_and1 (ha : PT X a (VB G W ta)) : PW X (.BoolOp .And [a] pos) (VB G W ta) := pw_and1 ha
theorem wb_or1 (ha : PT X a (VB G W ta)) : PW X (.BoolOp .Or [a] pos) (VB G W ta) := pw_or1 ha
theorem wb_and (ha : PT X a (VB G W ta)) (hb : PW X (.BoolOp .And (b :: rest) pos) (VB G W tb)) : PW X (.BoolOp .And (a :: b :: rest) pos) (VB G W (bAnd ta tb)) := by
  refine pw_weak (pw_and ha hb) fun σ H Q ⟨z, ρ, τ, hz, c, en, q⟩ => ⟨z, ρ, τ, hz, c, en, (Run.bind q).imp fun k H1 ⟨z1, k', τ1, e1, f, c1, r1, q1⟩ => ?_⟩
  subst e1
  have r1 : k' = k := r1
  subst r1
  cases k' with
  | true => exact ⟨z1, ρ, τ1, rfl, c1, en.fut f, q1⟩
  | false => exact Run.ok (rep := EqRep) q1 c1 rfl
theorem wb_or (ha : PT X a (VB G W ta)) (hb : PW X (.BoolOp .Or (b :: rest) pos) (VB G W tb)) : PW X (.BoolOp .Or (a :: b :: rest) pos) (VB G W (bOr ta tb)) := by
  refine pw_weak (pw_or ha hb) fun σ H Q ⟨z, ρ, τ, hz, c, en, q⟩ => ⟨z, ρ, τ, hz, c, en, (Run.bind q).imp fun k H1 ⟨z1, k', τ1, e1, f, c1, r1, q1⟩ => ?_⟩
  subst e1
  have r1 : k' = k := r1
  subst r1
  cases k' with
  | false => exact ⟨z1, ρ, τ1, rfl, c1, en.fut f, q1⟩
  | true => exact Run.ok (rep := EqRep) q1 c1 rfl
theorem vb_not (ha : PT X a (VB G W ta)) : PT X (.UnaryOp .Not a pos) (VB G W (bNeg ta)) := by
  refine pt_weak (pt_not ha) fun σ H Q ⟨z, ρ, τ, hz, c, en, q⟩ => ⟨z, ρ, τ, hz, c, en, (Run.bind q).imp fun k H1 ⟨z1, k', τ1, e1, f, c1, r1, q1⟩ => ?_⟩
  subst e1
  have r1 : k' = k := r1
  subst r1
  exact Run.ok (rep := EqRep) q1 c1 rfl
theorem v_one {op} (h : PE X a (VE G W fa)) : PE X (.BoolOp op [a] pos) (VE G W fa) := pe_one h
theorem v_and (ha : PE X a (VE G W fa)) (hb : PE X (.BoolOp .And (b :: rest) pos) (VE G W fb)) : PE X (.BoolOp .And (a :: b :: rest) pos) (VE G W (eAnd fa fb)) := by
  refine pe_weak (pe_and ha hb) fun σ H Q ⟨z, ρ, τ, hz, c, en, q⟩ => ⟨z, ρ, τ, hz, c, en, (Run.bind q).imp fun v H1 ⟨z1, u, τ1, e1, f, c1, r1, q1⟩ => ?_⟩
  subst e1
  cases u with
  | loc n => exact q1.elim
  | fn => exact q1.elim
  | d x =>
    cases x with
    | bl k =>
      cases r1 with
      | d r1 =>
        cases r1
        cases k with
        | true => exact ⟨true, rfl, ⟨z1, ρ, τ1, rfl, c1, en.fut f, q1⟩⟩
        | false => exact ⟨false, rfl, Run.ok (rep := RepU G) q1 c1 (.d (.bl _))⟩
    | _ => exact q1.elim
theorem v_or (ha : PE X a (VE G W fa)) (hb : PE X (.BoolOp .Or (b :: rest) pos) (VE G W fb)) : PE X (.BoolOp .Or (a :: b :: rest) pos) (VE G W (eOr fa fb)) := by
  refine pe_weak (pe_or ha hb) fun σ H Q ⟨z, ρ, τ, hz, c, en, q⟩ => ⟨z, ρ, τ, hz, c, en, (Run.bind q).imp fun v H1 ⟨z1, u, τ1, e1, f, c1, r1, q1⟩ => ?_⟩
  subst e1
  cases u with
  | loc n => exact q1.elim
  | fn => exact q1.elim
  | d x =>
    cases x with
    | bl k =>
      cases r1 with
      | d r1 =>
        cases r1
        cases k with
        | true => exact ⟨true, rfl, Run.ok (rep := RepU G) q1 c1 (.d (.bl _))⟩
        | false => exact ⟨false, rfl, ⟨z1, ρ, τ1, rfl, c1, en.fut f, q1⟩⟩
    | _ => exact q1.elim
theorem v_not (ha : PE X a (VE G W fa)) : PE X (.UnaryOp .Not a pos) (VE G W (eNot fa)) := by
  refine pe_weak (pe_not ha) fun σ H Q ⟨z, ρ, τ, hz, c, en, q⟩ => ⟨z, ρ, τ, hz, c, en, (Run.bind q).imp fun v H1 ⟨z1, u, τ1, e1, f, c1, r1, q1⟩ => ?_⟩
  subst e1
  cases u with
  | loc n => exact q1.elim
  | fn => exact q1.elim
  | d x =>
    cases x with
    | bl k =>
      cases r1 with
      | d r1 =>
        cases r1
        exact ⟨k, rfl, Run.ok (rep := RepU G) q1 c1 (.d (.bl _))⟩
    | _ => exact q1.elim
theorem v_if (hc : PT X c (VB G W ta)) (ha : PE X a (VE G W fa)) (hb : PE X b (VE G W fb)) : PE X (.IfExp c a b pos) (VE G W (eIf ta fa fb)) := by
  refine pe_weak (pe_ifExp hc ha hb) fun σ H Q ⟨z, ρ, τ, hz, c, en, q⟩ => ⟨z, ρ, τ, hz, c, en, (Run.bind q).imp fun k H1 ⟨z1, k', τ1, e1, f, c1, r1, q1⟩ => ?_⟩
  subst e1
  have r1 : k' = k := r1
  subst r1
  cases k' with
  | true => exact ⟨z1, ρ, τ1, rfl, c1, en.fut f, q1⟩
  | false => exact ⟨z1, ρ, τ1, rfl, c1, en.fut f, q1⟩
end
def eNeg (fa : EV) : EV := fun ρ τ => (fa ρ τ).bind fun u τ1 => match u with
  | .d (.int i) => .ok (.d (.int (-i))) τ1
  | _ => .bad
theorem v_neg {X : Cx} {G : Gd} {W : WX} {a : Expr} {fa : EV} {pos : Pos} (ha : PE X a (VE G W fa)) : PE X (.UnaryOp .USub a pos) (VE G W (eNeg fa)) :=
  ve_step1 (pe_un un_neg ha) (r := rU fun i => .int (-i)) (fun _ _ _ h => h) fun z u τ v W Q c r q => by
    cases u with
    | loc n => exact q.elim
    | fn => exact q.elim
    | d x =>
      cases x with
      | int i =>
        cases r with
        | d r => cases r; exact ⟨i, rfl, Run.ok (rep := RepU G) q c (.d (.int _))⟩
      | _ => exact q.elim
/-- a < b < c, from the two operators -/
def eChain (g g' : D → D → Store → R U) (fa fb fc : EV) : EV := fun ρ τ => (fa ρ τ).bind fun u τ1 => (fb ρ τ1).bind fun w τ2 => (opD g u w τ2).bind fun k τ3 => match k with
  | .d (.bl true) => (fc ρ τ3).bind fun x τ4 => opD g' w x τ4
  | .d (.bl false) => .ok (.d (.bl false)) τ3
  | _ => .bad
section
variable {X : Cx} {G : Gd} {W : WX} {a b c : Expr} {fa fb fc : EV} {pos : Pos} {op op' : CmpOp} {g g' : D → D → Store → R U} {r r' : R2}
/-- an operator whose answer is looked at -/
def OpB (G : Gd) (g : D → D → Store → R U) (r : R2) : Prop :=
  ∀ (z : Z) (u w : U) (τ : Store) (x y : V) (W : XK) (k : V → Hp → Prop), Cells G z τ → RepU G z u x → RepU G z w y → Run G (RepU G) (opD g u w τ) W z k → r x y z.H k
theorem chain_read (hs : OpS G g r) (hs' : OpS G g' r') {σ : L2.St} {H : Hp} {Q : VK} (h : VE G W (eChain g g' fa fb fc) σ H Q) : tChain r r' (VE G W fa) (VE G W fb) (VE G W fc) σ H Q := by
  obtain ⟨z, ρ, τ, hz, c, en, q⟩ := h
  refine ⟨z, ρ, τ, hz, c, en, (Run.bind q).imp fun x H1 ⟨z1, u, τ1, e1, f, c1, r1, q1⟩ => ?_⟩
  subst e1
  refine ⟨z1, ρ, τ1, rfl, c1, en.fut f, (Run.bind q1).imp fun y H2 ⟨z2, w, τ2, e2, f2, c2, r2, q2⟩ => ?_⟩
  subst e2
  refine opD_run hs z2 u w τ2 x y _ _ c2 (r1.fut f2) r2 ((Run.bind q2).imp fun k H3 ⟨z3, kk, τ3, e3, f3, c3, r3, q3⟩ => ?_)
  subst e3
  cases kk with
  | loc n => exact q3.elim
  | fn => exact q3.elim
  | d kx =>
    cases kx with
    | bl kb =>
      cases r3 with
      | d r3 =>
        cases r3
        cases kb with
        | false => exact ⟨false, rfl, Run.ok (rep := RepU G) q3 c3 (.d (.bl _))⟩
        | true =>
          refine ⟨true, rfl, ⟨z3, ρ, τ3, rfl, c3, (en.fut f).fut (f2.trans f3), (Run.bind q3).imp fun w' H4 ⟨z4, u4, τ4, e4, f4, c4, r4, q4⟩ => ?_⟩⟩
          subst e4
          exact opD_run hs' z4 w u4 τ4 y w' _ _ c4 (r2.fut (f3.trans f4)) r4 q4
    | _ => exact q3.elim
theorem v_chain (ho : OpR X (compareOp op) r) (ho' : OpR X (compareOp op') r') (hs : OpS G g r) (hs' : OpS G g' r') (ha : PE X a (VE G W fa)) (hb : PE X b (VE G W fb)) (hc : PE X c (VE G W fc))
    (hm : lastMarks [op, op'] [b, c] = false := by with_unfolding_all rfl) : PE X (.Compare a [op, op'] [b, c] pos) (VE G W (eChain g g' fa fb fc)) :=
  pe_weak (pe_chain ho ho' ha hb hc hm) fun _ _ _ h => chain_read hs hs' h
theorem vb_chain (ho : OpR X (compareOp op) r) (ho' : OpR X (compareOp op') r') (hs : OpS G g r) (hs' : OpS G g' r') (ha : PE X a (VE G W fa)) (hb : PE X b (VE G W fb)) (hc : PE X c (VE G W fc))
    (hm : lastMarks [op, op'] [b, c] = false := by with_unfolding_all rfl) : PT X (.Compare a [op, op'] [b, c] pos) (VB G W (bOf (eChain g g' fa fb fc))) :=
  vb_tB (pt_chain ho ho' ha hb hc hm) fun _ _ _ h => chain_read hs hs' h
end

/-! ### arguments -/
def elNil : EL := fun _ τ => .ok [] τ
def elCons (fa : EV) (fr : EL) : EL := fun ρ τ => (fa ρ τ).bind fun u τ1 => (fr ρ τ1).bind fun us τ2 => .ok (u :: us) τ2
section
variable {X : Cx} {G : Gd} {W : WX} {e : Expr} {es : List Expr} {fa : EV} {fr : EL} {pos : Pos}
theorem va_nil : PA X [] (VA G W elNil) := pa_weak pa_nil fun σ H Q ⟨z, ρ, τ, hz, c, en, q⟩ => by
  subst hz
  exact Run.ok (rep := RepUs G) q c .nil
theorem va_cons (ha : PE X e (VE G W fa)) (hr : PA X es (VA G W fr)) (hs : starEach (e :: es) X.env = (false, eval e X.env) :: starEach es X.env := by rfl) : PA X (e :: es) (VA G W (elCons fa fr)) := by
  refine pa_weak (pa_cons ha hr hs) fun σ H Q ⟨z, ρ, τ, hz, c, en, q⟩ => ⟨z, ρ, τ, hz, c, en, (Run.bind q).imp fun x H1 ⟨z1, u, τ1, e1, f, c1, r1, q1⟩ => ?_⟩
  subst e1
  refine ⟨z1, ρ, τ1, rfl, c1, en.fut f, (Run.bind q1).imp fun xs H2 ⟨z2, us, τ2, e2, f2, c2, r2, q2⟩ => ?_⟩
  subst e2
  exact Run.ok (rep := RepUs G) q2 c2 (.cons (r1.fut f2) r2)
/-- an argument list, then a step on its values -/
theorem ve_stepA {x : Expr} {t : TE} {g : List U → Store → R U} {r : List V → Hp → VK → Prop} (h : PE X x t) (he : ∀ σ H Q, (VA G W fr) σ H (fun xs H1 => r xs H1 Q) → t σ H Q)
    (hr : ∀ (z : Z) (us : List U) (τ : Store) (vs : List V) (W : XK) (Q : VK), Cells G z τ → RepUs G z us vs → Run G (RepU G) (g us τ) W z Q → r vs z.H Q) : PE X x (VE G W fun ρ τ => (fr ρ τ).bind g) := by
  refine pe_weak h fun σ H Q ⟨z, ρ, τ, hz, c, en, q⟩ => he _ _ _ ⟨z, ρ, τ, hz, c, en, ?_⟩
  exact (Run.bind q).imp fun v H1 ⟨z1, u, τ1, e1, f, c1, r1, q1⟩ => by
    subst e1
    exact hr z1 u τ1 v _ Q c1 r1 q1
end
/-- all let go -/
def frzs (τ : Store) : List U → Option (List D × Store)
  | [] => some ([], τ)
  | u :: us => match frz τ u with
    | some (x, τ1) => match frzs τ1 us with
      | some (xs, τ2) => some (x :: xs, τ2)
      | none => none
    | none => none
theorem frzs_d (τ : Store) : ∀ xs : List D, frzs τ (xs.map U.d) = some (xs, τ)
  | [] => rfl
  | x :: xs => by simp [frzs, frzs_d τ xs]
@[simp] theorem frzs_nil (τ : Store) : frzs τ [] = some ([], τ) := rfl
@[simp] theorem frzs_cons_d (τ : Store) (x : D) (us : List U) : frzs τ (.d x :: us) = match frzs τ us with
      | some (xs, τ2) => some (x :: xs, τ2)
      | none => none := rfl
theorem frzs_ok {G : Gd} : ∀ {us : List U} {z : Z} {τ : Store} {vs : List V} {xs : List D} {τ' : Store}, Cells G z τ → RepUs G z us vs → frzs τ us = some (xs, τ') → ∃ z', z'.H = z.H ∧ Fut z z' ∧ Cells G z' τ' ∧ Reps G z'.S xs vs ∧ z'.ms = z.ms
  | [], z, τ, vs, xs, τ', c, r, e => by
    cases r
    cases e
    exact ⟨z, rfl, Fut.refl z, c, .nil, rfl⟩
  | u :: us, z, τ, vs, xs, τ', c, r, e => by
    cases r with
    | cons r1 r2 =>
      unfold frzs at e
      cases q1 : frz τ u with
      | none => rw [q1] at e; cases e
      | some p =>
        obtain ⟨x, τ1⟩ := p
        rw [q1] at e
        simp only at e
        cases q2 : frzs τ1 us with
        | none => rw [q2] at e; cases e
        | some p2 =>
          obtain ⟨ys, τ2⟩ := p2
          rw [q2] at e
          cases e
          obtain ⟨z1, h1, f1, c1, rx, m1⟩ := frz_ok c r1 q1
          obtain ⟨z2, h2, f2, c2, rs, m2⟩ := frzs_ok c1 (RepUs.fut f1 r2) q2
          exact ⟨z2, h2.trans h1, f1.trans f2, c2, .cons (Rep.mono f2.ss _ _ rx) rs, m2.trans m1⟩

/-! ### displays -/
def gTupD (us : List U) (τ : Store) : R U := match frzs τ us with
  | some (xs, τ1) => if xs.length ≤ sizeLine then .ok (.d (.tup xs)) τ1 else .bad
  | none => .bad
def gLstD (own : Bool) (us : List U) (τ : Store) : R U := match frzs τ us with
  | some (xs, τ1) => if xs.length ≤ sizeLine then allocL own xs τ1 else .bad
  | none => .bad
def eTup (fs : EL) : EV := fun ρ τ => (fs ρ τ).bind gTupD
def eLst (own : Bool) (fs : EL) : EV := fun ρ τ => (fs ρ τ).bind (gLstD own)
section
variable {X : Cx} {G : Gd} {W : WX} {es : List Expr} {fs : EL} {pos : Pos}
theorem v_tup {k} (h : PA X es (VA G W fs)) : PE X (.Tuple es k pos) (VE G W (eTup fs)) :=
  ve_stepA (pe_tup h) (r := fun xs H1 Q => xs.length ≤ sizeLine ∧ ∀ p, H1 p = none → Q (.ref p) (upd H1 p (.tup xs))) (fun _ _ _ h => h) fun z us τ vs W Q c r q => by
    unfold gTupD at q
    cases e : frzs τ us with
    | none => rw [e] at q; exact q.elim
    | some p =>
      obtain ⟨xs, τ1⟩ := p
      rw [e] at q
      obtain ⟨z1, h1, f1, c1, rs, m1⟩ := frzs_ok c r e
      have q : Run G (RepU G) (if xs.length ≤ sizeLine then .ok (.d (.tup xs)) τ1 else .bad) W z Q := q
      by_cases hl : xs.length ≤ sizeLine
      · rw [if_pos hl] at q
        refine ⟨by rw [← rs.length]; exact hl, fun p hp => ?_⟩
        rw [← h1] at hp ⊢
        exact alloc_tup c1 hp rs (q.pre f1)
      · rw [if_neg hl] at q; exact q.elim
theorem v_lst {own : Bool} (h : PA X es (VA G W fs)) : PE X (.List es pos) (VE G W (eLst own fs)) :=
  ve_stepA (pe_lst h) (r := fun xs H1 Q => xs.length ≤ sizeLine ∧ ∀ p, H1 p = none → Q (.ref p) (upd H1 p (.lst xs))) (fun _ _ _ h => h) fun z us τ vs W Q c r q => by
    unfold gLstD at q
    cases e : frzs τ us with
    | none => rw [e] at q; exact q.elim
    | some p =>
      obtain ⟨xs, τ1⟩ := p
      rw [e] at q
      obtain ⟨z1, h1, f1, c1, rs, m1⟩ := frzs_ok c r e
      have q : Run G (RepU G) (if xs.length ≤ sizeLine then allocL own xs τ1 else .bad) W z Q := q
      by_cases hl : xs.length ≤ sizeLine
      · rw [if_pos hl] at q
        refine ⟨by rw [← rs.length]; exact hl, fun p hp => ?_⟩
        rw [← h1] at hp ⊢
        exact alloc_lst c1 hp rs (q.pre f1)
      · rw [if_neg hl] at q; exact q.elim
end

/-! ### subscripts -/
theorem reps_atI {G : Gd} {S : Hp} {ds : List D} {vs : List V} {i : Int} {d : D} (r : Reps G S ds vs) (e : atI ds i = some d) : ∃ v, atI vs i = some v ∧ Rep G S d v := by
  unfold atI at e ⊢
  rw [r.length] at e
  cases q : ixN vs.length i with
  | none => rw [q] at e; cases e
  | some j =>
    rw [q] at e
    exact r.get e
def oIx : D → D → Store → R U
  | .str t, .int i, τ => match atI t i with
    | some c => if t.length ≤ sizeLine then .ok (.d (.str [c])) τ else .bad
    | none => .bad
  | d, .int i, τ => match d.seq with
    | some ds => match atI ds i with
      | some x => .ok (.d x) τ
      | none => .bad
    | none => .bad
  | _, _, _ => .bad
theorem s_ix {G : Gd} : OpS G oIx (rIx G.K) := by
  intro z a b τ x y W Q c ra rb q
  cases b with
  | int i =>
    rw [rb.int_]
    have gen : Run G (RepU G) (match a.seq with
      | some ds => match atI ds i with
        | some x => .ok (.d x) τ
        | none => .bad
      | none => .bad) W z Q → rIx G.K x (.int i) z.H Q := by
      intro q
      cases e : a.seq with
      | none => rw [e] at q; exact q.elim
      | some ds =>
        rw [e] at q
        simp only at q
        cases e2 : atI ds i with
        | none => rw [e2] at q; exact q.elim
        | some d =>
          rw [e2] at q
          obtain ⟨p, vs, rfl, h1, h2⟩ := ra.seq_ c e
          obtain ⟨v, h3, h4⟩ := reps_atI h2 e2
          rcases h1 with h1 | h1
          · exact .inl ⟨p, vs, i, v, rfl, rfl, h1, h3, Run.ok (rep := RepU G) q c (.d h4)⟩
          · exact .inr (.inl ⟨p, vs, i, v, rfl, rfl, h1, h3, Run.ok (rep := RepU G) q c (.d h4)⟩)
    cases a with
    | str t =>
      rw [ra.str_]
      simp only [oIx] at q
      cases e : atI t i with
      | none => rw [e] at q; exact q.elim
      | some cc =>
        rw [e] at q
        simp only at q
        by_cases hl : t.length ≤ sizeLine
        · rw [if_pos hl] at q
          exact .inr (.inr ⟨_, i, cc, rfl, rfl, by rw [T.len]; exact hl, e, Run.ok (rep := RepU G) (b := V.str ⟨#[cc]⟩) q c (.d (.str [cc]))⟩)
        · rw [if_neg hl] at q; exact q.elim
    | _ => exact gen q
  | _ => cases a <;> exact q.elim
def eIx (fa fb : EV) : EV := eOp oIx fa fb
theorem v_ix {X : Cx} {G : Gd} {W : WX} {a b : Expr} {fa fb : EV} {pos : Pos} (hK : X.K = G.K) (ha : PE X a (VE G W fa)) (hb : PE X b (VE G W fb)) (hp : PlainIx b) : PE X (.Subscript a b pos) (VE G W (eIx fa fb)) :=
  ve_step2 (pe_ix (r := rIx G.K) (hK ▸ ix_seq) ha hb hp) (fun _ _ _ h => h) (opD_run s_ix)
/-- the part of a list from lo to hi -/
def cut {α : Type} (l : List α) (lo hi : Option Int) : List α := (l.drop (HT.sIx l.length 0 lo)).take (HT.sIx l.length l.length hi - HT.sIx l.length 0 lo)
theorem reps_cut {G : Gd} {S : Hp} {ds : List D} {vs : List V} (r : Reps G S ds vs) (lo hi : Option Int) : Reps G S (cut ds lo hi) (cutV vs lo hi) := by
  unfold cut cutV
  rw [r.length]
  exact (r.drop _).take _
theorem cut_s (t : T) (lo hi : Option Int) : cutS t.s lo hi = T.s (cut t lo hi) := by
  unfold cutS cut
  rw [T.len]
  rfl
abbrev EO := Env → Store → R (Option Int)
def eoNone : EO := fun _ τ => .ok none τ
def eoSome (f : EV) : EO := fun ρ τ => (f ρ τ).bind fun u τ1 => match u with
  | .d (.int i) => .ok (some i) τ1
  | _ => .bad
def VO (G : Gd) (W : WX) (f : EO) : TO := fun σ H Q => ∃ z ρ τ, z.H = H ∧ Cells G z τ ∧ EnvR G z ρ σ ∧ Run G EqRep (f ρ τ) (fun c d H' => W c d σ H') z Q
section
variable {X : Cx} {G : Gd} {W : WX} {e : Expr} {lo hi : Option Expr} {fa : EV} {fl fh : EO} {pos p2 : Pos}
theorem vo_none : PO X none (VO G W eoNone) := ⟨fun pins s σ H Q I ⟨z, ρ, τ, hz, c, en, q⟩ => po_none.run pins s σ H Q I (by subst hz; exact Run.ok (rep := EqRep) q c rfl)⟩
theorem vo_some (h : PE X e (VE G W fa)) : PO X (some e) (VO G W (eoSome fa)) := ⟨fun pins s σ H Q I ⟨z, ρ, τ, hz, c, en, q⟩ => (po_some h).run pins s σ H Q I ⟨z, ρ, τ, hz, c, en, (Run.bind q).imp fun v H1 ⟨z1, u, τ1, e1, f, c1, r1, q1⟩ => by
  subst e1
  cases u with
  | loc n => exact q1.elim
  | fn => exact q1.elim
  | d x =>
    cases x with
    | int i =>
      cases r1 with
      | d r1 => cases r1; exact ⟨i, rfl, Run.ok (rep := EqRep) q1 c1 rfl⟩
    | _ => exact q1.elim⟩⟩
def oSl (own : Bool) : D → Option Int → Option Int → Store → R U
  | .str t, lo, hi, τ => if t.length ≤ sizeLine then .ok (.d (.str (cut t lo hi))) τ else .bad
  | .lst ds, lo, hi, τ => allocL own (cut ds lo hi) τ
  | .fl ds, lo, hi, τ => allocL own (cut ds lo hi) τ
  | .tup ds, lo, hi, τ => .ok (.d (.tup (cut ds lo hi))) τ
  | _, _, _, _ => .bad
def gSl (own : Bool) (u : U) (lo hi : Option Int) (τ : Store) : R U := match vw τ u with
  | some d => oSl own d lo hi τ
  | none => .bad
def eSl (own : Bool) (fa : EV) (fl fh : EO) : EV := fun ρ τ => (fa ρ τ).bind fun u τ1 => (fl ρ τ1).bind fun l τ2 => (fh ρ τ2).bind fun h τ3 => gSl own u l h τ3
def rSlG (K : PySem.W.Frag) : V → Option Int → Option Int → Hp → VK → Prop := fun x lo hi H Q => rSlS x lo hi H Q ∨ (rSlL K x lo hi H Q ∨ rSlA K x lo hi H Q)
theorem sl_gen : SlR X (rSlG X.K) := SlR.or sl_str (SlR.or sl_list sl_tupA)
theorem cut_whole {α : Type} (xs : List α) {lo hi : Option Int} (h : HT.sIx xs.length 0 lo = 0 ∧ HT.sIx xs.length xs.length hi = xs.length) : cut xs lo hi = xs := by
  unfold cut
  rw [h.1, h.2]
  simp
theorem sl_read {own : Bool} (z : Z) (u : U) (lo hi : Option Int) (τ : Store) (v : V) (W : XK) (Q : VK) (c : Cells G z τ) (r : RepU G z u v) (q : Run G (RepU G) (gSl own u lo hi τ) W z Q) : rSlG G.K v lo hi z.H Q := by
  unfold gSl at q
  cases e : vw τ u with
  | none => rw [e] at q; exact q.elim
  | some d =>
    rw [e] at q
    have rh := vw_rep c r e
    cases d with
    | str t =>
      have q : Run G (RepU G) (if t.length ≤ sizeLine then .ok (.d (.str (cut t lo hi))) τ else .bad) W z Q := q
      by_cases hl : t.length ≤ sizeLine
      · rw [if_pos hl] at q
        rw [rh.str_]
        refine .inl ⟨_, rfl, by rw [T.len]; exact hl, ?_⟩
        rw [cut_s]
        exact Run.ok (rep := RepU G) q c (.d (.str _))
      · rw [if_neg hl] at q; exact q.elim
    | lst ds =>
      obtain ⟨a, vs, rfl, h1, h2⟩ := rh.lst_ c
      exact .inr (.inl ⟨a, vs, rfl, SqL.of h1, fun p hp => alloc_lst c hp (reps_cut h2 lo hi) q⟩)
    | fl ds =>
      obtain ⟨a, vs, rfl, h1, h2⟩ := rh.fl_ c
      exact .inr (.inl ⟨a, vs, rfl, h1, fun p hp => alloc_lst c hp (reps_cut h2 lo hi) q⟩)
    | tup ds =>
      obtain ⟨a, vs, rfl, h1, h2⟩ := rh.tup_ c
      refine .inr (.inr ⟨a, vs, rfl, h1, fun hw => ?_, fun _ p hp => alloc_tup c hp (reps_cut h2 lo hi) q⟩)
      rw [← h2.length] at hw
      have q : Run G (RepU G) (.ok (.d (.tup (cut ds lo hi))) τ) W z Q := q
      rw [cut_whole ds hw] at q
      refine Run.ok (rep := RepU G) q c (.d ?_)
      cases rh with
      | sh h => exact h
    | _ => exact q.elim
theorem v_sl {own : Bool} (hK : X.K = G.K) (ha : PE X e (VE G W fa)) (hl : PO X lo (VO G W fl)) (hh : PO X hi (VO G W fh)) : PE X (.Subscript e (.Slice lo hi none p2) pos) (VE G W (eSl own fa fl fh)) := by
  refine pe_weak (pe_slice (r := rSlG G.K) (hK ▸ sl_gen) ha hl hh) fun σ H Q ⟨z, ρ, τ, hz, c, en, q⟩ => ⟨z, ρ, τ, hz, c, en, (Run.bind q).imp fun x H1 ⟨z1, u, τ1, e1, f, c1, r1, q1⟩ => ?_⟩
  subst e1
  refine ⟨z1, ρ, τ1, rfl, c1, en.fut f, (Run.bind q1).imp fun l H2 ⟨z2, l', τ2, e2, f2, c2, r2, q2⟩ => ?_⟩
  subst e2
  have r2 : l' = l := r2
  subst r2
  refine ⟨z2, ρ, τ2, rfl, c2, en.fut (f.trans f2), (Run.bind q2).imp fun h H3 ⟨z3, h', τ3, e3, f3, c3, r3, q3⟩ => ?_⟩
  subst e3
  have r3 : h' = h := r3
  subst r3
  exact sl_read z3 u l' h' τ3 x _ Q c3 (r1.fut (f2.trans f3)) q3
end
def eRev (own : Bool) (fa : EV) : EV := fun ρ τ => (fa ρ τ).bind fun u τ1 => match vw τ1 u with
  | some (.lst ds) => allocL own ds.reverse τ1
  | some (.fl ds) => allocL own ds.reverse τ1
  | _ => .bad

/-! ### built-in calls -/
inductive RepHs (G : Gd) (z : Z) : List D → List V → Prop
  | nil : RepHs G z [] []
  | cons {d : D} {v : V} {ds : List D} {vs : List V} : RepH G z d v → RepHs G z ds vs → RepHs G z (d :: ds) (v :: vs)
def vws (τ : Store) : List U → Option (List D)
  | [] => some []
  | u :: us => match vw τ u, vws τ us with
    | some d, some ds => some (d :: ds)
    | _, _ => none
@[simp] theorem vws_nil (τ : Store) : vws τ [] = some [] := rfl
@[simp] theorem vws_d (τ : Store) (x : D) : vws τ [.d x] = some [x] := rfl
@[simp] theorem vws_d2 (τ : Store) (x y : D) : vws τ [.d x, .d y] = some [x, y] := rfl
theorem vws_rep {G : Gd} {z : Z} {τ : Store} (c : Cells G z τ) : ∀ {us : List U} {vs : List V} {ds : List D}, RepUs G z us vs → vws τ us = some ds → RepHs G z ds vs
  | [], _, _, r, e => by cases r; cases e; exact .nil
  | u :: us, _, ds, r, e => by
    cases r with
    | cons r1 r2 =>
      unfold vws at e
      cases q1 : vw τ u with
      | none => rw [q1] at e; cases e
      | some d =>
        cases q2 : vws τ us with
        | none => rw [q1, q2] at e; cases e
        | some xs =>
          rw [q1, q2] at e
          cases e
          exact .cons (vw_rep c r1 q1) (vws_rep c r2 q2)
def CallS (G : Gd) (g : List D → Store → R U) (r : List V → Hp → VK → Prop) : Prop :=
  ∀ (z : Z) (ds : List D) (τ : Store) (vs : List V) (W : XK) (Q : VK), Cells G z τ → RepHs G z ds vs → Run G (RepU G) (g ds τ) W z Q → r vs z.H Q
def gCB (g : List D → Store → R U) (us : List U) (τ : Store) : R U := match vws τ us with
  | some ds => g ds τ
  | none => .bad
def eCB (g : List D → Store → R U) (fs : EL) : EV := fun ρ τ => (fs ρ τ).bind (gCB g)
theorem cb_read {G : Gd} {g : List D → Store → R U} {r : List V → Hp → VK → Prop} (hs : CallS G g r) (z : Z) (us : List U) (τ : Store) (vs : List V) (W : XK) (Q : VK) (c : Cells G z τ) (ru : RepUs G z us vs) (q : Run G (RepU G) (gCB g us τ) W z Q) : r vs z.H Q := by
  unfold gCB at q
  cases e : vws τ us with
  | none => rw [e] at q; exact q.elim
  | some ds =>
    rw [e] at q
    exact hs z ds τ vs W Q c (vws_rep c ru e) q
section
variable {X : Cx} {G : Gd} {W : WX} {x : Str} {e : Expr} {es : List Expr} {fs : EL} {p pos : Pos} {g : List D → Store → R U} {r : List V → Hp → VK → Prop} {id T : String}
theorem v_cb (hc : CallR X (.builtin id) r) (hs : CallS G g r) (hg : Gl X x) (hm : X.mg x = none) (hv : bootBuiltins x = some (.builtin id)) (ha : PA X (e :: es) (VA G W fs)) (hn : x ≠ "__name__" := by decide) (hdb : (x == ("__debug__" : Str)) = false := by decide)
    (he : starEach (e :: es) X.env = (false, eval e X.env) :: starEach es X.env := by rfl) (hpl : (backTo pos (starEach es X.env)).any (·.1) = false := by rfl) : PE X (.Call (.Name x p) (e :: es) [] pos) (VE G W (eCB g fs)) :=
  ve_stepA (pe_callB hc hg hm hv ha hn hdb he hpl) (fun _ _ _ h => h) (cb_read hs)
theorem v_ct (hc : CallR X (.type T) r) (hs : CallS G g r) (hg : Gl X x) (hm : X.mg x = none) (hv : bootBuiltins x = some (.type T)) (ha : PA X (e :: es) (VA G W fs)) (hn : x ≠ "__name__" := by decide) (hdb : (x == ("__debug__" : Str)) = false := by decide)
    (he : starEach (e :: es) X.env = (false, eval e X.env) :: starEach es X.env := by rfl) (hpl : (backTo pos (starEach es X.env)).any (·.1) = false := by rfl) : PE X (.Call (.Name x p) (e :: es) [] pos) (VE G W (eCB g fs)) :=
  ve_stepA (pe_callTy hc hg hm hv ha hn hdb he hpl) (fun _ _ _ h => h) (cb_read hs)
end
theorem hs1 {G : Gd} {z : Z} {ds : List D} {vs : List V} (r : RepHs G z ds vs) {d : D} (e : ds = [d]) : ∃ v, vs = [v] ∧ RepH G z d v := by
  subst e
  cases r with
  | cons h t => cases t; exact ⟨_, rfl, h⟩
theorem hs2 {G : Gd} {z : Z} {ds : List D} {vs : List V} (r : RepHs G z ds vs) {d e : D} (q : ds = [d, e]) : ∃ v w, vs = [v, w] ∧ RepH G z d v ∧ RepH G z e w := by
  subst q
  cases r with
  | cons h t =>
    cases t with
    | cons h2 t2 => cases t2; exact ⟨_, _, rfl, h, h2⟩
def cLen : List D → Store → R U
  | [.str t], τ => if t.length ≤ sizeLine then .ok (.d (.int t.length)) τ else .bad
  | [.dct kvs], τ => .ok (.d (.int kvs.length)) τ
  | [d], τ => match d.seq with
    | some ds => .ok (.d (.int ds.length)) τ
    | none => .bad
  | _, _ => .bad
theorem RepK.length {G : Gd} {S : Hp} : ∀ {ds : List (Ky × D)} {vs : List (Key × V)}, RepK G S ds vs → ds.length = vs.length
  | [], _, h => by cases h; rfl
  | (k, d) :: ds, _, h => by
    cases h with
    | cons _ h2 => simp [RepK.length h2]
def rLen (K : PySem.W.Frag) : List V → Hp → VK → Prop := fun xs H Q => (∃ x n, xs = [x] ∧ LenV K x H n ∧ Q (.int n) H) ∨ ∃ p kvs, xs = [.ref p] ∧ H p = some (.dK kvs) ∧ Q (.int kvs.length) H
end VL

/-! The value layer, 6: statements, loops, comprehensions. -/
namespace VL
open PySem PySem.Spec PyProof.Rows L2 LamX

inductive RS where
  | nx (ρ : Env) (τ : Store) | rt (u : U) (τ : Store) | bk (ρ : Env) (τ : Store) | ct (ρ : Env) (τ : Store)
  | exc (c : Nat) (fs : List (T × D)) (ρ : Env) (τ : Store) | bad
abbrev GS := Env → Store → RS
def liftE {α : Type} (r : R α) (ρ : Env) (k : α → Store → RS) : RS := match r with
  | .ok a τ => k a τ
  | .exc c fs τ => .exc c fs ρ τ
  | .bad => .bad
@[simp] theorem liftE_ok {α : Type} (a : α) (τ : Store) (ρ : Env) (k : α → Store → RS) : liftE (.ok a τ) ρ k = k a τ := rfl
@[simp] theorem liftE_exc {α : Type} (c : Nat) (fs : List (T × D)) (τ : Store) (ρ : Env) (k : α → Store → RS) : liftE (.exc c fs τ) ρ k = .exc c fs ρ τ := rfl
@[simp] theorem liftE_bad {α : Type} (ρ : Env) (k : α → Store → RS) : liftE (.bad : R α) ρ k = .bad := rfl
def RS.seq : RS → GS → RS
  | .nx ρ τ, g => g ρ τ
  | r, _ => r
@[simp] theorem RS.seq_nx (ρ : Env) (τ : Store) (g : GS) : (RS.nx ρ τ).seq g = g ρ τ := rfl
@[simp] theorem RS.seq_rt (u : U) (τ : Store) (g : GS) : (RS.rt u τ).seq g = .rt u τ := rfl
@[simp] theorem RS.seq_exc (c : Nat) (fs : List (T × D)) (ρ : Env) (τ : Store) (g : GS) : (RS.exc c fs ρ τ).seq g = .exc c fs ρ τ := rfl
@[simp] theorem RS.seq_bad (g : GS) : (RS.bad).seq g = .bad := rfl
def RunS (G : Gd) (r : RS) (W : WX) (D : Ends) (z : Z) : Prop :=
  match r with
  | .nx ρ τ => ∀ z' σ', Fut z z' → Cells G z' τ → EnvR G z' ρ σ' → D.nx σ' z'.H
  | .rt u τ => ∀ z' v, Fut z z' → Cells G z' τ → RepU G z' u v → D.rt v z'.H
  | .bk ρ τ => ∀ z' σ', Fut z z' → Cells G z' τ → EnvR G z' ρ σ' → D.bk σ' z'.H
  | .ct ρ τ => ∀ z' σ', Fut z z' → Cells G z' τ → EnvR G z' ρ σ' → D.ct σ' z'.H
  | .exc c fs ρ τ => ∀ z' dd vs σ', Fut z z' → Cells G z' τ → EnvR G z' ρ σ' → z'.S dd = some (.xd vs) → RepF G z'.S fs vs → W (.ref (G.ca c)) (some dd) σ' z'.H
  | .bad => False
section
variable {G : Gd} {W : WX} {D D' : Ends} {z z1 : Z} {ρ : Env} {σ : L2.St}
theorem RunS.pre {r : RS} (h : RunS G r W D z) (f : Fut z z1) : RunS G r W D z1 := by
  cases r with
  | nx ρ τ => exact fun z' σ' f' => h z' σ' (f.trans f')
  | rt u τ => exact fun z' v f' => h z' v (f.trans f')
  | bk ρ τ => exact fun z' σ' f' => h z' σ' (f.trans f')
  | ct ρ τ => exact fun z' σ' f' => h z' σ' (f.trans f')
  | exc c fs ρ τ => exact fun z' dd vs σ' f' => h z' dd vs σ' (f.trans f')
  | bad => exact h
theorem RunS.lift {α β : Type} {rep : Z → α → β → Prop} {r : R α} {k : α → Store → RS} (en : EnvR G z ρ σ) (h : RunS G (liftE r ρ k) W D z) :
    Run G rep r (fun c d H' => W c d σ H') z fun b H => ∃ z1 a τ1, z1.H = H ∧ Fut z z1 ∧ Cells G z1 τ1 ∧ rep z1 a b ∧ RunS G (k a τ1) W D z1 := by
  cases r with
  | bad => exact h
  | exc c fs τ => exact fun z' dd vs f c' s r => h z' dd vs σ f c' (en.fut f) s r
  | ok a τ => exact fun z' b f c q => ⟨z', a, τ, rfl, f, c, q, RunS.pre (r := k a τ) h f⟩
theorem RunS.seq_ {r : RS} {g : GS} (h : RunS G (r.seq g) W D z) : RunS G r W { D with nx := fun σ' H' => ∃ z1 ρ1 τ1, z1.H = H' ∧ Cells G z1 τ1 ∧ EnvR G z1 ρ1 σ' ∧ RunS G (g ρ1 τ1) W D z1 } z := by
  cases r with
  | nx ρ τ => exact fun z' σ' f c en => ⟨z', ρ, τ, rfl, c, en, RunS.pre (r := g ρ τ) h f⟩
  | rt u τ => exact h
  | bk ρ τ => exact h
  | ct ρ τ => exact h
  | exc c fs ρ τ => exact h
  | bad => exact h
theorem RunS.nx_ {ρ : Env} {τ : Store} (h : RunS G (.nx ρ τ) W D z) (c : Cells G z τ) (en : EnvR G z ρ σ) : D.nx σ z.H := h z σ (Fut.refl z) c en
end
def VS (G : Gd) (W : WX) (g : GS) : TS := fun D σ H => ∃ z ρ τ, z.H = H ∧ Cells G z τ ∧ EnvR G z ρ σ ∧ RunS G (g ρ τ) W D z

def gNil : GS := fun ρ τ => .nx ρ τ
def gSeq (g h : GS) : GS := fun ρ τ => (g ρ τ).seq h
def gSet (i : Nat) (f : EV) : GS := fun ρ τ => liftE (f ρ τ) ρ fun u τ1 => .nx (ρ.set i (some u)) τ1
def gExpr (f : EV) : GS := fun ρ τ => liftE (f ρ τ) ρ fun _ τ1 => .nx ρ τ1
def gRet (f : EV) : GS := fun ρ τ => liftE (f ρ τ) ρ fun u τ1 => .rt u τ1
def gRetN : GS := fun _ τ => .rt (.d .non) τ
def gIf (t : EB) (g h : GS) : GS := fun ρ τ => liftE (t ρ τ) ρ fun b τ1 => if b then g ρ τ1 else h ρ τ1
def gBreak : GS := fun ρ τ => .bk ρ τ
def gCont : GS := fun ρ τ => .ct ρ τ
section
variable {X : Cx} {G : Gd} {W : WX} {st : Stmt} {rest as bs : List Stmt} {g h : GS} {e : Expr} {f : EV} {t : EB} {pos : Pos}
theorem ss_nil : PSs X [] (VS G W gNil) := pss_weak pss_nil fun D σ H ⟨z, ρ, τ, hz, c, en, q⟩ => by subst hz; exact RunS.nx_ q c en
theorem ss_cons (h1 : PS X st (VS G W g)) (h2 : PSs X rest (VS G W h)) : PSs X (st :: rest) (VS G W (gSeq g h)) :=
  pss_weak (pss_cons h1 h2) fun D σ H ⟨z, ρ, τ, hz, c, en, q⟩ => ⟨z, ρ, τ, hz, c, en, RunS.seq_ q⟩
theorem ss_one (h1 : PS X st (VS G W g)) : PSs X [st] (VS G W g) := pss_one h1
theorem s_set (i : Nat) {x : Str} {pos' : Pos} (hN : X.N.Nodup) (hi : X.N[i]? = some x) (hx : Loc X.env.scope x) (he : PE X e (VE G W f)) (hs : swapsWith e (some (.Name x pos')) pos.line X.env = pure false := by rfl)
    (hf : X.fn x = true ∨ X.env.scope.names.lookup x = some .local := by first | exact .inl rfl | exact .inr rfl | assumption) : PS X (.Assign [.Name x pos'] e pos) (VS G W (gSet i f)) :=
  ps_weak (ps_set hN hi hx he hs hf) fun D σ H ⟨z, ρ, τ, hz, c, en, q⟩ => ⟨z, ρ, τ, hz, c, en, (RunS.lift (rep := RepU G) en q).imp fun v H1 ⟨z1, u, τ1, e1, f, c1, r1, q1⟩ => by
    subst e1
    exact RunS.nx_ q1 c1 ((en.fut f).set r1)⟩
theorem s_expr (he : PE X e (VE G W f)) (hs : swapsWith e none pos.line X.env = pure false := by rfl) : PS X (.Expr e pos) (VS G W (gExpr f)) :=
  ps_weak (ps_expr he hs) fun D σ H ⟨z, ρ, τ, hz, c, en, q⟩ => ⟨z, ρ, τ, hz, c, en, (RunS.lift (rep := RepU G) en q).imp fun v H1 ⟨z1, u, τ1, e1, f, c1, r1, q1⟩ => by
    subst e1
    exact RunS.nx_ q1 c1 (en.fut f)⟩
theorem s_ret (he : PE X e (VE G W f)) : PS X (.Return (some e) pos) (VS G W (gRet f)) :=
  ps_weak (ps_ret he) fun D σ H ⟨z, ρ, τ, hz, c, en, q⟩ => ⟨z, ρ, τ, hz, c, en, (RunS.lift (rep := RepU G) en q).imp fun v H1 ⟨z1, u, τ1, e1, f, c1, r1, q1⟩ => by
    subst e1
    exact q1 z1 v (Fut.refl _) c1 r1⟩
theorem s_retN : PS X (.Return none pos) (VS G W gRetN) := ps_weak ps_retN fun D σ H ⟨z, ρ, τ, hz, c, en, q⟩ => by
  subst hz
  exact q z .non (Fut.refl _) c (.d .non)
theorem s_if {cc : Expr} (hc : PT X cc (VB G W t)) (ha : PSs X as (VS G W g)) (hb : PSs X bs (VS G W h)) : PS X (.If cc as bs pos) (VS G W (gIf t g h)) :=
  ps_weak (ps_if hc ha hb) fun D σ H ⟨z, ρ, τ, hz, c, en, q⟩ => ⟨z, ρ, τ, hz, c, en, (RunS.lift (rep := EqRep) en q).imp fun k H1 ⟨z1, k', τ1, e1, f, c1, r1, q1⟩ => by
    subst e1
    have r1 : k' = k := r1
    subst r1
    cases k' with
    | true => exact ⟨z1, ρ, τ1, rfl, c1, en.fut f, q1⟩
    | false => exact ⟨z1, ρ, τ1, rfl, c1, en.fut f, q1⟩⟩
theorem s_pass : PS X (.Pass pos) (VS G W gNil) := ps_weak ps_pass fun D σ H ⟨z, ρ, τ, hz, c, en, q⟩ => by subst hz; exact RunS.nx_ q c en
theorem s_break : PS X (.Break pos) (VS G W gBreak) := ps_weak ps_break fun D σ H ⟨z, ρ, τ, hz, c, en, q⟩ => by subst hz; exact q z σ (Fut.refl _) c en
theorem s_continue : PS X (.Continue pos) (VS G W gCont) := ps_weak ps_continue fun D σ H ⟨z, ρ, τ, hz, c, en, q⟩ => by subst hz; exact q z σ (Fut.refl _) c en
/-- what is never come to -/
def gNever : GS := fun _ _ => .bad
theorem s_never : PS X st (VS G W gNever) := ⟨fun _ _ _ _ _ _ ⟨_, _, _, _, _, _, q⟩ => q.elim⟩
theorem ss_never : PSs X rest (VS G W gNever) := ⟨fun _ _ _ _ _ _ ⟨_, _, _, _, _, _, q⟩ => q.elim⟩
/-- a ghost: the cell in a name becomes data -/
def gFrz (i : Nat) : GS := fun ρ τ => match ρ[i]? with
  | some (some u) => match frz τ u with
    | some (x, τ1) => .nx (ρ.set i (some (.d x))) τ1
    | none => .bad
  | _ => .bad
theorem ss_frz (i : Nat) (h1 : PSs X rest (VS G W g)) : PSs X rest (VS G W (gSeq (gFrz i) g)) :=
  pss_weak h1 fun D σ H ⟨z, ρ, τ, hz, c, en, q⟩ => by
    subst hz
    unfold gSeq gFrz at q
    cases e : ρ[i]? with
    | none => rw [e] at q; exact q.elim
    | some o =>
      cases o with
      | none => rw [e] at q; exact q.elim
      | some u =>
        rw [e] at q
        simp only at q
        cases e2 : frz τ u with
        | none => rw [e2] at q; exact q.elim
        | some p =>
          obtain ⟨x, τ1⟩ := p
          rw [e2] at q
          obtain ⟨v, hv, rv⟩ := en.at_ i u e
          obtain ⟨z1, h1, f1, c1, rx, m1⟩ := frz_ok c rv e2
          have en1 := (en.fut f1).set (i := i) (RepU.d rx)
          have es : σ.set i (some v) = σ := by
            obtain ⟨hi, ei⟩ := List.getElem?_eq_some_iff.mp hv
            rw [← ei]
            exact List.set_getElem_self hi
          rw [es] at en1
          exact ⟨z1, _, τ1, h1, c1, en1, RunS.pre q f1⟩
end

/-! ### targets -/
abbrev TGv := D → Env → Option Env
def tName (i : Nat) : TGv := fun x ρ => some (ρ.set i (some (.d x)))
def tNames : List Nat → List D → Env → Option Env
  | [], [], ρ => some ρ
  | i :: is, x :: xs, ρ => tNames is xs (ρ.set i (some (.d x)))
  | _, _, _ => none
def tTupN (is : List Nat) : TGv := fun x ρ => match x with
  | .tup ds => tNames is ds ρ
  | _ => none
/-- a target's rule: data is stored in the slots is, the heap stays -/
def TgS (G : Gd) (g : TG) (t : TGv) (is : List Nat) : Prop :=
  ∀ (z : Z) (τ : Store) (x : D) (v : V) (ρ ρ' : Env) (σ : L2.St) (Q : L2.St → Hp → Prop), Cells G z τ → Rep G z.S x v → EnvR G z ρ σ → t x ρ = some ρ' →
    (∀ σ', EnvR G z ρ' σ' → σ'.length = σ.length → (∀ j, j ∉ is → σ'[j]? = σ[j]?) → Q σ' z.H) → g v σ z.H Q
def TgsS (G : Gd) (g : TGs) (is : List Nat) : Prop :=
  ∀ (z : Z) (τ : Store) (xs : List D) (vs : List V) (ρ ρ' : Env) (σ : L2.St) (Q : L2.St → Hp → Prop), Cells G z τ → Reps G z.S xs vs → EnvR G z ρ σ → tNames is xs ρ = some ρ' →
    (∀ σ', EnvR G z ρ' σ' → σ'.length = σ.length → (∀ j, j ∉ is → σ'[j]? = σ[j]?) → Q σ' z.H) → g vs σ z.H Q
section
variable {G : Gd}
theorem tg_name (i : Nat) : TgS G (gName i) (tName i) [i] := fun z τ x v ρ ρ' σ Q c r en e k => by
  cases e
  exact k _ (en.set (.d r)) (List.length_set ..) fun j hj => List.getElem?_set_ne (fun e => hj (by rw [e]; exact List.mem_cons_self))
theorem tgs_nil : TgsS G L2.gNil [] := fun z τ xs vs ρ ρ' σ Q c r en e k => by
  cases r with
  | nil => cases e; exact ⟨rfl, k σ en rfl fun _ _ => rfl⟩
  | cons _ _ => cases e
theorem tgs_cons (i : Nat) {g : TGs} {is : List Nat} (h : TgsS G g is) : TgsS G (gCons (gName i) g) (i :: is) := fun z τ xs vs ρ ρ' σ Q c r en e k => by
  cases r with
  | nil => cases e
  | cons r1 r2 => exact ⟨_, _, rfl, h z τ _ _ _ ρ' _ Q c r2 (en.set (.d r1)) e fun σ' en' hl hj => k σ' en' (hl.trans (List.length_set ..)) fun j hn => (hj j fun m => hn (List.mem_cons_of_mem _ m)).trans (List.getElem?_set_ne fun e => hn (by rw [e]; exact List.mem_cons_self))⟩
theorem tNames_len : ∀ {is : List Nat} {xs : List D} {ρ ρ' : Env}, tNames is xs ρ = some ρ' → xs.length = is.length
  | [], [], _, _, _ => rfl
  | i :: is, x :: xs, ρ, ρ', e => by simp [tNames_len (is := is) (xs := xs) e]
  | [], _ :: _, _, _, e => by cases e
  | _ :: _, [], _, _, e => by cases e
theorem tg_tup {g : TGs} {is : List Nat} (h : TgsS G g is) {n : Nat} (hn : n = is.length) : TgS G (gTup G.K n g) (tTupN is) is := fun z τ x v ρ ρ' σ Q c r en e k => by
  cases x with
  | tup ds =>
    cases r with
    | tup h1 h2 =>
      have e : tNames is ds ρ = some ρ' := e
      exact ⟨_, _, rfl, sqT_mono c.sub h1, by rw [← h2.length, tNames_len e, hn], h z τ ds _ ρ ρ' σ Q c h2 en e k⟩
  | _ => cases e
end
def gUnp (t : TGv) (f : EV) : GS := fun ρ τ => liftE (f ρ τ) ρ fun u τ1 => match frz τ1 u with
  | some (x, τ2) => match t x ρ with
    | some ρ' => .nx ρ' τ2
    | none => .bad
  | none => .bad
theorem s_asg {X : Cx} {G : Gd} {W : WX} {tg e : Expr} {f : EV} {g : TG} {t : TGv} {pos : Pos} (he : PE X e (VE G W f)) {is : List Nat} (hg : PG X tg g) (ht : TgS G g t is) (hs : swapsWithSole [tg] e pos.line X.env = pure false := by rfl) (hw : swappedStores [tg] e X.env = pure none := by rfl)
    (h1 : (assignEach [tg] X.env).map (·.2) = [assign tg X.env] := by rfl) : PS X (.Assign [tg] e pos) (VS G W (gUnp t f)) :=
  ps_weak (ps_asg he hg hs hw h1) fun D σ H ⟨z, ρ, τ, hz, c, en, q⟩ => ⟨z, ρ, τ, hz, c, en, (RunS.lift (rep := RepU G) en q).imp fun v H1 ⟨z1, u, τ1, e1, f, c1, r1, q1⟩ => by
    subst e1
    cases e2 : frz τ1 u with
    | none => rw [e2] at q1; exact q1.elim
    | some p =>
      obtain ⟨x, τ2⟩ := p
      rw [e2] at q1
      simp only at q1
      obtain ⟨z2, h2, f2, c2, rx, m2⟩ := frz_ok c1 r1 e2
      cases e3 : t x ρ with
      | none => rw [e3] at q1; exact q1.elim
      | some ρ' =>
        rw [e3] at q1
        rw [← h2]
        exact ht z2 τ2 x v ρ ρ' σ _ c2 rx (en.fut (f.trans f2)) e3 fun σ' en' _ _ => RunS.nx_ (RunS.pre q1 f2) c2 en'⟩
/-- a, b = e1, e2 -/
def gPar (i j : Nat) (fs : EL) : GS := fun ρ τ => liftE (fs ρ τ) ρ fun us τ1 => match us with
  | [u, w] => .nx ((ρ.set i (some u)).set j (some w)) τ1
  | _ => .bad
theorem s_par {X : Cx} {G : Gd} {W : WX} {i j : Nat} {x y : Str} {a b : Expr} {fs : EL} {px py pt pos : Pos} {kt k2 pt2} (hc : X.calm = true) (hN : X.N.Nodup) (hi : X.N[i]? = some x) (hj : X.N[j]? = some y) (hij : i ≠ j)
    (hx : X.env.scope.names.lookup x = some .local) (hy : X.env.scope.names.lookup y = some .local) (ha : PA X [a, b] (VA G W fs))
    (hw : swappedStores [.Tuple [.Name x px, .Name y py] kt pt] (.Tuple [a, b] k2 pt2) X.env = pure (some [x, y]))
    (hs : swapsWithSole [.Tuple [.Name x px, .Name y py] kt pt] (.Tuple [a, b] k2 pt2) pos.line X.env = pure false := by rfl) :
    PS X (.Assign [.Tuple [.Name x px, .Name y py] kt pt] (.Tuple [a, b] k2 pt2) pos) (VS G W (gPar i j fs)) :=
  ps_weak (ps_par hc hN hi hj hij hx hy ha hw hs) fun D σ H ⟨z, ρ, τ, hz, c, en, q⟩ => ⟨z, ρ, τ, hz, c, en, (RunS.lift (rep := RepUs G) en q).imp fun vs H1 ⟨z1, us, τ1, e1, f, c1, r1, q1⟩ => by
    subst e1
    cases r1 with
    | nil => exact q1.elim
    | cons r1 r2 =>
      cases r2 with
      | nil => exact q1.elim
      | cons r2 r3 =>
        cases r3 with
        | nil => exact ⟨_, _, rfl, RunS.nx_ q1 c1 (((en.fut f).set r1).set r2)⟩
        | cons _ _ => exact q1.elim⟩

/-! ### what is walked -/
/-- an iterator over data: while what is shared stands it gives these, one by one -/
structure ItOk (G : Gd) (z : Z) (ds : List D) (J : It) : Prop where
  goes : ∀ (i : Nat) (z1 : Z) (τ : Store), Fut z z1 → Cells G z1 τ → i < ds.length → J.go i z1.H
  stops : ∀ (z1 : Z) (τ : Store), Fut z z1 → Cells G z1 τ → J.stop ds.length z1.H
  yields : ∀ (i : Nat) (z1 : Z) (τ : Store) (x : V) (H' : Hp), Fut z z1 → Cells G z1 τ → i < ds.length → J.yld i z1.H x H' → ∃ z2 d, z2.H = H' ∧ Fut z1 z2 ∧ Cells G z2 τ ∧ z2.ms = z1.ms ∧ ds[i]? = some d ∧ Rep G z2.S d x
abbrev ED := Env → Store → R (List D)
def VI (G : Gd) (W : WX) (f : ED) : TI := fun σ H Rr => ∃ z ρ τ, z.H = H ∧ Cells G z τ ∧ EnvR G z ρ σ ∧ Run G (fun z' ds J => ItOk G z' ds J) (f ρ τ) (fun c d H' => W c d σ H') z Rr
theorem ItOk.pre {G : Gd} {z z' : Z} {ds : List D} {J : It} (h : ItOk G z ds J) (f : Fut z z') : ItOk G z' ds J :=
  ⟨fun i z1 τ g => h.goes i z1 τ (f.trans g), fun z1 τ g => h.stops z1 τ (f.trans g), fun i z1 τ x H' g => h.yields i z1 τ x H' (f.trans g)⟩
theorem pi_weak {X : Cx} {tg e : Expr} {t t' : TI} (h : PI X tg e t) (w : ∀ σ H R, t' σ H R → t σ H R) : PI X tg e t' := ⟨fun pins s σ H R I q => h.run pins s σ H R I (w _ _ _ q)⟩
section
variable {G : Gd}
theorem it_same {z : Z} {ds : List D} {vs : List V} {J : It} {Gq : Hp → Prop} (w : Walk J vs.length Gq (YAt vs)) (r : Reps G z.S ds vs) (hg : ∀ z1 τ, Fut z z1 → Cells G z1 τ → Gq z1.H) : ItOk G z ds J := by
  refine ⟨fun i z1 τ f c hi => w.goes i z1.H (by rw [← r.length]; exact hi) (hg z1 τ f c), fun z1 τ f c => by rw [r.length]; exact w.stops z1.H (hg z1 τ f c), fun i z1 τ x H' f c hi y => ?_⟩
  obtain ⟨e1, e2⟩ := w.yields i z1.H x H' (by rw [← r.length]; exact hi) (hg z1 τ f c) y
  subst e1
  obtain ⟨d, h1, h2⟩ := r.get' e2
  exact ⟨z1, d, rfl, Fut.refl _, c, rfl, h1, Rep.mono f.ss _ _ h2⟩
end
/-- the items of what holds them -/
def gItems (u : U) (τ : Store) : R (List D) := match u with
  | .d x => match x.seq with
    | some ds => .ok ds τ
    | none => .bad
  | _ => .bad
def dItems (f : EV) : ED := fun ρ τ => (f ρ τ).bind gItems
section
variable {X : Cx} {G : Gd} {W : WX} {tg e : Expr} {f : EV}
/-- a list's walk, a tuple's walk: which one is known -/
def gItL (u : U) (τ : Store) : R (List D) := match u with
  | .d (.lst ds) => .ok ds τ
  | .d (.fl ds) => .ok ds τ
  | _ => .bad
def gItT (u : U) (τ : Store) : R (List D) := match u with
  | .d (.tup ds) => .ok ds τ
  | .d (.tpl ds) => .ok ds τ
  | _ => .bad
def dList (f : EV) : ED := fun ρ τ => (f ρ τ).bind gItL
def dTup (f : EV) : ED := fun ρ τ => (f ρ τ).bind gItT
theorem itl_ok {z : Z} {a : Addr} {ds : List D} {vs : List V} (h : SqL G.K z.S a vs) (r : Reps G z.S ds vs) : ItOk G z ds (Itl G.K a) :=
  it_same walk_list r fun z1 τ f c => sqL_mono c.sub (sqL_mono f.ss h)
theorem itt_ok {z : Z} {a : Addr} {ds : List D} {vs : List V} (h : SqT G.K z.S a vs) (r : Reps G z.S ds vs) : ItOk G z ds (Itt G.K a) :=
  it_same walk_tup r fun z1 τ f c => sqT_mono c.sub (sqT_mono f.ss h)
theorem vi_list (hK : X.K = G.K) (he : PE X e (VE G W f)) : PI X tg e (VI G W (dList f)) :=
  pi_weak (pi_list he) fun σ H Rr ⟨z, ρ, τ, hz, c, en, q⟩ => ⟨z, ρ, τ, hz, c, en, (Run.bind q).imp fun v H1 ⟨z1, u, τ1, e1, f, c1, r1, q1⟩ => by
    subst e1
    rw [hK]
    cases u with
    | loc n => exact q1.elim
    | fn => exact q1.elim
    | d x =>
      cases r1 with
      | d r1 =>
        cases x with
        | lst ds =>
          cases r1 with
          | lst h1 h2 => exact ⟨_, rfl, ⟨_, SqL.of (c1.sub _ _ h1)⟩, Run.ok (rep := fun z' ds J => ItOk G z' ds J) q1 c1 (itl_ok (SqL.of h1) h2)⟩
        | fl ds =>
          cases r1 with
          | fl h1 h2 => exact ⟨_, rfl, ⟨_, sqL_mono c1.sub h1⟩, Run.ok (rep := fun z' ds J => ItOk G z' ds J) q1 c1 (itl_ok h1 h2)⟩
        | _ => exact q1.elim⟩
theorem vi_tup (hK : X.K = G.K) (he : PE X e (VE G W f)) : PI X tg e (VI G W (dTup f)) :=
  pi_weak (pi_tup he) fun σ H Rr ⟨z, ρ, τ, hz, c, en, q⟩ => ⟨z, ρ, τ, hz, c, en, (Run.bind q).imp fun v H1 ⟨z1, u, τ1, e1, f, c1, r1, q1⟩ => by
    subst e1
    rw [hK]
    cases u with
    | loc n => exact q1.elim
    | fn => exact q1.elim
    | d x =>
      cases r1 with
      | d r1 =>
        cases x with
        | tup ds =>
          cases r1 with
          | tup h1 h2 => exact ⟨_, rfl, ⟨_, sqT_mono c1.sub h1⟩, Run.ok (rep := fun z' ds J => ItOk G z' ds J) q1 c1 (itt_ok h1 h2)⟩
        | tpl ds =>
          cases r1 with
          | tpl h1 _ h2 => exact ⟨_, rfl, ⟨_, .inl (.inr ⟨_, c1.sub _ _ h1⟩)⟩, Run.ok (rep := fun z' ds J => ItOk G z' ds J) q1 c1 (itt_ok (.inl (.inr ⟨_, h1⟩)) h2)⟩
        | _ => exact q1.elim⟩
end
theorem v_rev {X : Cx} {G : Gd} {W : WX} {e : Expr} {f : EV} {own : Bool} {k : Nat} {p1 p2 p3 pos : Pos} (hK : X.K = G.K) (he : PE X e (VE G W f)) : PE X (.Subscript e (.Slice none none (some (.UnaryOp .USub (.Constant (.int 1) k p1) p2)) p3) pos) (VE G W (eRev own f)) :=
  ve_step1 (pe_revL he) (r := fun x H Q => ∃ a xs, x = .ref a ∧ SqL X.K H a xs ∧ ∀ p, H p = none → Q (.ref p) (upd H p (.lst xs.reverse))) (fun _ _ _ h => h) fun z u τ v W Q c r q => by
    cases e : vw τ u with
    | none => rw [e] at q; exact q.elim
    | some d =>
      have rh := vw_rep c r e
      rw [e] at q
      rw [hK]
      cases d with
      | lst ds =>
        obtain ⟨a, vs, rfl, h1, h2⟩ := rh.lst_ c
        exact ⟨a, vs, rfl, SqL.of h1, fun p hp => alloc_lst c hp h2.reverse q⟩
      | fl ds =>
        obtain ⟨a, vs, rfl, h1, h2⟩ := rh.fl_ c
        exact ⟨a, vs, rfl, h1, fun p hp => alloc_lst c hp h2.reverse q⟩
      | _ => exact q.elim

/-! ### more walks: range, enumerate, zip, a text -/
theorem it_pair {G : Gd} {z : Z} {J : It} {n : Nat} {Gq : Hp → Prop} {fx fy : Nat → Option V} {ds : List D} (w : Walk J n Gq (YPair fx fy)) (hn : n = ds.length) (hg : ∀ z1 τ, Fut z z1 → Cells G z1 τ → Gq z1.H)
    (hd : ∀ i x y, fx i = some x → fy i = some y → i < n → ∃ dx dy, ds[i]? = some (.tup [dx, dy]) ∧ Rep G z.S dx x ∧ Rep G z.S dy y) : ItOk G z ds J := by
  subst hn
  refine ⟨fun i z1 τ f c hi => w.goes i z1.H hi (hg z1 τ f c), fun z1 τ f c => w.stops z1.H (hg z1 τ f c), fun i z1 τ v H' f c hi y => ?_⟩
  obtain ⟨t, x, y', e1, e2, e3, e4, e5⟩ := w.yields i z1.H v H' hi (hg z1 τ f c) y
  subst e1 e3
  obtain ⟨dx, dy, h1, h2, h3⟩ := hd i x y' e4 e5 hi
  have hs := c.none_ e2
  have ss := same_upd (o := HO.tup [x, y']) hs
  exact ⟨⟨upd z1.S t (.tup [x, y']), upd z1.H t (.tup [x, y']), z1.ms⟩, _, rfl, fut_sh hs e2, cells_sh c e2, rfl, h1, .tup (SqT.of upd_same) (.cons (Rep.mono (f.ss.trans ss) _ _ h2) (.cons (Rep.mono (f.ss.trans ss) _ _ h3) .nil))⟩
def enumD : Nat → List D → List D
  | _, [] => []
  | k, d :: ds => .tup [.int (k : Nat), d] :: enumD (k + 1) ds
theorem enumD_len : ∀ (k : Nat) (ds : List D), (enumD k ds).length = ds.length
  | _, [] => rfl
  | k, d :: ds => by simp [enumD, enumD_len (k + 1) ds]
theorem enumD_at : ∀ (k : Nat) (ds : List D) (i : Nat) (d : D), ds[i]? = some d → (enumD k ds)[i]? = some (.tup [.int ((k + i : Nat) : Int), d])
  | _, [], _, _, e => by simp at e
  | k, x :: ds, 0, d, e => by
    have e' : x = d := by simpa using e
    subst e'
    rfl
  | k, x :: ds, i + 1, d, e => by
    have q := enumD_at (k + 1) ds i d (by simpa using e)
    show (enumD (k + 1) ds)[i]? = _
    rw [q, show k + 1 + i = k + (i + 1) by omega]
def zipD : List D → List D → List D
  | x :: xs, y :: ys => .tup [x, y] :: zipD xs ys
  | _, _ => []
theorem zipD_len : ∀ (xs ys : List D), (zipD xs ys).length = min xs.length ys.length
  | [], _ => by simp [zipD]
  | _ :: _, [] => by simp [zipD]
  | x :: xs, y :: ys => by simp [zipD, zipD_len xs ys]
theorem zipD_at : ∀ (xs ys : List D) (i : Nat) (x y : D), xs[i]? = some x → ys[i]? = some y → (zipD xs ys)[i]? = some (.tup [x, y])
  | [], _, _, _, _, e, _ => by simp at e
  | _ :: _, [], _, _, _, _, e => by simp at e
  | a :: xs, b :: ys, 0, x, y, e1, e2 => by
    have h1 : a = x := by simpa using e1
    have h2 : b = y := by simpa using e2
    subst h1 h2
    rfl
  | a :: xs, b :: ys, i + 1, x, y, e1, e2 => zipD_at xs ys i x y (by simpa using e1) (by simpa using e2)
def rngD (lo : Int) : Nat → List D
  | 0 => []
  | n + 1 => .int lo :: rngD (lo + 1) n
theorem rngD_len : ∀ (lo : Int) (n : Nat), (rngD lo n).length = n
  | _, 0 => rfl
  | lo, n + 1 => by simp [rngD, rngD_len (lo + 1) n]
theorem rngD_at : ∀ (lo : Int) (n i : Nat), i < n → (rngD lo n)[i]? = some (.int (lo + (i : Nat)))
  | _, 0, _, h => absurd h (Nat.not_lt_zero _)
  | lo, n + 1, 0, _ => by simp [rngD]
  | lo, n + 1, i + 1, h => by
    have q := rngD_at (lo + 1) n i (by omega)
    show (rngD (lo + 1) n)[i]? = _
    rw [q, show lo + 1 + (i : Int) = lo + ((i + 1 : Nat) : Int) by omega]
theorem itr_ok {G : Gd} {z : Z} {lo : Int} {n : Nat} : ItOk G z (rngD lo n) (Itr lo n) := by
  refine ⟨fun i z1 τ f c hi => by rw [rngD_len] at hi; exact hi, fun z1 τ f c => by rw [rngD_len]; exact Nat.le_refl _, fun i z1 τ x H' f c hi y => ?_⟩
  rw [rngD_len] at hi
  obtain ⟨e1, e2⟩ : H' = z1.H ∧ x = .int (lo + i) := y
  subst e1 e2
  exact ⟨z1, _, rfl, Fut.refl _, c, rfl, rngD_at lo n i hi, .int _⟩
def gRange1 (us : List U) (τ : Store) : R (List D) := match us with
  | [.d (.int n)] => if -(2 ^ 62) ≤ n ∧ n < 2 ^ 62 then .ok (rngD 0 n.toNat) τ else .bad
  | _ => .bad
def gRange2 (us : List U) (τ : Store) : R (List D) := match us with
  | [.d (.int a), .d (.int b)] => if (-(2 ^ 62) ≤ a ∧ a < 2 ^ 62) ∧ (-(2 ^ 62) ≤ b ∧ b < 2 ^ 62) then .ok (rngD a (b - a).toNat) τ else .bad
  | _ => .bad
def dRange1 (fs : EL) : ED := fun ρ τ => (fs ρ τ).bind gRange1
def dRange2 (fs : EL) : ED := fun ρ τ => (fs ρ τ).bind gRange2
def lsD (d : D) : Option (List D) := match d with
  | .lst ds => some ds
  | .fl ds => some ds
  | _ => none
def gEnum (us : List U) (τ : Store) : R (List D) := match us with
  | [.d x] => match lsD x with
    | some ds => .ok (enumD 0 ds) τ
    | none => .bad
  | _ => .bad
def gZip (us : List U) (τ : Store) : R (List D) := match us with
  | [.d x, .d y] => match lsD x, lsD y with
    | some ds, some es => .ok (zipD ds es) τ
    | _, _ => .bad
  | _ => .bad
def dEnum (fs : EL) : ED := fun ρ τ => (fs ρ τ).bind gEnum
def dZip (fs : EL) : ED := fun ρ τ => (fs ρ τ).bind gZip
theorem lsD_rep {G : Gd} {S : Hp} {d : D} {v : V} {ds : List D} (r : Rep G S d v) (e : lsD d = some ds) : ∃ a vs, v = .ref a ∧ SqL G.K S a vs ∧ Reps G S ds vs := by
  cases d with
  | lst xs =>
    cases e
    cases r with
    | lst h1 h2 => exact ⟨_, _, rfl, SqL.of h1, h2⟩
  | fl xs =>
    cases e
    cases r with
    | fl h1 h2 => exact ⟨_, _, rfl, h1, h2⟩
  | _ => cases e
section
variable {X : Cx} {G : Gd} {W : WX} {a b : Expr} {fs : EL} {p pos tpos : Pos} {tg : Expr}
theorem us1 {z : Z} {us : List U} {vs : List V} (r : RepUs G z us vs) {u : U} (e : us = [u]) : ∃ v, vs = [v] ∧ RepU G z u v := by
  subst e
  cases r with
  | cons h t => cases t; exact ⟨_, rfl, h⟩
theorem us2 {z : Z} {us : List U} {vs : List V} (r : RepUs G z us vs) {u w : U} (e : us = [u, w]) : ∃ v y, vs = [v, y] ∧ RepU G z u v ∧ RepU G z w y := by
  subst e
  cases r with
  | cons h t =>
    cases t with
    | cons h2 t2 => cases t2; exact ⟨_, _, rfl, h, h2⟩
theorem vi_stepA {x : Expr} {t : TI} {g : List U → Store → R (List D)} {r : List V → Hp → (It → Hp → Prop) → Prop} (h : PI X tg x t) (he : ∀ σ H Q, (VA G W fs) σ H (fun xs H1 => r xs H1 Q) → t σ H Q)
    (hr : ∀ (z : Z) (us : List U) (τ : Store) (vs : List V) (W : XK) (Q : It → Hp → Prop), Cells G z τ → RepUs G z us vs → Run G (fun z' ds J => ItOk G z' ds J) (g us τ) W z Q → r vs z.H Q) : PI X tg x (VI G W fun ρ τ => (fs ρ τ).bind g) := by
  refine pi_weak h fun σ H Q ⟨z, ρ, τ, hz, c, en, q⟩ => he _ _ _ ⟨z, ρ, τ, hz, c, en, ?_⟩
  exact (Run.bind q).imp fun v H1 ⟨z1, u, τ1, e1, f, c1, r1, q1⟩ => by
    subst e1
    exact hr z1 u τ1 v _ Q c1 r1 q1
theorem vi_range1 (hg : Gl X "range") (hm : X.mg "range" = none) (ha : PA X [a] (VA G W fs)) (hs : starEach [a] X.env = [(false, eval a X.env)] := by rfl) : PI X tg (.Call (.Name "range" p) [a] [] pos) (VI G W (dRange1 fs)) :=
  vi_stepA (pi_range1 hg hm ha hs) (fun _ _ _ h => h) fun z us τ vs W Q c r q => by
    unfold gRange1 at q
    split at q
    · rename_i n
      obtain ⟨v, rfl, rv⟩ := us1 r rfl
      cases rv with
      | d rv =>
        cases rv
        split at q
        · rename_i hn
          have key := Run.ok (rep := fun z' ds J => ItOk G z' ds J) q c (itr_ok (lo := 0) (n := n.toNat))
          exact ⟨n, rfl, hn.1, hn.2, by simpa using key⟩
        · exact q.elim
    · exact q.elim
theorem vi_range2 (hg : Gl X "range") (hm : X.mg "range" = none) (ha : PA X [a, b] (VA G W fs)) (hs : starEach [a, b] X.env = [(false, eval a X.env), (false, eval b X.env)] := by rfl) (hs2 : starEach [b] X.env = [(false, eval b X.env)] := by rfl) : PI X tg (.Call (.Name "range" p) [a, b] [] pos) (VI G W (dRange2 fs)) :=
  vi_stepA (pi_range2 hg hm ha hs hs2) (fun _ _ _ h => h) fun z us τ vs W Q c r q => by
    unfold gRange2 at q
    split at q
    · rename_i m n
      obtain ⟨v, y, rfl, rv, ry⟩ := us2 r rfl
      cases rv with
      | d rv =>
        cases rv
        cases ry with
        | d ry =>
          cases ry
          split at q
          · rename_i hn
            exact ⟨m, n, rfl, ⟨hn.1.1, hn.1.2, hn.2.1, hn.2.2⟩, Run.ok (rep := fun z' ds J => ItOk G z' ds J) q c (itr_ok (lo := m) (n := (n - m).toNat))⟩
          · exact q.elim
    · exact q.elim
theorem vi_enum {elts : List Expr} {kk : Nat} (hK : X.K = G.K) (hg : Gl X "enumerate") (hm : X.mg "enumerate" = none) (ha : PA X [a] (VA G W fs)) (hs : starEach [a] X.env = [(false, eval a X.env)] := by rfl) : PI X (.Tuple elts kk tpos) (.Call (.Name "enumerate" p) [a] [] pos) (VI G W (dEnum fs)) :=
  vi_stepA (pi_enum hg hm ha hs) (fun _ _ _ h => h) fun z us τ vs W Q c r q => by
    rw [hK]
    unfold gEnum at q
    split at q
    · rename_i x
      obtain ⟨v, rfl, rv⟩ := us1 r rfl
      cases rv with
      | d rv =>
        cases e : lsD x with
        | none => rw [e] at q; exact q.elim
        | some ds =>
          rw [e] at q
          obtain ⟨l, ws, rfl, h1, h2⟩ := lsD_rep rv e
          refine ⟨l, ws, rfl, sqL_mono c.sub h1, Run.ok (rep := fun z' ds J => ItOk G z' ds J) q c (it_pair (walk_enum (xs := ws)) (by rw [enumD_len, h2.length]) (fun z1 τ f c => sqL_mono c.sub (sqL_mono f.ss h1)) fun i x y e1 e2 hi => ?_)⟩
          obtain ⟨d, q1, q2⟩ := h2.get' e2
          have e1 : V.int (i : Nat) = x := Option.some.inj e1
          subst e1
          exact ⟨_, d, by rw [enumD_at 0 ds i d q1, Nat.zero_add], .int _, q2⟩
    · exact q.elim
theorem vi_zip {elts : List Expr} {kk : Nat} (hK : X.K = G.K) (hg : Gl X "zip") (hm : X.mg "zip" = none) (ha : PA X [a, b] (VA G W fs)) (hs : starEach [a, b] X.env = (false, eval a X.env) :: starEach [b] X.env := by rfl) (hpl : (backTo pos (starEach [b] X.env)).any (·.1) = false := by rfl) :
    PI X (.Tuple elts kk tpos) (.Call (.Name "zip" p) [a, b] [] pos) (VI G W (dZip fs)) :=
  vi_stepA (pi_zip hg hm ha hs hpl) (fun _ _ _ h => h) fun z us τ vs W Q c r q => by
    rw [hK]
    unfold gZip at q
    split at q
    · rename_i x y
      obtain ⟨v, y', rfl, rv, ry⟩ := us2 r rfl
      cases rv with
      | d rv =>
        cases ry with
        | d ry =>
          cases e : lsD x with
          | none => rw [e] at q; exact q.elim
          | some ds =>
            cases e' : lsD y with
            | none => rw [e, e'] at q; exact q.elim
            | some es =>
              rw [e, e'] at q
              obtain ⟨l, ws, rfl, h1, h2⟩ := lsD_rep rv e
              obtain ⟨l', ws', rfl, h1', h2'⟩ := lsD_rep ry e'
              refine ⟨l, l', ws, ws', rfl, sqL_mono c.sub h1, sqL_mono c.sub h1', Run.ok (rep := fun z' ds J => ItOk G z' ds J) q c (it_pair (walk_zip (xs := ws) (ys := ws') rfl) (by rw [zipD_len, h2.length, h2'.length])
                (fun z1 τ f c => ⟨sqL_mono c.sub (sqL_mono f.ss h1), sqL_mono c.sub (sqL_mono f.ss h1')⟩) fun i x y e1 e2 hi => ?_)⟩
              obtain ⟨d, q1, q2⟩ := h2.get' e1
              obtain ⟨d', q1', q2'⟩ := h2'.get' e2
              exact ⟨d, d', zipD_at ds es i d d' q1 q1', q2, q2'⟩
    · exact q.elim
/-- the signs of a text -/
def gSigns (u : U) (τ : Store) : R (List D) := match u with
  | .d (.str t) => .ok (t.map fun c => D.str [c]) τ
  | _ => .bad
def dSigns (f : EV) : ED := fun ρ τ => (f ρ τ).bind gSigns
theorem vi_str {f : EV} (he : PE X a (VE G W f)) : PI X tg a (VI G W (dSigns f)) :=
  pi_weak (pi_str he) fun σ H Rr ⟨z, ρ, τ, hz, c, en, q⟩ => ⟨z, ρ, τ, hz, c, en, (Run.bind q).imp fun v H1 ⟨z1, u, τ1, e1, f, c1, r1, q1⟩ => by
    subst e1
    unfold gSigns at q1
    split at q1
    · rename_i t
      cases r1 with
      | d r1 =>
        cases r1
        refine ⟨_, rfl, Run.ok (rep := fun z' ds J => ItOk G z' ds J) q1 c1 ?_⟩
        have w := walk_str (z := t.s)
        have hz : t.s.cps.size = (t.map fun c => D.str [c]).length := by simp [T.s]
        refine ⟨fun i z1 τ f c hi => w.goes i z1.H (by rw [hz]; exact hi) trivial, fun z1 τ f c => by rw [← hz]; exact w.stops z1.H trivial, fun i z1 τ x H' f c hi y => ?_⟩
        obtain ⟨e1, cc, e2, e3⟩ := w.yields i z1.H x H' (by rw [hz]; exact hi) trivial y
        subst e1 e3
        refine ⟨z1, .str [cc], rfl, Fut.refl _, c, rfl, ?_, .str [cc]⟩
        have e2 : t[i]? = some cc := by simpa [T.s] using e2
        rw [List.getElem?_map, e2]
        rfl
    · exact q1.elim⟩
end

/-! ### for, while -/
def forGo (t : TGv) (g : GS) : List D → GS
  | [], ρ, τ => .nx ρ τ
  | d :: ds, ρ, τ => match t d ρ with
    | some ρ1 => match g ρ1 τ with
      | .nx ρ2 τ2 => forGo t g ds ρ2 τ2
      | .ct ρ2 τ2 => forGo t g ds ρ2 τ2
      | .bk ρ2 τ2 => .nx ρ2 τ2
      | r => r
    | none => .bad
def gFor (f : ED) (t : TGv) (g : GS) : GS := fun ρ τ => liftE (f ρ τ) ρ fun ds τ1 => forGo t g ds ρ τ1
theorem drop_at {ds : List D} {i : Nat} {d : D} (e : ds[i]? = some d) : ds.drop i = d :: ds.drop (i + 1) := by
  obtain ⟨h, e'⟩ := List.getElem?_eq_some_iff.mp e
  rw [List.drop_eq_getElem_cons h, e']
theorem s_for {X : Cx} {G : Gd} {W : WX} {tg iter : Expr} {body : List Stmt} {f : ED} {gt : TG} {t : TGv} {g : GS} {pos : Pos} (hp : PassesOwn (model X.prog X.w) X.A X.env X.xe) (hc : X.calm = true) (hi : PI X tg iter (VI G W f)) {is : List Nat} (hg : PG X tg gt) (ht : TgS G gt t is) (hb : PSs X body (VS G W g))
    (hs : ∀ x, foldedSetIterable iter X.env x = pure x := by intro _; rfl) : PS X (.For tg iter body [] pos) (VS G W (gFor f t g)) :=
  ps_weak (ps_for hp hc hi hg hb hs) fun D σ H ⟨z, ρ, τ, hz, c, en, q⟩ => ⟨z, ρ, τ, hz, c, en, (RunS.lift (rep := fun z' ds J => ItOk G z' ds J) en q).imp fun J H1 ⟨z1, ds, τ1, e1, f, c1, J1, q1⟩ => by
    subst e1
    refine ⟨fun i m σ' H' => m = ds.length - i ∧ i ≤ ds.length ∧ ∃ z2 ρ2 τ2, z2.H = H' ∧ Fut z1 z2 ∧ Cells G z2 τ2 ∧ EnvR G z2 ρ2 σ' ∧ RunS G (forGo t g (ds.drop i) ρ2 τ2) W D z2,
      ⟨ds.length, by simp, Nat.zero_le _, z1, ρ, τ1, rfl, Fut.refl _, c1, en.fut f, q1⟩, ?_⟩
    rintro i m σ' H' ⟨rfl, hi, z2, ρ2, τ2, rfl, f2, c2, en2, q2⟩
    by_cases hlt : i < ds.length
    · refine .inr ⟨J1.goes i z2 τ2 f2 c2 hlt, fun σ3 H3 => ∃ z3 ρ3 τ3, z3.H = H3 ∧ Fut z1 z3 ∧ Cells G z3 τ3 ∧ EnvR G z3 ρ3 σ3 ∧ RunS G (forGo t g (ds.drop (i + 1)) ρ3 τ3) W D z3, fun σ3 H3 h => ⟨ds.length - (i + 1), by omega, rfl, hlt, h⟩, fun x H3 y => ?_⟩
      obtain ⟨z3, d, rfl, f3, c3, m3, e3, r3⟩ := J1.yields i z2 τ2 x H3 f2 c2 hlt y
      rw [drop_at e3] at q2
      unfold forGo at q2
      cases e4 : t d ρ2 with
      | none => rw [e4] at q2; exact q2.elim
      | some ρ4 =>
        rw [e4] at q2
        refine ht z3 τ2 d x ρ2 ρ4 σ' _ c3 r3 (en2.fut f3) e4 fun σ4 en4 _ _ => ?_
        refine ⟨z3, ρ4, τ2, rfl, c3, en4, ?_⟩
        have q3 := RunS.pre q2 f3
        simp only at q3
        cases e5 : g ρ4 τ2 with
        | nx ρ5 τ5 =>
          rw [e5] at q3
          exact fun z' σ5 f' c' en' => ⟨z', ρ5, τ5, rfl, (f2.trans f3).trans f', c', en', RunS.pre (r := forGo t g (ds.drop (i + 1)) ρ5 τ5) q3 f'⟩
        | ct ρ5 τ5 =>
          rw [e5] at q3
          exact fun z' σ5 f' c' en' => ⟨z', ρ5, τ5, rfl, (f2.trans f3).trans f', c', en', RunS.pre (r := forGo t g (ds.drop (i + 1)) ρ5 τ5) q3 f'⟩
        | bk ρ5 τ5 => rw [e5] at q3; exact q3
        | rt u τ5 => rw [e5] at q3; exact q3
        | exc cc fs ρ5 τ5 => rw [e5] at q3; exact q3
        | bad => rw [e5] at q3; exact q3
    · have e : i = ds.length := by omega
      subst e
      rw [List.drop_length] at q2
      exact .inl ⟨J1.stops z2 τ2 f2 c2, RunS.nx_ q2 c2 en2⟩⟩
/-- at most n turns -/
def whileGo (t : EB) (g : GS) : Nat → GS
  | 0, _, _ => .bad
  | n + 1, ρ, τ => liftE (t ρ τ) ρ fun b τ1 => if b then (match g ρ τ1 with
      | .nx ρ2 τ2 => whileGo t g n ρ2 τ2
      | .ct ρ2 τ2 => whileGo t g n ρ2 τ2
      | .bk ρ2 τ2 => .nx ρ2 τ2
      | r => r) else .nx ρ τ1
def gWhile (n : Env → Store → Nat) (t : EB) (g : GS) : GS := fun ρ τ => whileGo t g (n ρ τ) ρ τ
theorem s_while (n : Env → Store → Nat) {X : Cx} {G : Gd} {W : WX} {cc : Expr} {body : List Stmt} {t : EB} {g : GS} {pos : Pos} (hp : PassesOwn (model X.prog X.w) X.A X.env X.xe) (hc : PT X cc (VB G W t)) (hb : PSs X body (VS G W g)) : PS X (.While cc body [] pos) (VS G W (gWhile n t g)) :=
  ps_weak (ps_while hp hc hb) fun D σ H ⟨z, ρ, τ, hz, c, en, q⟩ => by
    refine ⟨fun m σ' H' => ∃ z2 ρ2 τ2, z2.H = H' ∧ Fut z z2 ∧ Cells G z2 τ2 ∧ EnvR G z2 ρ2 σ' ∧ RunS G (whileGo t g m ρ2 τ2) W D z2, ⟨n ρ τ, z, ρ, τ, hz, Fut.refl _, c, en, q⟩, ?_⟩
    rintro m σ' H' ⟨z2, ρ2, τ2, rfl, f2, c2, en2, q2⟩
    cases m with
    | zero => exact q2.elim
    | succ m =>
      refine ⟨z2, ρ2, τ2, rfl, c2, en2, (RunS.lift (rep := EqRep) en2 q2).imp fun k H3 ⟨z3, k', τ3, e3, f3, c3, r3, q3⟩ => ?_⟩
      subst e3
      have r3 : k' = k := r3
      subst r3
      cases k' with
      | false => exact RunS.nx_ q3 c3 (en2.fut f3)
      | true =>
        rw [if_pos rfl]
        refine ⟨fun σ4 H4 => ∃ z4 ρ4 τ4, z4.H = H4 ∧ Fut z z4 ∧ Cells G z4 τ4 ∧ EnvR G z4 ρ4 σ4 ∧ RunS G (whileGo t g m ρ4 τ4) W D z4, fun σ4 H4 h => ⟨m, Nat.lt_succ_self m, h⟩, z3, ρ2, τ3, rfl, c3, en2.fut f3, ?_⟩
        simp only [if_true] at q3
        cases e5 : g ρ2 τ3 with
        | nx ρ5 τ5 =>
          rw [e5] at q3
          exact fun z' σ5 f' c' en' => ⟨z', ρ5, τ5, rfl, (f2.trans f3).trans f', c', en', RunS.pre (r := whileGo t g m ρ5 τ5) q3 f'⟩
        | ct ρ5 τ5 =>
          rw [e5] at q3
          exact fun z' σ5 f' c' en' => ⟨z', ρ5, τ5, rfl, (f2.trans f3).trans f', c', en', RunS.pre (r := whileGo t g m ρ5 τ5) q3 f'⟩
        | bk ρ5 τ5 => rw [e5] at q3; exact q3
        | rt u τ5 => rw [e5] at q3; exact q3
        | exc cc fs ρ5 τ5 => rw [e5] at q3; exact q3
        | bad => rw [e5] at q3; exact q3

/-! ### comprehensions -/
def R.nx {α : Type} : R α → R α
  | .exc _ _ _ => .bad
  | r => r
@[simp] theorem R.nx_ok {α : Type} (a : α) (τ : Store) : (R.ok a τ).nx = .ok a τ := rfl
def W0 : WX := fun _ _ _ _ => False
def wipeE (ρ : Env) : List Nat → Env
  | [] => ρ
  | v :: vs => (wipeE ρ vs).set v none
def compGo (t : TGv) (tb : EB) (fe : EV) (ρ : Env) : List D → Store → List D → R (List D)
  | [], τ, acc => .ok acc τ
  | d :: ds, τ, acc => match t d ρ with
    | some ρ1 => (tb ρ1 τ).nx.bind fun b τ1 => if b then (fe ρ1 τ1).nx.bind fun u τ2 => (match frz τ2 u with
        | some (x, τ3) => if acc.length < sizeLine then compGo t tb fe ρ ds τ3 (acc ++ [x]) else .bad
        | none => .bad) else compGo t tb fe ρ ds τ1 acc
    | none => .bad
def eLc (own : Bool) (fi : ED) (t : TGv) (tb : EB) (fe : EV) (vs : List Nat) : EV := fun ρ τ => (fi ρ τ).bind fun ds τ1 => (compGo t tb fe (wipeE ρ vs) ds τ1 []).bind fun acc τ2 => allocL own acc τ2
def bYes : EB := fun _ τ => .ok true τ
theorem wipeE_ok {G : Gd} {z : Z} {ρ : Env} {σ : L2.St} (en : EnvR G z ρ σ) : ∀ vs : List Nat, EnvR G z (wipeE ρ vs) (wipe σ vs)
  | [] => en
  | v :: vs => (wipeE_ok en vs).unset
theorem wipe_mem {σ : L2.St} {i : Nat} : ∀ {vs : List Nat}, i ∈ vs → i < σ.length → (wipe σ vs)[i]? = some none
  | v :: vs, h, hi => by
    unfold wipe
    by_cases e : v = i
    · subst e
      rw [List.getElem?_set_self (by rw [wipe_length]; exact hi)]
    · rw [List.getElem?_set_ne e]
      rcases List.mem_cons.mp h with q | q
      · exact absurd q.symm e
      · exact wipe_mem q hi
theorem wipe_eq {σ σ2 : L2.St} {vs is : List Nat} (hl : σ2.length = (wipe σ vs).length) (h : ∀ j, j ∉ is → σ2[j]? = (wipe σ vs)[j]?) (hi : ∀ j ∈ is, j ∈ vs) : wipe σ2 vs = wipe σ vs := by
  apply List.ext_getElem?
  intro j
  have hl2 : σ2.length = σ.length := by rw [hl, wipe_length]
  by_cases hj : j ∈ vs
  · by_cases hlt : j < σ.length
    · rw [wipe_mem hj (by rw [hl2]; exact hlt), wipe_mem hj hlt]
    · rw [List.getElem?_eq_none (by rw [wipe_length]; omega), List.getElem?_eq_none (by rw [wipe_length]; omega)]
  · rw [wipe_out hj, h j fun m => hj (hi j m)]
section
variable {G : Gd} {z z1 : Z} {τ : Store}
theorem Run.base {α β α' β' : Type} {rep : Z → α → β → Prop} {rep' : Z → α' → β' → Prop} {r : R α} {g : α → Store → R α'} {W W' : XK} {k : β' → Hp → Prop} (h : Run G rep' (r.nx.bind g) W z1 k) :
    Run G rep r W' z fun b H => ∃ z2 a τ1, z2.H = H ∧ Fut z z2 ∧ Cells G z2 τ1 ∧ rep z2 a b ∧ Run G rep' (g a τ1) W z1 k := by
  cases r with
  | ok a τ => exact fun z' b f c q => ⟨z', a, τ, rfl, f, c, q, h⟩
  | exc c fs τ => exact h.elim
  | bad => exact h.elim
/-- an object of our own beside -/
theorem cells_priv (c : Cells G z τ) {p : Addr} {o : HO} (hs : z.S p = none) (hm : p ∉ z.ms) (ht : ∀ o', z.H p = some o' → pln o') : Cells G ⟨z.S, upd z.H p o, z.ms⟩ τ := by
  refine ⟨fun b u e => ?_, c.len, c.nd, fun a m => ?_, fun i a cl e1 e2 => ?_, ?_, c.nt⟩
  · have nb : b ≠ p := fun q => by
      have e : z.S b = some u := e
      rw [q, hs] at e; cases e
    exact (upd_ne nb).trans (c.sub b u e)
  · obtain ⟨u, e, q⟩ := c.al a m
    exact ⟨u, (upd_ne (show a ≠ p from fun q => hm (by rw [← q]; exact m))).trans e, q⟩
  · have ne : a ≠ p := fun q => hm (q ▸ List.mem_of_getElem? e1)
    exact (c.at_ i a cl e1 e2).more (Same.refl _) (fun n => n) fun u e => (upd_ne ne).trans e
  · cases e : z.H p with
    | none => exact c.tab.ext (same_upd e)
    | some o' => exact tabs_upd c.tab e (ht o' e)
theorem fut_priv (f : Fut z1 z) {p : Addr} {o : HO} (h1 : z1.H p = none) : Fut z1 ⟨z.S, upd z.H p o, z.ms⟩ :=
  ⟨f.ss, f.pre, fun a u e n t => (upd_ne (ne_of_none e h1)).trans (f.frame a u e n t), fun a u e t => by
    obtain ⟨u', e', t'⟩ := f.dom a u e t
    exact ⟨u', (upd_ne (ne_of_none e h1)).trans e', t'⟩, fun a u e t n => f.claim a u e t n, f.new⟩
/-- the private list at L, seen behind a step -/
structure Priv (z : Z) (L : Addr) (vs : List V) : Prop where
  at_ : z.H L = some (.lst vs)
  s : z.S L = none
  m : L ∉ z.ms
theorem nt_lst {vs : List V} : notTbl (.lst vs) := fun _ e => by cases e
theorem Priv.fut {L : Addr} {vs : List V} (p : Priv z L vs) {z2 : Z} (f : Fut z z2) : Priv z2 L vs :=
  ⟨f.frame _ _ p.at_ p.m nt_lst, (f.claim _ _ p.at_ nt_lst p.m).trans p.s, fun m => by
    rcases f.new _ m with q | q
    · exact p.m q
    · exact q _ p.at_ nt_lst⟩
/-- at the end the list is let go -/
theorem priv_end {L : Addr} {vs : List V} {acc : List D} {own : Bool} {W : XK} {Q : VK} (p : Priv z L vs) (h1 : z1.H L = none) (f : Fut z1 z) (c : Cells G z τ) (r : Reps G z.S acc vs) (q : Run G (RepU G) (allocL own acc τ) W z1 Q) : Q (.ref L) z.H := by
  cases own with
  | false =>
    refine q ⟨upd z.S L (.lst vs), z.H, z.ms⟩ (.ref L) ⟨f.ss.trans (same_upd p.s), f.pre, f.frame, f.dom, fun a u e t n => (upd_ne (ne_of_none e h1)).trans (f.claim a u e t n), f.new⟩ ?_ (.d (.lst upd_same (Reps.mono (same_upd p.s) _ _ r)))
    refine ⟨fun b u e => ?_, c.len, c.nd, c.al, fun i a cl e1 e2 => ?_, c.tab, fun b u e => ?_⟩
    · by_cases hb : b = L
      · have e : upd z.S L (.lst vs) b = some u := e
        rw [hb, upd_same] at e
        rw [hb, ← e]
        exact p.at_
      · have e : upd z.S L (.lst vs) b = some u := e
        rw [upd_ne hb] at e
        exact c.sub b u e
    · have ne : a ≠ L := fun q => p.m (q ▸ List.mem_of_getElem? e1)
      exact (c.at_ i a cl e1 e2).more (same_upd p.s) (fun n => (upd_ne ne).trans n) fun u e => e
    · by_cases hb : b = L
      · have e : upd z.S L (.lst vs) b = some u := e
        rw [hb, upd_same] at e
        cases e
        exact nt_lst
      · have e : upd z.S L (.lst vs) b = some u := e
        rw [upd_ne hb] at e
        exact c.nt b u e
  | true =>
    refine q ⟨z.S, z.H, z.ms ++ [L]⟩ (.ref L) ⟨f.ss, f.pre.trans (List.prefix_append _ _), f.frame, f.dom, f.claim, fun a m => ?_⟩ ?_ (.loc ?_)
    · rcases List.mem_append.mp m with m | m
      · exact f.new a m
      · refine .inr fun u e => ?_
        rw [List.mem_singleton.mp m, h1] at e
        cases e
    · refine ⟨c.sub, by simp [c.len], ?_, fun a m => ?_, fun i a cl e1 e2 => ?_, c.tab, c.nt⟩
      · refine List.nodup_append.mpr ⟨c.nd, by simp, fun a ha b hb => ?_⟩
        rw [List.mem_singleton.mp hb]
        exact fun q => p.m (q ▸ ha)
      · rcases List.mem_append.mp m with m | m
        · exact c.al a m
        · rw [List.mem_singleton.mp m]
          exact ⟨_, p.at_, trivial⟩
      · have e1 : (z.ms ++ [L])[i]? = some a := e1
        by_cases hi : i < z.ms.length
        · rw [List.getElem?_append_left hi] at e1
          rw [List.getElem?_append_left (by rw [← c.len]; exact hi)] at e2
          exact c.at_ i a cl e1 e2
        · have hl := (List.getElem?_eq_some_iff.mp e1).1
          have hi2 : i = z.ms.length := by
            rw [List.length_append, List.length_singleton] at hl
            omega
          subst hi2
          rw [List.getElem?_append_right (Nat.le_refl _)] at e1
          rw [c.len, List.getElem?_append_right (Nat.le_refl _)] at e2
          simp only [Nat.sub_self, List.getElem?_cons_zero, Option.some.injEq] at e1 e2
          subst e1 e2
          exact ⟨p.s, vs, p.at_, r⟩
    · show (z.ms ++ [L])[τ.length]? = some L
      rw [← c.len, List.getElem?_append_right (Nat.le_refl _)]
      simp
end
section
variable {X : Cx} {G : Gd} {W : WX} {elt tg iter : Expr} {ifs : List Expr} {scope : Scope} {vsl : List (Str × Nat)} {pos : Pos} {gt : TG} {t : TGv} {is : List Nat} {fi : ED} {tb : EB} {fe : EV} {own : Bool}
/-- what a comprehension's reading asks -/
theorem lc_read (ht : TgS G gt t is) (his : ∀ i ∈ is, i ∈ vsl.map (·.2)) {σ : L2.St} {H : Hp} {Q : VK} (h : VE G W (eLc own fi t tb fe (vsl.map (·.2))) σ H Q) : tLc (VI G W fi) gt (VB G W0 tb) (VE G W0 fe) (vsl.map (·.2)) σ H Q := by
  obtain ⟨z, ρ, τ, hz, c, en, q⟩ := h
  refine ⟨z, ρ, τ, hz, c, en, (Run.bind q).imp fun J H1 ⟨z1, ds, τ1, e1, f1, c1, J1, q1⟩ => ?_⟩
  subst e1
  intro L hL
  have en1 := wipeE_ok (en.fut f1) (vsl.map (·.2))
  refine ⟨fun i m H' => m = ds.length - i ∧ i ≤ ds.length ∧ ∃ z2 τ2 acc vs, z2.H = H' ∧ Fut z1 z2 ∧ Cells G z2 τ2 ∧ Priv z2 L vs ∧ Reps G z2.S acc vs ∧
      Run G (RepU G) ((compGo t tb fe (wipeE ρ (vsl.map (·.2))) (ds.drop i) τ2 acc).bind fun acc τ2 => allocL own acc τ2) (fun c d H' => W c d σ H') z1 Q, ⟨ds.length, by simp, Nat.zero_le _, ?_⟩, ?_⟩
  · exact ⟨⟨z1.S, upd z1.H L (.lst []), z1.ms⟩, τ1, [], [], rfl, fut_priv (Fut.refl z1) hL, cells_priv c1 (c1.none_ hL) (c1.nin hL) (fun o' e => by rw [hL] at e; cases e), ⟨upd_same, c1.none_ hL, c1.nin hL⟩, .nil, q1⟩
  rintro i m H' ⟨rfl, hi, z2, τ2, acc, vs, rfl, f2, c2, p2, r2, q2⟩
  by_cases hlt : i < ds.length
  · refine .inr ⟨J1.goes i z2 τ2 f2 c2 hlt, fun H3 => ∃ z3 τ3 acc vs, z3.H = H3 ∧ Fut z1 z3 ∧ Cells G z3 τ3 ∧ Priv z3 L vs ∧ Reps G z3.S acc vs ∧
      Run G (RepU G) ((compGo t tb fe (wipeE ρ (vsl.map (·.2))) (ds.drop (i + 1)) τ3 acc).bind fun acc τ2 => allocL own acc τ2) (fun c d H' => W c d σ H') z1 Q, fun H3 h3 => ⟨ds.length - (i + 1), by omega, rfl, hlt, h3⟩, fun x H3 y => ?_⟩
    obtain ⟨z3, d, rfl, f3, c3, m3, e3, r3⟩ := J1.yields i z2 τ2 x H3 f2 c2 hlt y
    rw [drop_at e3] at q2
    unfold compGo at q2
    cases e4 : t d (wipeE ρ (vsl.map (·.2))) with
    | none => rw [e4] at q2; exact q2.elim
    | some ρ4 =>
      rw [e4] at q2
      simp only at q2
      have en3 := ((en1.fut f2).fut f3)
      refine ht z3 τ2 d x _ ρ4 _ _ c3 r3 en3 e4 fun σ4 en4 hl4 hj4 => ⟨wipe_eq hl4 hj4 his, ?_⟩
      have q3 : Run G (RepU G) ((tb ρ4 τ2).nx.bind fun b τ1 => ((if b = true then (fe ρ4 τ1).nx.bind fun u τ2 => (match frz τ2 u with
        | some (x, τ3) => if acc.length < sizeLine then compGo t tb fe (wipeE ρ (vsl.map (·.2))) (ds.drop (i + 1)) τ3 (acc ++ [x]) else .bad
        | none => .bad) else compGo t tb fe (wipeE ρ (vsl.map (·.2))) (ds.drop (i + 1)) τ1 acc).bind fun acc τ2 => allocL own acc τ2)) (fun c d H' => W c d σ H') z1 Q := by
        cases e5 : tb ρ4 τ2 with
        | ok a τ' => rw [e5] at q2; exact q2
        | exc cc fs τ' => rw [e5] at q2; exact q2
        | bad => rw [e5] at q2; exact q2
      refine ⟨z3, ρ4, τ2, rfl, c3, en4, (Run.base (rep := EqRep) q3).imp fun b H4 ⟨z4, b', τ4, e4', f4, c4, rb, q4⟩ => ?_⟩
      subst e4'
      have rb : b' = b := rb
      subst rb
      have p4 := (p2.fut f3).fut f4
      have rr4 := Reps.mono (f3.trans f4).ss _ _ r2
      cases b' with
      | false => exact ⟨z4, τ4, acc, vs, rfl, (f2.trans f3).trans f4, c4, p4, rr4, q4⟩
      | true =>
        rw [if_pos rfl]
        rw [if_pos rfl] at q4
        have q5 : Run G (RepU G) ((fe ρ4 τ4).nx.bind fun u τ2 => ((match frz τ2 u with
          | some (x, τ3) => if acc.length < sizeLine then compGo t tb fe (wipeE ρ (vsl.map Prod.snd)) (ds.drop (i + 1)) τ3 (acc ++ [x]) else .bad
          | none => .bad).bind fun acc τ2 => allocL own acc τ2)) (fun c d H' => W c d σ H') z1 Q := by
          cases e5 : fe ρ4 τ4 with
          | ok a τ' => rw [e5] at q4; exact q4
          | exc cc fs τ' => rw [e5] at q4; exact q4
          | bad => rw [e5] at q4; exact q4
        refine ⟨z4, ρ4, τ4, rfl, c4, en4.fut f4, (Run.base (rep := RepU G) q5).imp fun v H5 ⟨z5, u, τ5, e5, f5, c5, ru, q6⟩ => ?_⟩
        subst e5
        have p5 := p4.fut f5
        have rr5 := Reps.mono f5.ss _ _ rr4
        cases e6 : frz τ5 u with
        | none => rw [e6] at q6; exact q6.elim
        | some pr =>
          obtain ⟨xd, τ6⟩ := pr
          rw [e6] at q6
          simp only at q6
          obtain ⟨z6, h6, f6, c6, rx, m6⟩ := frz_ok c5 ru e6
          have p6 := p5.fut f6
          have rr6 := Reps.mono f6.ss _ _ rr5
          by_cases hs : acc.length < sizeLine
          · rw [if_pos hs] at q6
            refine ⟨vs, p5.at_, by rw [← rr5.length]; exact hs, ?_⟩
            rw [← h6]
            refine ⟨⟨z6.S, upd z6.H L (.lst (vs ++ [v])), z6.ms⟩, τ6, acc ++ [xd], vs ++ [v], rfl, fut_priv ((((f2.trans f3).trans f4).trans f5).trans f6) hL, cells_priv c6 p6.s p6.m (fun o' e => ?_), ⟨upd_same, p6.s, p6.m⟩, rr6.append (.cons rx .nil), q6⟩
            rw [p6.at_] at e
            cases e
            trivial
          · rw [if_neg hs] at q6; exact q6.elim
  · have e : i = ds.length := by omega
    subst e
    rw [List.drop_length] at q2
    exact .inl ⟨J1.stops z2 τ2 f2 c2, priv_end p2 hL f2 c2 r2 q2⟩
theorem vts_nil : PTs X [] (VB G W0 bYes) := ⟨fun pins s σ H Q I ⟨z, ρ, τ, hz, c, en, q⟩ => pts_nil.run pins s σ H Q I (by subst hz; exact Run.ok (rep := EqRep) q c rfl)⟩
theorem vts_one {c : Expr} (h : PT X c (VB G W0 tb)) : PTs X [c] (VB G W0 tb) := pts_one h
theorem v_lc (hc : X.calm = true) (hN : X.N.Nodup) (hi : PI X tg iter (VI G W fi)) (ok : BlkOk X.N X.env.scope scope vsl)
    (hg : ∀ (s : Shared) (H : Hp) (C : Addr) (cl : List (Str × Addr)) (fp : List Addr), PG (X.blk s H scope (compEnvC scope cl C X.env) fp) tg gt) (ht : TgS G gt t is) (his : ∀ i ∈ is, i ∈ vsl.map (·.2))
    (htt : ∀ (s : Shared) (H : Hp) (C : Addr) (cl : List (Str × Addr)) (fp : List Addr), PTs (X.blk s H scope (compEnvC scope cl C X.env) fp) ifs (VB G W0 tb))
    (he : ∀ (s : Shared) (H : Hp) (C : Addr) (cl : List (Str × Addr)) (fp : List Addr), PE (X.blk s H scope (compEnvC scope cl C X.env) fp) elt (VE G W0 fe)) (hs : ∀ x, foldedSetIterable iter X.env x = pure x := by intro _; rfl) :
    PE X (.ListComp elt [⟨tg, iter, ifs, 0⟩] scope pos) (VE G W (eLc own fi t tb fe (vsl.map (·.2)))) :=
  pe_weak (pe_lc hc hN hi ok hg htt he hs) fun _ _ _ h => lc_read ht his h
/-- name = [..] -/
theorem s_setLc {i : Nat} {y : Str} {py spos : Pos} (hc : X.calm = true) (hN : X.N.Nodup) (hy : X.N[i]? = some y) (hyl : X.env.scope.names.lookup y = some .local)
    (hsw : swapsWith (.ListComp elt [⟨tg, iter, ifs, 0⟩] scope pos) (some (.Name y py)) spos.line X.env = pure true) (hi : PI X tg iter (VI G W fi)) (ok : BlkOk X.N X.env.scope scope vsl)
    (hg : ∀ (s : Shared) (H : Hp) (C : Addr) (cl : List (Str × Addr)) (fp : List Addr), PG (X.blk s H scope (compEnvC scope cl C X.env) fp) tg gt) (ht : TgS G gt t is) (his : ∀ i ∈ is, i ∈ vsl.map (·.2))
    (htt : ∀ (s : Shared) (H : Hp) (C : Addr) (cl : List (Str × Addr)) (fp : List Addr), PTs (X.blk s H scope (compEnvC scope cl C X.env) fp) ifs (VB G W0 tb))
    (he : ∀ (s : Shared) (H : Hp) (C : Addr) (cl : List (Str × Addr)) (fp : List Addr), PE (X.blk s H scope (compEnvC scope cl C X.env) fp) elt (VE G W0 fe)) (hs : ∀ x, foldedSetIterable iter X.env x = pure x := by intro _; rfl) :
    PS X (.Assign [.Name y py] (.ListComp elt [⟨tg, iter, ifs, 0⟩] scope pos) spos) (VS G W (gSet i (eLc own fi t tb fe (vsl.map (·.2))))) :=
  ps_weak (ps_setLc hc hN hy hyl hsw hi ok hg htt he hs) fun D σ H ⟨z, ρ, τ, hz, c, en, q⟩ => lc_read ht his ⟨z, ρ, τ, hz, c, en, (RunS.lift (rep := RepU G) en q).imp fun v H1 ⟨z1, u, τ1, e1, f, c1, r1, q1⟩ => by
    subst e1
    exact RunS.nx_ q1 c1 ((en.fut f).set r1)⟩
end
end VL

/-! The value layer, 7: defs and their calls. -/
namespace VL
open PySem PySem.Spec PyProof.Rows L2 LamX

/-- a def keeps a promise, where nothing is being shown -/
structure FnV (P : Program) (w : World) (K : PySem.W.Frag) (mg : Str → Option Value) (base : Heap) (k : Nat) (f : Addr) (fd : FuncData) (ps : List Str) (sp : Sp) : Prop where
  len : ∀ vs H Q E, sp vs H Q E → vs.length = ps.length
  run : ∀ (A : Around) (outer : List PySem.Env) (s : Shared) (H : Hp) (args : Args) (us : List Value) (vs : List V) (Q : VK) (E : XK), Room k A → A.guards = some [] → Env0 P w K mg base A outer s H → BindsTo s fd args (ps.zip us) → Vals vs us →
    sp vs H Q E → codeAny (model P w) A (.call (.ref f) args) (CR (L2.CX P w) outer P w H s Q E) s
theorem FnV.mono {P : Program} {w : World} {K : PySem.W.Frag} {mg : Str → Option Value} {base : Heap} {j k : Nat} {f : Addr} {fd : FuncData} {ps : List Str} {sp : Sp} (F : FnV P w K mg base j f fd ps sp) (h : j ≤ k) : FnV P w K mg base k f fd ps sp :=
  ⟨F.len, fun A outer s H args us vs Q E hr => F.run A outer s H args us vs Q E (hr.mono h)⟩
/-- the promise: by data -/
def spV (G : Gd) (n : Nat) (F : List U → Store → R U) : Sp := fun vs H Q E => ∃ z us τ, z.H = H ∧ Cells G z τ ∧ RepUs G z us vs ∧ us.length = n ∧ Run G (RepU G) (F us τ) E z Q
theorem spV_len {G : Gd} {n : Nat} {F : List U → Store → R U} {ps : List Str} (h : ps.length = n) (vs : List V) (H : Hp) (Q : VK) (E : XK) (q : spV G n F vs H Q E) : vs.length = ps.length := by
  obtain ⟨z, us, τ, _, _, r, hl, _⟩ := q
  rw [← r.length, hl, h]
section
variable {P : Program} {w : World} {K : PySem.W.Frag} {mg : Str → Option Value} {base : Heap}
theorem fnv_mk {x qual : Str} {st : Stmt} {f : Addr} {fd : FuncData} {N ps : List Str} {k : Nat} {sp : Sp} (F : Fun K x qual st f fd) (S : FnScope N ps (defScope st)) (len : ∀ vs H Q E, sp vs H Q E → vs.length = ps.length)
    (hbody : ∀ (cdv : Value) (A : Around) (outer : List PySem.Env) (s : Shared) (H : Hp) (vs : List V) (Q : VK) (E : XK), Room k (A.deeper (envOfC qual (defScope st) s.heap.objs.size f cdv)) → A.guards = some [] → sp vs H Q E →
      ∃ t, PSs (cxOf (L2.CX P w) P w K mg base N qual (defScope st) f cdv A outer s H E) (defBody st) t ∧ t { nx := fun _ H' => Q .non H', rt := Q } (L2.start N vs) H) : FnV P w K mg base (k + 1) f fd ps sp := by
  obtain ⟨oc, od, kV, doc, pm, an, cdv, ct, osl, rfl, lk, hcd⟩ := F.ex
  exact ⟨len, fun A outer s H args us vs Q E hr hg e0 hb r hsp => run_ofS lk hcd S hr e0 hb r (len _ _ _ _ hsp) fun hr' => hbody cdv A outer s H vs Q E hr' hg hsp⟩
end
/-- what a body gives its caller -/
def retU (n0 : Nat) (u : U) (τ : Store) : R U := match u with
  | .d x => .ok (.d x) (τ.take n0)
  | .loc m => if m < n0 then .ok (.loc m) (τ.take n0) else match τ[m]? with
    | some (.lst ds) => .ok (.d (.lst ds)) (τ.take n0)
    | some (.ins c fs) => .ok (.d (.ins c fs)) (τ.take n0)
    | some (.dcx kvs x) => .ok (.d (.dcx kvs x)) (τ.take n0)
    | _ => .bad
  | .fn => .bad
def outR (n0 : Nat) : RS → R U
  | .nx _ τ => .ok (.d .non) (τ.take n0)
  | .rt u τ => retU n0 u τ
  | .exc c fs _ τ => .exc c fs (τ.take n0)
  | _ => .bad
def callD (n : Nat) (g : GS) (us : List U) (τ : Store) : R U := outR τ.length (g (us.map some ++ List.replicate (n - us.length) none) τ)
section
variable {G : Gd} {z z' : Z} {τ : Store}
/-- back to the caller's cells -/
def Z.back (z' : Z) (n : Nat) : Z := ⟨z'.S, z'.H, z'.ms.take n⟩
theorem take_pre {α : Type} {l m : List α} (h : l <+: m) : m.take l.length = l := by
  obtain ⟨t, rfl⟩ := h
  simp
theorem cells_back {τ' : Store} (c : Cells G z' τ') (n : Nat) : Cells G (z'.back n) (τ'.take n) := by
  refine ⟨c.sub, by simp [Z.back, c.len], c.nd.sublist (List.take_sublist _ _), fun a m => c.al a (List.mem_of_mem_take m), fun i a cl e1 e2 => ?_, c.tab, c.nt⟩
  have e1 : (z'.ms.take n)[i]? = some a := e1
  rw [List.getElem?_take] at e1 e2
  split at e1
  · rename_i hi
    rw [if_pos hi] at e2
    exact c.at_ i a cl e1 e2
  · cases e1
theorem fut_back (c : Cells G z τ) (f : Fut z z') : Fut z (z'.back τ.length) := by
  have e : z'.ms.take τ.length = z.ms := by rw [← c.len]; exact take_pre f.pre
  refine ⟨f.ss, ?_, f.frame, f.dom, f.claim, fun a m => ?_⟩
  · show z.ms <+: z'.ms.take τ.length
    rw [e]
    exact List.prefix_refl _
  · have m : a ∈ z'.ms.take τ.length := m
    rw [e] at m
    exact .inl m
/-- the end of a body -/
theorem ret_ok {τ' : Store} {u : U} {v : V} {E : XK} {Q : VK} (c : Cells G z τ) (f : Fut z z') (c' : Cells G z' τ') (r : RepU G z' u v) (q : Run G (RepU G) (retU τ.length u τ') E z Q) : Q v z'.H := by
  cases r with
  | d h => exact q (z'.back τ.length) v (fut_back c f) (cells_back c' _) (.d h)
  | loc h =>
    rename_i m a
    unfold retU at q
    simp only at q
    by_cases hm : m < τ.length
    · rw [if_pos hm] at q
      refine q (z'.back τ.length) _ (fut_back c f) (cells_back c' _) (.loc ?_)
      show (z'.ms.take τ.length)[m]? = some a
      rw [List.getElem?_take, if_pos hm]
      exact h
    · rw [if_neg hm] at q
      have hne : ∀ o, z.H a = some o → ¬ notTbl o := by
        rcases f.new a (List.mem_of_getElem? h) with mem | n
        · exfalso
          obtain ⟨j, hj⟩ := List.getElem?_of_mem mem
          have hj2 := pre_get f.pre hj
          have e := nd_ix c'.nd h hj2
          have hl := (List.getElem?_eq_some_iff.mp hj).1
          rw [c.len] at hl
          omega
        · exact n
      have gen : ∀ (o : HO) (x : D) (hs : z'.S a = none) (ho : z'.H a = some o) (rx : Rep G (upd z'.S a o) x (.ref a)), Run G (RepU G) (.ok (.d x) (τ'.take τ.length)) E z Q → Q (.ref a) z'.H := by
        intro o x hs ho rx q
        have mem := List.mem_of_getElem? h
        have f1 : Fut z' ⟨upd z'.S a o, z'.H, z'.ms⟩ := fut_frz hs mem
        have c1 : Cells G ⟨upd z'.S a o, z'.H, z'.ms⟩ (τ'.set m .dead) := cells_frz c' h ho hs
        have ct : (τ'.set m .dead).take τ.length = τ'.take τ.length := by
          rw [List.take_set, List.set_eq_of_length_le (by rw [List.length_take]; omega)]
        refine q ((⟨upd z'.S a o, z'.H, z'.ms⟩ : Z).back τ.length) (.ref a) ?_ (by rw [← ct]; exact cells_back c1 _) (.d rx)
        exact fut_back c (f.trans f1)
      cases e : τ'[m]? with
      | none => rw [e] at q; exact q.elim
      | some cl =>
        have w := c'.at_ m a cl h e
        rw [e] at q
        cases cl with
        | dead => exact q.elim
        | lst ds =>
          obtain ⟨hs, vs, h1, h2⟩ := w
          exact gen _ (.lst ds) hs h1 (.lst upd_same (Reps.mono (same_upd hs) _ _ h2)) q
        | dct ds => exact q.elim
        | ins cc ds =>
          obtain ⟨hs, dx, vs, h1, h2⟩ := w
          exact gen _ (.ins cc ds) hs h1 (.ins upd_same (RepF.mono (same_upd hs) _ _ h2)) q
        | dcx ds x0 =>
          obtain ⟨hs, o, vs, v, h1, h2, h3⟩ := w
          exact gen _ (.dcx ds x0) hs h1 (.dcx upd_same (RepK.mono (same_upd hs) _ _ h2) (Rep.mono (same_upd hs) _ _ h3)) q
  | fn h => exact q.elim
theorem env_start {us : List U} {vs : List V} {N : List Str} (r : RepUs G z us vs) : EnvR G z (us.map some ++ List.replicate (N.length - us.length) none) (L2.start N vs) := by
  have hl := r.length
  refine ⟨by simp [L2.start, hl], fun i u e => ?_⟩
  by_cases hi : i < us.length
  · rw [List.getElem?_append_left (by simpa using hi), List.getElem?_map] at e
    have : ∀ {us : List U} {vs : List V} (r : RepUs G z us vs) (i : Nat) (u : U), us[i]? = some u → ∃ v, vs[i]? = some v ∧ RepU G z u v := by
      intro us vs r
      induction r with
      | nil => intro i u e; simp at e
      | cons h t ih =>
        intro i u e
        cases i with
        | zero =>
          rw [List.getElem?_cons_zero] at e
          cases e
          exact ⟨_, rfl, h⟩
        | succ i => simpa using ih i u (by simpa using e)
    cases q : us[i]? with
    | none => rw [q] at e; cases e
    | some u' =>
      rw [q] at e
      cases e
      obtain ⟨v, h1, h2⟩ := this r i _ q
      exact ⟨v, by unfold L2.start; rw [List.getElem?_append_left (by rw [List.length_map, ← hl]; exact hi), List.getElem?_map, h1]; rfl, h2⟩
  · rw [List.getElem?_append_right (by simpa using Nat.le_of_not_lt hi)] at e
    rw [List.getElem?_replicate] at e
    split at e <;> cases e
/-- a def by its body's reading -/
theorem fn_body {P : Program} {w : World} {K : PySem.W.Frag} {mg : Str → Option Value} {base : Heap} {x qual : Str} {st : Stmt} {f : Addr} {fd : FuncData} {N ps : List Str} {k n : Nat} {g : GS} (F : Fun K x qual st f fd) (S : FnScope N ps (defScope st)) (hn : ps.length = n)
    (hbody : ∀ (cdv : Value) (A : Around) (outer : List PySem.Env) (s : Shared) (H : Hp) (E : XK), Room k (A.deeper (envOfC qual (defScope st) s.heap.objs.size f cdv)) → A.guards = some [] →
      PSs (cxOf (L2.CX P w) P w K mg base N qual (defScope st) f cdv A outer s H E) (defBody st) (VS G (fun c d _ H => E c d H) g)) : FnV P w K mg base (k + 1) f fd ps (spV G n (callD N.length g)) := by
  refine fnv_mk F S (spV_len hn) fun cdv A outer s H vs Q E hr hg hsp => ⟨_, hbody cdv A outer s H E hr hg, ?_⟩
  obtain ⟨z, us, τ, hz, c, r, hl, q⟩ := hsp
  subst hz
  refine ⟨z, us.map some ++ List.replicate (N.length - us.length) none, τ, rfl, c, env_start r, ?_⟩
  unfold callD at q
  cases e : g (us.map some ++ List.replicate (N.length - us.length) none) τ with
  | nx ρ τ' =>
    rw [e] at q
    exact fun z' σ' f' c' en' => ret_ok (u := .d .non) (v := .non) c f' c' (.d .non) q
  | rt u τ' =>
    rw [e] at q
    exact fun z' v f' c' r' => ret_ok c f' c' r' q
  | exc cc fs ρ τ' =>
    rw [e] at q
    exact fun z' dd vs σ' f' c' en' s' r' => q (z'.back τ.length) dd vs (fut_back c f') (cells_back c' _) s' r'
  | bk ρ τ' => rw [e] at q; exact q.elim
  | ct ρ τ' => rw [e] at q; exact q.elim
  | bad => rw [e] at q; exact q.elim
end

/-! ### calls -/
/-- arguments by place: of us, ws, ds together -/
def pickL {α : Type} (os : List Nat) (l : List α) : List α := os.filterMap fun i => l[i]?
theorem pick_vals : ∀ {os : List Nat} {vs : List V} {us : List Value}, Vals vs us → Vals (pickL os vs) (pickL os us)
  | [], _, _, _ => .nil
  | i :: os, vs, us, r => by
    unfold pickL
    cases e : vs[i]? with
    | none =>
      have e2 := Vals.none_of r e
      rw [List.filterMap_cons, List.filterMap_cons, e, e2]
      exact pick_vals (os := os) r
    | some v =>
      obtain ⟨u, e2, rv⟩ := Vals.get r e
      rw [List.filterMap_cons, List.filterMap_cons, e, e2]
      exact .cons rv (pick_vals (os := os) r)
theorem RepUs.append {G : Gd} {z : Z} : ∀ {us ws : List U} {vs xs : List V}, RepUs G z us vs → RepUs G z ws xs → RepUs G z (us ++ ws) (vs ++ xs)
  | _, _, _, _, .nil, k => k
  | _, _, _, _, .cons h t, k => .cons h (RepUs.append t k)
theorem pick_reps {G : Gd} {z : Z} : ∀ {os : List Nat} {us : List U} {vs : List V}, RepUs G z us vs → RepUs G z (pickL os us) (pickL os vs)
  | [], _, _, _ => .nil
  | i :: os, us, vs, r => by
    have get : ∀ {us : List U} {vs : List V} (r : RepUs G z us vs) (i : Nat), (us[i]? = none ∧ vs[i]? = none) ∨ ∃ u v, us[i]? = some u ∧ vs[i]? = some v ∧ RepU G z u v := by
      intro us vs r
      induction r with
      | nil => intro i; exact .inl ⟨by simp, by simp⟩
      | cons h t ih =>
        intro i
        cases i with
        | zero => exact .inr ⟨_, _, rfl, rfl, h⟩
        | succ i => simpa using ih i
    unfold pickL
    rcases get r i with ⟨e1, e2⟩ | ⟨u, v, e1, e2, rv⟩
    · rw [List.filterMap_cons, List.filterMap_cons, e1, e2]
      exact pick_reps (os := os) r
    · rw [List.filterMap_cons, List.filterMap_cons, e1, e2]
      exact .cons rv (pick_reps (os := os) r)
/-- how a call's values come to the parameters: n written ones, then the keywords ks, then the defaults ds -/
structure Bnd (K : PySem.W.Frag) (fd : FuncData) (ps : List Str) (n : Nat) (ks : List Str) (ds : List Value) (os : List Nat) : Prop where
  to : ∀ (s : Shared) (us ws : List Value), K.In s.heap → us.length = n → ws.length = ks.length → BindsTo s fd ⟨us, ks.zip ws⟩ (ps.zip (pickL os ((us ++ ws) ++ ds)))
def VP (G : Gd) (W : WX) (kws : List Keyword) (X : Cx) (f : EL) : Prop := PK X kws (VA G W f)
section
variable {X : Cx} {G : Gd} {W : WX} {k n : Nat} {f : Addr} {fd : FuncData} {ps ks : List Str} {F : List U → Store → R U} {ds : List Value} {dvs : List D} {os : List Nat}
theorem run_fnv {sp : Sp} {E : XK} {pins : List (Addr × Obj)} {σ : L2.St} {H : Hp} {s : Shared} {Q : VK} {us : List Value} {kw : List (Str × Value)} {ws : List Value} {vs : List V} (V : FnV X.prog X.w X.K X.mg X.base k f fd ps sp) (hr : Room k X.A) (hg : X.A.guards = some [])
    (hx : ∀ e s', L2.CX X.prog X.w X.stack H s E e s' → X.xe e s') (I : Inv X pins σ H s) (hb : BindsTo s fd ⟨us, kw⟩ (ps.zip ws)) (r : Vals vs ws) (h : sp vs H Q E) : wpAny (model X.prog X.w) X.A (call (.ref f) us kw) (EP X pins σ Q) X.xe s := by
  refine wpAny_call (codeAny_mono (V.run X.A X.stack s H ⟨us, kw⟩ ws vs Q E hr hg I.env0 hb r h) fun res s' hq => ?_)
  match res, hq with
  | .error e, hq => exact hx e s' hq
  | .ok (.ret u), hq => exact I.after hq
/-- constants behind the arguments -/
theorem reps_consts {z : Z} : ∀ {dvs : List D} {vds : List V}, (∀ S, Reps G S dvs vds) → RepUs G z (dvs.map U.d) vds := by
  intro dvs
  induction dvs with
  | nil =>
    intro vds h
    have q := h z.S
    cases q
    exact .nil
  | cons d dvs ih =>
    intro vds h
    have q := h z.S
    cases q with
    | cons h1 h2 => exact .cons (.d h1) (ih fun S => by
      have q2 := h S
      cases q2 with
      | cons _ b => exact b)
/-- a call with written arguments alone -/
def gCall (n : Nat) (F : List U → Store → R U) (us : List U) (τ : Store) : R U := if us.length = n then F us τ else .bad
def eCall (n : Nat) (F : List U → Store → R U) (fs : EL) : EV := fun ρ τ => (fs ρ τ).bind (gCall n F)
@[simp] theorem gCall_1 (F : List U → Store → R U) (a : U) (τ : Store) : gCall 1 F [a] τ = F [a] τ := rfl
@[simp] theorem gCall_2 (F : List U → Store → R U) (a b : U) (τ : Store) : gCall 2 F [a, b] τ = F [a, b] τ := rfl
@[simp] theorem gCall_3 (F : List U → Store → R U) (a b c : U) (τ : Store) : gCall 3 F [a, b, c] τ = F [a, b, c] τ := rfl
@[simp] theorem gCall_4 (F : List U → Store → R U) (a b c d : U) (τ : Store) : gCall 4 F [a, b, c, d] τ = F [a, b, c, d] τ := rfl
structure Bnd0 (fd : FuncData) (ps : List Str) (n : Nat) : Prop where
  to : ∀ (s : Shared) (us : List Value), us.length = n → BindsTo s fd ⟨us, []⟩ (ps.zip us)
theorem v_call {x : Str} {p pos : Pos} {e : Expr} {es : List Expr} {fs : EL} (V : FnV X.prog X.w X.K X.mg X.base k f fd ps (spV G n F)) (hr : Room k X.A) (hgd : X.A.guards = some []) (tk : Takes X W) (hm : X.mg x = some (.ref f)) (hk : PySem.W.keepIn X.K (.ref f) = true)
    (hb : Bnd0 fd ps n) (ha : PA X (e :: es) (VA G W fs)) (hg : Gl X x)
    (hdb : (x == ("__debug__" : Str)) = false := by decide) (he : starEach (e :: es) X.env = (false, eval e X.env) :: starEach es X.env := by rfl) (hpl : (backTo pos (starEach es X.env)).any (·.1) = false := by rfl) :
    PE X (.Call (.Name x p) (e :: es) [] pos) (VE G W (eCall n F fs)) := by
  refine ⟨fun pins s σ H Q I ⟨z, ρ, τ, hz, c, en, q⟩ => ?_⟩
  refine wpAny_Call_Name_kw (ld_glob I hg hm ?_ hdb)
  have h1 := ha.run pos pins s σ H _ I ⟨z, ρ, τ, hz, c, en, Run.bind q⟩
  refine PySem.W.callWith_K (h₀ := X.base) I.ok.mod.kin hk (thn h1 fun us s1 hq => ?_) he hpl
  obtain ⟨vs, H1, I1, r, z1, uu, τ1, e1, f1, c1, r1, q1⟩ := hq
  refine ⟨I1.kIn, ?_⟩
  subst e1
  unfold gCall at q1
  by_cases hl : uu.length = n
  · rw [if_pos hl] at q1
    refine run_fnv V hr hgd (passAt tk σ pins _ _ · · I1) I1 (hb.to s1 us ?_) r ⟨z1, uu, τ1, rfl, c1, r1, hl, q1⟩
    rw [← r.length, ← r1.length, hl]
  · rw [if_neg hl] at q1; exact q1.elim
theorem v_call0 {x : Str} {p pos : Pos} (V : FnV X.prog X.w X.K X.mg X.base k f fd ps (spV G 0 F)) (hr : Room k X.A) (hgd : X.A.guards = some []) (tk : Takes X W) (hm : X.mg x = some (.ref f)) (hk : PySem.W.keepIn X.K (.ref f) = true)
    (hb : Bnd0 fd ps 0) (hg : Gl X x) (hdb : (x == ("__debug__" : Str)) = false := by decide) : PE X (.Call (.Name x p) [] [] pos) (VE G W fun _ τ => F [] τ) := by
  refine ⟨fun pins s σ H Q I ⟨z, ρ, τ, hz, c, en, q⟩ => ?_⟩
  refine wpAny_Call_Name_kw (ld_glob I hg hm ?_ hdb)
  exact PySem.W.callWith_K0 I.kIn hk (run_fnv (us := []) (vs := []) V hr hgd (passAt tk σ pins _ _ · · I) I (hb.to s [] rfl) .nil ⟨z, [], τ, hz, c, .nil, rfl, by subst hz; exact q⟩)
/-- a call with keywords or defaults -/
def gCallK (n m : Nat) (os : List Nat) (dvs : List D) (F : List U → Store → R U) (us ws : List U) (τ : Store) : R U := if us.length = n ∧ ws.length = m then F (pickL os ((us ++ ws) ++ dvs.map U.d)) τ else .bad
def eCallK (n : Nat) (m : Nat) (os : List Nat) (dvs : List D) (F : List U → Store → R U) (fs fk : EL) : EV := fun ρ τ => (fs ρ τ).bind fun us τ1 => (fk ρ τ1).bind fun ws τ2 => gCallK n m os dvs F us ws τ2
theorem vp_nil : PK X [] (VA G W elNil) := ⟨fun pos pins s σ H Q I ⟨z, ρ, τ, hz, c, en, q⟩ => pk_nil.run pos pins s σ H Q I (by subst hz; exact Run.ok (rep := RepUs G) q c .nil)⟩
theorem vp_cons {nm : Option Str} {e : Expr} {kpos : Pos} {kws : List Keyword} {fa : EV} {fr : EL} (ha : PE X e (VE G W fa)) (hr : PK X kws (VA G W fr)) : PK X (⟨nm, e, kpos⟩ :: kws) (VA G W (elCons fa fr)) :=
  ⟨fun pos pins s σ H Q I ⟨z, ρ, τ, hz, c, en, q⟩ => (pk_cons (nm := nm) (kpos := kpos) ha hr).run pos pins s σ H Q I ⟨z, ρ, τ, hz, c, en, (Run.bind q).imp fun x H1 ⟨z1, u, τ1, e1, f, c1, r1, q1⟩ => by
    subst e1
    refine ⟨z1, ρ, τ1, rfl, c1, en.fut f, (Run.bind q1).imp fun xs H2 ⟨z2, us, τ2, e2, f2, c2, r2, q2⟩ => ?_⟩
    subst e2
    exact Run.ok (rep := RepUs G) q2 c2 (.cons (r1.fut f2) r2)⟩⟩
theorem kw_run {m : Nat} {kw : List Str} {pins : List (Addr × Obj)} {σ : L2.St} {s : Shared} {Q : VK} {us ws : List Value} {vs xs : List V} {vds : List V} {z : Z} {uu wu : List U} {τ : Store} (V : FnV X.prog X.w X.K X.mg X.base k f fd ps (spV G n F)) (hr : Room k X.A) (hgd : X.A.guards = some []) (tk : Takes X W)
    {a : Nat} (hb : Bnd X.K fd ps a kw ds os) (hd : Vals vds ds) (hds : ∀ S, Reps G S dvs vds) (I : Inv X pins σ z.H s) (r : Vals vs us) (r' : Vals xs ws) (c : Cells G z τ) (ru : RepUs G z uu vs) (rw' : RepUs G z wu xs) (hps : ps.length = n) (hmk : kw.length = m) (hos : ∀ l : List U, l.length = a + m + dvs.length → (pickL os l).length = n)
    (q : Run G (RepU G) (gCallK a m os dvs F uu wu τ) (fun c d H' => W c d σ H') z Q) : wpAny (model X.prog X.w) X.A (call (.ref f) us (kw.zip ws)) (EP X pins σ Q) X.xe s := by
  unfold gCallK at q
  by_cases hl : uu.length = a ∧ wu.length = m
  · rw [if_pos hl] at q
    have hh := hos ((uu ++ wu) ++ dvs.map U.d) (by simp only [List.length_append, List.length_map, hl.1, hl.2])
    refine run_fnv V hr hgd (passAt tk σ pins _ _ · · I) I (hb.to s us ws I.kIn (by rw [← r.length, ← ru.length, hl.1]) (by rw [← r'.length, ← rw'.length, hl.2, hmk])) (pick_vals ((r.append r').append hd)) ⟨z, pickL os ((uu ++ wu) ++ dvs.map U.d), τ, rfl, c, pick_reps ((ru.append rw').append (reps_consts hds)), hh, q⟩
  · rw [if_neg hl] at q; exact q.elim
theorem v_callK {m : Nat} {x : Str} {p pos : Pos} {e : Expr} {es : List Expr} {kws : List Keyword} {fs fk : EL} {vds : List V} (V : FnV X.prog X.w X.K X.mg X.base k f fd ps (spV G n F)) (hr : Room k X.A) (hgd : X.A.guards = some []) (tk : Takes X W) (hm : X.mg x = some (.ref f)) (hk : PySem.W.keepIn X.K (.ref f) = true)
    {a : Nat} (hb : Bnd X.K fd ps a ks ds os) (hd : Vals vds ds) (hds : ∀ S, Reps G S dvs vds) (hps : ps.length = n) (hmk : ks.length = m) (hos : ∀ l : List U, l.length = a + m + dvs.length → (pickL os l).length = n)
    (ha : PA X (e :: es) (VA G W fs)) (hkw : PK X kws (VA G W fk)) (hg : Gl X x) (hall : (backToKw pos (keywordEach kws X.env)).all (·.1.isSome) = true := by rfl) (hks : (backToKw pos (keywordEach kws X.env)).filterMap (·.1) = ks := by rfl)
    (hdb : (x == ("__debug__" : Str)) = false := by decide) (he : starEach (e :: es) X.env = (false, eval e X.env) :: starEach es X.env := by rfl)
    (hpl : ((backTo pos (starEach (e :: es) X.env)).any (·.1) || (backToKw pos (keywordEach kws X.env)).any (·.1.isNone)) = false := by rfl) : PE X (.Call (.Name x p) (e :: es) kws pos) (VE G W (eCallK a m os dvs F fs fk)) := by
  refine ⟨fun pins s σ H Q I ⟨z, ρ, τ, hz, c, en, q⟩ => ?_⟩
  refine wpAny_Call_Name_kw (ld_glob I hg hm ?_ hdb)
  have h1 := ha.run pos pins s σ H _ I ⟨z, ρ, τ, hz, c, en, Run.bind q⟩
  refine PySem.W.callWith_KW (h₀ := X.base) I.ok.mod.kin hk hall (thn h1 fun us s1 hq => ?_) hpl he
  obtain ⟨vs, H1, I1, r, z1, uu, τ1, e1, f1, c1, r1, q1⟩ := hq
  subst e1
  have h2 := hkw.run pos pins s1 σ z1.H _ I1 ⟨z1, ρ, τ1, rfl, c1, en.fut f1, Run.bind q1⟩
  refine thn h2 fun ws s2 hq2 => ?_
  obtain ⟨xs, H2, I2, r', z2, wu, τ2, e2, f2, c2, r2, q2⟩ := hq2
  subst e2
  refine ⟨I2.kIn, ?_⟩
  rw [hks]
  exact kw_run V hr hgd tk hb hd hds I2 r r' c2 (r1.fut f2) r2 hps hmk hos q2
theorem v_callK0 {m : Nat} {x : Str} {p pos : Pos} {kws : List Keyword} {fk : EL} {vds : List V} (V : FnV X.prog X.w X.K X.mg X.base k f fd ps (spV G n F)) (hr : Room k X.A) (hgd : X.A.guards = some []) (tk : Takes X W) (hm : X.mg x = some (.ref f)) (hk : PySem.W.keepIn X.K (.ref f) = true)
    (hb : Bnd X.K fd ps 0 ks ds os) (hd : Vals vds ds) (hds : ∀ S, Reps G S dvs vds) (hps : ps.length = n) (hmk : ks.length = m) (hos : ∀ l : List U, l.length = 0 + m + dvs.length → (pickL os l).length = n)
    (hkw : PK X kws (VA G W fk)) (hg : Gl X x) (hall : (backToKw pos (keywordEach kws X.env)).all (·.1.isSome) = true := by rfl) (hks : (backToKw pos (keywordEach kws X.env)).filterMap (·.1) = ks := by rfl)
    (hdb : (x == ("__debug__" : Str)) = false := by decide)
    (hpl : ((backTo pos (starEach [] X.env)).any (·.1) || (backToKw pos (keywordEach kws X.env)).any (·.1.isNone)) = false := by rfl) : PE X (.Call (.Name x p) [] kws pos) (VE G W (eCallK 0 m os dvs F elNil fk)) := by
  refine ⟨fun pins s σ H Q I ⟨z, ρ, τ, hz, c, en, q⟩ => ?_⟩
  refine wpAny_Call_Name_kw (ld_glob I hg hm ?_ hdb)
  have h2 := hkw.run pos pins s σ H _ I ⟨z, ρ, τ, hz, c, en, Run.bind q⟩
  refine PySem.W.callWith_KW0 (h₀ := X.base) I.ok.mod.kin hk hall (thn h2 fun ws s2 hq2 => ?_) hpl
  obtain ⟨xs, H2, I2, r', z2, wu, τ2, e2, f2, c2, r2, q2⟩ := hq2
  subst e2
  refine ⟨I2.kIn, ?_⟩
  rw [hks]
  exact kw_run (us := []) (vs := []) (uu := []) V hr hgd tk hb hd hds I2 .nil r' c2 .nil r2 hps hmk hos q2
end
end VL

/-! The value layer, 8: sorted(set(xs)) of texts. -/
namespace VL
open PySem PySem.Spec PyProof.Rows L2 LamX
namespace TxtSet
/-- the text of an entry -/
def kS (e : Int × Value) : Str := match e.2 with | .str x _ => x | _ => ⟨#[]⟩
def IsE (P : Program) (w : World) (e : Int × Value) : Prop := ∃ x u, e.2 = Value.str x u ∧ e.1 = (PySem.strKind P w).hash x
/-- a set that holds just the texts of M, in a table that can be walked -/
structure Has (P : Program) (w : World) (h : Heap) (a : Addr) (M : List Str) (o : Obj) (es : Array (Int × Value)) (ep : Nat) (t : SetTable) : Prop where
  ob : h.get? a = some o
  ex : o.ExactSet
  dat : o.data = .set es ep t
  ent : ∀ e ∈ es.toList, IsE P w e
  one : (es.toList.map kS).Nodup
  mem : ∀ x, x ∈ es.toList.map kS ↔ x ∈ M
  few : es.size ≤ M.length
  fit : t.fits es.size = true
  ris : Ris t.place.toList
  led : w.params.followText "set-order" = true ∨ t.led = true
abbrev HasS (P : Program) (w : World) (h : Heap) (a : Addr) (M : List Str) : Prop := ∃ o es ep t, Has P w h a M o es ep t
section
variable {P : Program} {w : World} {A : Around} {E : Value → Shared → Prop} {s : Shared} {a : Addr} {M : List Str} {o : Obj} {es : Array (Int × Value)} {ep : Nat} {t : SetTable}
theorem Has.to {h h' : Heap} (R : Has P w h a M o es ep t) (k : h'.get? a = some o) : Has P w h' a M o es ep t := { R with ob := k }
theorem ents {l : List (Int × Value)} (g : ∀ e ∈ l, IsE P w e) : ElemsOf (PySem.strKind P w) l := by
  intro e he
  obtain ⟨x, u, q1, q2⟩ := g e he
  refine ⟨⟨x, ?_, q2⟩, ?_⟩
  · rw [q1]; exact strKind_is P w x u
  · rw [q1]; rfl
theorem is_k {e : Int × Value} (g : IsE P w e) (x : Str) : (PySem.strKind P w).is x e.2 = true ↔ kS e = x := by
  obtain ⟨y, u, q1, _⟩ := g
  unfold kS
  rw [q1]
  exact beq_iff_eq
/-- what stands behind a store, laid again where it is too full -/
theorem tail {g : Bool → Sem Unit} (hg : ∀ (b : Bool) (r : Shared) (q : Unit → Shared → Prop), q () r → wpAny (model P w) A (g b) q E r) (R : Has P w s.heap a M o es ep t) {es1 : Array (Int × Value)} {t2 : SetTable} {M1 : List Str}
    (ent1 : ∀ e ∈ es1.toList, IsE P w e) (one1 : (es1.toList.map kS).Nodup) (mem1 : ∀ x, x ∈ es1.toList.map kS ↔ x ∈ M1) (few1 : es1.size ≤ M1.length) (hM : M1.length < scanBound) (fit1 : t2.fits es1.size = true) (ris1 : Ris t2.place.toList)
    (led1 : w.params.followText "set-order" = true ∨ t2.led = true) {dm : Bool} {Q : Option Bool → Shared → Prop} (hQ : ∀ h', Heap.SameBut a s.heap h' → HasS P w h' a M1 → Q (some true) { s with heap := h' }) :
    wpAny (model P w) A (do
      storeSet a es1 t2
      if (!dm && t2.tooFull) = true then do
        g (relayAll t2 es1 (SetTable.grown es1.size)).2.2
        storeSet a (relayAll t2 es1 (SetTable.grown es1.size)).1 (relayAll t2 es1 (SetTable.grown es1.size)).2.1
        pure (some true)
      else pure (some true)) Q E s := by
  have low1 : es1.size < scanBound := Nat.lt_of_le_of_lt few1 hM
  have at1 := L2.store_at (es' := es1) (t' := t2) R.ob R.dat
  have but1 := Heap.SameBut.update s.heap a (Obj.putSet es1 t2)
  refine wpAny_bind (wpAny_storeSet_of R.ob R.dat ?_ (fits_of_scanBound low1))
  by_cases hc : (!dm && t2.tooFull) = true
  · rw [if_pos hc]
    have f1 := relayAll_perm t2 es1 (SetTable.grown es1.size)
    have f2 := relayAll_fits t2 es1 (SetTable.grown es1.size)
    have f3 := L2.relayAll_ris t2 es1 (SetTable.grown es1.size)
    have f4 := L2.relayAll_led t2 es1 (SetTable.grown es1.size)
    revert f1 f2 f3 f4
    generalize relayAll t2 es1 (SetTable.grown es1.size) = Y
    obtain ⟨es2, t3, gv⟩ := Y
    intro f1 f2 f3 f4
    have sz : es2.size = es1.size := by simpa using f1.length_eq
    refine wpAny_bind (hg gv _ _ (wpAny_bind (wpAny_storeSet_of at1 rfl ?_ (fits_of_scanBound (sz ▸ low1)))))
    have at2 := L2.store_at (es' := es2) (t' := t3) at1 rfl
    refine wpAny_pure (hQ _ (but1.trans (Heap.SameBut.update _ a _)) ?_)
    exact Exists.intro _ <| Exists.intro es2 <| Exists.intro _ <| Exists.intro t3 { ob := at2, ex := R.ex, dat := rfl, ent := fun e he => ent1 e (f1.mem_iff.mp he), one := ((f1.map kS).nodup_iff).mpr one1, mem := fun x => ((f1.map kS).mem_iff).trans (mem1 x), few := sz ▸ few1, fit := f2, ris := f3, led := led1.elim .inl fun z => .inr (f4.trans z) }
  · rw [if_neg hc]
    exact wpAny_pure (hQ _ but1 ⟨_, es1, _, t2, { ob := at1, ex := R.ex, dat := rfl, ent := ent1, one := one1, mem := mem1, few := few1, fit := fit1, ris := ris1, led := led1 }⟩)
theorem add {x : Str} {u : Tok} {Q : Bool → Shared → Prop} (R : Has P w s.heap a M o es ep t) (hM : M.length + 1 < scanBound) (hQ : ∀ b h', Heap.SameBut a s.heap h' → HasS P w h' a (M ++ [x]) → Q b { s with heap := h' }) :
    wpAny (model P w) A (setAddHashed a (.str x u) ((PySem.strKind P w).hash x)) Q E s := by
  have isx : (PySem.strKind P w).is x (.str x u) = true := strKind_is P w x u
  have sc : (Value.str x u).scannable = true := rfl
  have el := ents R.ent
  have low : es.size < scanBound := by have := R.few; omega
  unfold setAddHashed setAddHashedIn
  refine wpAny_holding (wpAny_bind (wpAny_setState_of R.ob R.dat R.fit ?_))
  dsimp only
  rw [byScan_of sc low el, if_pos rfl]
  unfold setAddByScan
  refine wpAny_bind (wpAny_bind (wpAny_rule (wpAny_bind (wpAny_setScan_of isx R.ob R.dat R.fit el ?_))))
  cases q : List.findIdx? (fun e => (PySem.strKind P w).is x e.2) es.toList with
  | some j =>
    obtain ⟨jl, jp, _⟩ := List.findIdx?_eq_some_iff_getElem.mp q
    have xin : x ∈ es.toList.map kS := List.mem_map.mpr ⟨_, List.getElem_mem jl, (is_k (R.ent _ (List.getElem_mem jl)) x).mp jp⟩
    refine wpAny_pure (wpAny_pure (hQ _ s.heap (Heap.SameBut.refl a s.heap) ⟨o, es, ep, t, { R with mem := fun y => ?_, few := by have := R.few; simp; omega }⟩))
    rw [List.mem_append, List.mem_singleton, ← R.mem y]
    exact ⟨.inl, fun z => z.elim id fun e => e ▸ xin⟩
  | none =>
    have xout : x ∉ es.toList.map kS := by
      intro z
      obtain ⟨e, he, ek⟩ := List.mem_map.mp z
      have z2 := List.findIdx?_eq_none_iff.mp q e he
      rw [(is_k (R.ent e he) x).mpr ek] at z2
      cases z2
    have f1 := layNew_perm t es ((PySem.strKind P w).hash x) (.str x u)
    have f2 := layNew_fits t es ((PySem.strKind P w).hash x) (.str x u)
    have f3 := L2.layNew_ris t es ((PySem.strKind P w).hash x) (.str x u) R.ris
    have f4 := L2.layNew_led t es ((PySem.strKind P w).hash x) (.str x u)
    dsimp only
    revert f1 f2 f3 f4
    generalize layNew t es ((PySem.strKind P w).hash x) (.str x u) = Y
    obtain ⟨es1, t1, dm, gv⟩ := Y
    intro f1 f2 f3 f4
    dsimp only at f1 f2 f3 f4 ⊢
    rw [Array.toList_push] at f1
    have pc := f1.trans (List.perm_append_singleton _ _)
    have pk := pc.map kS
    have ent1 : ∀ e ∈ es1.toList, IsE P w e := by
      intro e he
      rcases List.mem_cons.mp (pc.mem_iff.mp he) with z | z
      · exact z ▸ ⟨x, u, rfl, rfl⟩
      · exact R.ent e z
    have one1 : (es1.toList.map kS).Nodup := pk.nodup_iff.mpr (List.nodup_cons.mpr ⟨xout, R.one⟩)
    have mem1 : ∀ y, y ∈ es1.toList.map kS ↔ y ∈ M ++ [x] := by
      intro y
      rw [pk.mem_iff, List.map_cons, List.mem_cons, List.mem_append, List.mem_singleton, R.mem y]
      exact or_comm
    have sz : es1.size = es.size + 1 := by simpa using pc.length_eq
    have few1 : es1.size ≤ (M ++ [x]).length := by have := R.few; rw [sz, List.length_append, List.length_singleton]; omega
    have hM1 : (M ++ [x]).length < scanBound := by rw [List.length_append, List.length_singleton]; exact hM
    have led1 : w.params.followText "set-order" = true ∨ t1.led = true := R.led.elim .inl fun z => .inr (f4.trans z)
    have any : ∀ (b : Bool) (r : Shared) (q : Unit → Shared → Prop), q () r → wpAny (model P w) A (match b with | true => rule "set.scan.the-table-gave-way" | false => pure ()) q E r := by
      intro b r q hq
      cases b
      · exact wpAny_pure hq
      · exact wpAny_rule hq
    refine wpAny_bind (any gv _ _ ?_)
    split
    · refine wpAny_bind ?_
      rw [hashByValue_scannable 8 sc]
      refine wpAny_pure (tail any R ent1 one1 mem1 few1 hM1 ?_ ?_ ?_ fun h' sb r => wpAny_pure (hQ _ h' sb r))
      · split
        · exact f2
        · exact SetTable.fits_plain_off f2
      · split <;> exact f3
      · split <;> exact led1
    · refine wpAny_bind (wpAny_pure ?_)
      rw [if_pos rfl]
      exact tail any R ent1 one1 mem1 few1 hM1 f2 f3 led1 fun h' sb r => wpAny_pure (hQ _ h' sb r)
/-- the loop that adds one text behind the other -/
theorem loop {I : Addr} {fp wr : List Addr} {Gn : Array GenState → Array GenState → Prop} {n : Nat} {Pv : Nat → Value → Prop} {St : Nat → Shared → Prop} {R : Result → Shared → Prop} (W : WalksS P w A.in1 I fp wr Gn n Pv St) (hfp : a ∉ fp) (xs : List Str)
    (hn : n = xs.length) (hb : xs.length + 1 < scanBound) (hv : ∀ i v, Pv i v → ∃ x u, xs[i]? = some x ∧ v = .str x u) : ∀ (m i : Nat) (s : Shared), m + i = n → St i s → HasS P w s.heap a (xs.take i) →
      (∀ s', Moved (a :: wr) Gn s s' → HasS P w s'.heap a xs → R (.ok (.ret .none)) s') → codeAny (model P w) A (.builtin "set.update.loop" ⟨[.ref a, .ref I], []⟩) R s := by
  have hwr : a ∉ wr := fun z => hfp (W.sub _ z)
  have more : ∀ b ∈ wr, b ∈ a :: wr := fun b z => .tail _ z
  intro m
  induction m with
  | zero =>
    intro i s hm st hs hR
    refine codeAny_builtin F.entry_set_update_loop ?_
    rw [Around.under_plainId F.plain_set_update_loop _]
    show wpAny _ A.in1 (pyNext (.ref I) >>= _) _ _ s
    refine wpAny_bind (W.done s _ _ (by rw [show n = i by omega]; exact st) fun s' mv => ?_)
    obtain ⟨o, es, ep, t, h⟩ := hs
    have hi : xs.take i = xs := List.take_of_length_le (by omega)
    rw [hi] at h
    exact wpAny_pure (hR s' (mv.mono more) ⟨o, es, ep, t, h.to (mv.heap a o hwr h.ob)⟩)
  | succ m ih =>
    intro i s hm st hs hR
    refine codeAny_builtin F.entry_set_update_loop ?_
    rw [Around.under_plainId F.plain_set_update_loop _]
    show wpAny _ A.in1 (pyNext (.ref I) >>= _) _ _ s
    refine wpAny_bind (W.item i s _ _ (by omega) st fun v s' pv st' mv => ?_)
    obtain ⟨x, u, hx, rfl⟩ := hv i v pv
    obtain ⟨o, es, ep, t, h⟩ := hs
    have h' := h.to (mv.heap a o hwr h.ob)
    show wpAny _ A.in1 (holding [Value.str x u] (setAdd a (.str x u)) >>= _) _ _ s'
    refine wpAny_bind (wpAny_holding ?_)
    unfold setAdd
    refine wpAny_holding (wpAny_bind ((PySem.strKind P w).pyHash (k := x) (strKind_is P w x u) (add (s := { s' with toks := s'.toks + 1 }) h' (by rw [List.length_take]; omega) fun b h2 sb hs2 => ?_)))
    rw [← L2.take_next hx] at hs2
    have off : ∀ b, b ≠ a → ∀ o, s'.heap.get? b = some o → h2.get? b = some o := fun b hb o e => (sb.2 b hb).trans e
    refine wpAny_pure ⟨plainId_quiet F.plain_set_update_loop _, ih (i + 1) _ (by omega) (W.frame _ s' _ _ st' (Nat.le_succ _) fun b z o e => off b (fun q => hfp (q ▸ z)) o e) hs2 fun s'' mv' hs'' => ?_⟩
    exact hR s'' (Moved.trans W.gtrans ((mv.mono more).then_heap (Nat.le_succ _) fun b o z e => off b (fun q => z (q ▸ .head _)) o e) mv') hs''
theorem led0 (w : World) : w.params.followText "set-order" = true ∨ (SetTable.fresh 0 0 (!w.params.followText "set-order")).led = true := by
  show _ ∨ (!w.params.followText "set-order") = true
  cases w.params.followText "set-order" <;> simp
theorem fresh {h : Heap} (ho : h.get? a = some { cls := .type "set", dict := none, data := .set #[] 0 (.fresh 0 0 (!w.params.followText "set-order")) }) : HasS P w h a [] :=
  ⟨_, #[], 0, _, { ob := ho, ex := ⟨rfl, rfl, rfl⟩, dat := rfl, ent := by simp, one := by simp, mem := by simp, few := by simp, fit := rfl, ris := .nil, led := (led0 w) }⟩
abbrev newSetO (w : World) : Obj := { cls := .type "set", dict := none, data := .set #[] 0 (.fresh 0 0 (!w.params.followText "set-order")) }
set_option maxHeartbeats 8000000 in
theorem made {l : Addr} {its : List Value} (xs : List Str) {Q : Value → Shared → Prop} (hh : A.handled = none) (hl : s.heap.IsList l its.toArray) (hi : StrsAre its xs) (hb : xs.length + 1 < scanBound)
    (hQ : ∀ (h' : Heap) (tk : Nat), HasS P w h' s.heap.objs.size xs → (∀ b o, s.heap.get? b = some o → h'.get? b = some o) → Q (.ref s.heap.objs.size) { s with heap := h', toks := tk }) : wpAny (model P w) A (call (.type "set") [.ref l]) Q E s := by
  obtain ⟨cm, tm, mro⟩ := F.called_set.mro
  have k1 := F.called_set.made
  have k2 := F.called_set.sub
  have k3 := F.called_set.notType
  have k4 := F.called_set.canCreate
  have k5 := F.typeCall_set_1 (.ref l)
  refine wpAny_call (codeAny_of_tree (wpAny_pure ⟨Code.quiet_builtin _ (by decide +kernel), codeAny_builtin F.entry_type_call ?_⟩))
  rw [Around.under_plain (weight_type_call_type "set" [.ref l] []) rfl]
  repeat (any_goals (first | assumption | wp_step))
  refine codeAny_mono (L2.code_set_led1 (.ref l) (E := E) (Q₁ := fun v r => v = .ref s.heap.objs.size ∧ r = { s with heap := s.heap.push (newSetO w) }) ⟨rfl, rfl⟩) fun r s₁ hr => ?_
  match r, hr with
  | .error e, hr => exact hr
  | .ok (.ret obj), hr =>
    obtain ⟨rfl, rfl⟩ := hr
    have at0 : (s.heap.push (newSetO w)).get? s.heap.objs.size = some (newSetO w) := Heap.get?_push_size _ rfl
    have ty0 : Shared.TypeIs { s with heap := s.heap.push (newSetO w) } (.ref s.heap.objs.size) "set" := ⟨_, at0, rfl⟩
    have k6 := F.called_set.init.lookup
    have k7 := F.called_set.init.bind (.ref s.heap.objs.size)
    repeat (any_goals (first | assumption | wp_step))
    refine codeAny_mono (codeAny_call_builtin (R := wants (fun v r => v = .none ∧ ∃ h' tk, r = { s with heap := h', toks := tk } ∧ HasS P w h' s.heap.objs.size xs ∧ ∀ b o, s.heap.get? b = some o → h'.get? b = some o) E)
      F.called_set.init.plain F.entry_set_init (check_set_init_1 ty0 ?_)) fun r₂ s₂ hr₂ => ?_
    · have hll : l < s.heap.objs.size := by obtain ⟨_, e, _⟩ := hl; exact Heap.lt_size e
      have hl0 := hl
      obtain ⟨ol, q1, q2, nl, q3⟩ := hl
      obtain ⟨oc, od, odt, osl⟩ := ol
      simp only at q2 q3
      subst q2 q3
      have q4 : (s.heap.push (newSetO w)).get? l = some { cls := .type "list", dict := od, data := .seq its.toArray nl, slots := osl } := Heap.get?_push_of_some _ q1
      have k8 := F.sub_list_set
      have k9 := F.sub_list_frozenset
      have k10 : (Value.type "list" == Value.type "dict") = false := by decide
      have hl1 : (s.heap.push (newSetO w)).IsList l its.toArray := ⟨_, q4, rfl, nl, rfl⟩
      unfold Builtin.«set.__init__» noKeywords Builtin.Frozenset.updateFrom
      generalize hPI : pyIter = PI
      wp_walk
      subst hPI
      refine wpAny_pyIter_list hl1 (wpAny_bind (wpAny_runValue ?_))
      have sz : (s.heap.push (newSetO w)).objs.size = s.heap.objs.size + 1 := Heap.size_push ..
      have n1 : l ≠ (s.heap.push (newSetO w)).objs.size := fun q => by
        rw [sz] at q
        exact Nat.lt_irrefl _ (Nat.lt_of_lt_of_le (Nat.lt_succ_of_lt hll) (Nat.le_of_eq q.symm))
      have n2 : s.heap.objs.size ∉ [(s.heap.push (newSetO w)).objs.size, l] := by
        rw [sz]
        simp only [List.mem_cons, List.not_mem_nil, or_false, not_or]
        exact ⟨Nat.ne_of_lt (Nat.lt_succ_self _), Nat.ne_of_gt hll⟩
      have hsz : its.toArray.size = xs.length := by rw [List.size_toArray]; exact hi.length
      refine loop ((Walks.list (by simp [hh]) _ l n1 its.toArray).toS) n2 xs hsz hb (fun i v hv => ?_) xs.length 0 _ (by rw [hsz]; rfl) ⟨⟨_, Heap.get?_push_size _ rfl, rfl, rfl⟩, hl1.push _⟩ ?_ fun s' mv hs' => ?_
      · have hv' : its[i]? = some v := by simpa using hv
        have lt : i < xs.length := by rw [← hi.length]; exact (List.getElem?_eq_some_iff.mp hv').1
        obtain ⟨u, e⟩ := StrsAre.at hi (List.getElem?_eq_getElem lt)
        rw [hv'] at e
        exact ⟨_, u, List.getElem?_eq_getElem lt, Option.some.inj e⟩
      · exact fresh (Heap.get?_push_of_some _ at0)
      · obtain ⟨h', g', d', tk', os'⟩ := s'
        have e1 : g' = s.gens := mv.gens
        have e2 : d' = s.drawn := mv.drawn
        have e3 : os' = s.os := mv.os
        subst e1 e2 e3
        refine wpAny_pure (wpAny_pure ⟨rfl, h', tk', rfl, hs', fun b o e => mv.heap b o ?_ (Heap.get?_push_of_some _ (Heap.get?_push_of_some _ e))⟩)
        have lt := Heap.lt_size e
        rw [sz]
        simp only [List.mem_cons, List.not_mem_nil, or_false, not_or]
        exact ⟨Nat.ne_of_lt lt, Nat.ne_of_lt (Nat.lt_succ_of_lt lt)⟩
    · match r₂, hr₂ with
      | .error e, z => exact z
      | .ok (.ret v), z =>
        obtain ⟨rfl, h', tk, rfl, hs', kp⟩ := z
        repeat (any_goals (first | assumption | wp_step))
        exact hQ _ _ hs' kp
      | .ok .next, z => exact z.elim
      | .ok .brk, z => exact z.elim
      | .ok .cont, z => exact z.elim
end
end TxtSet
end VL

/-! The value layer, 9: sorted. -/
namespace VL
open PySem PySem.Spec PyProof.Rows L2 LamX

/-! ### orders by data -/
def Ky.lt : Ky → Ky → Prop
  | .inl i, .inl j => i < j
  | .inl _, .inr _ => True
  | .inr _, .inl _ => False
  | .inr a, .inr b => a < b
instance kyLT : LT Ky := ⟨Ky.lt⟩
instance kyDec : DecidableLT Ky := fun a b => match a, b with
  | .inl i, .inl j => inferInstanceAs (Decidable (i < j))
  | .inl _, .inr _ => isTrue trivial
  | .inr _, .inl _ => isFalse id
  | .inr a, .inr b => inferInstanceAs (Decidable (a < b))
theorem ky_irr (a : Ky) : ¬ a < a := by
  cases a with
  | inl i => exact Int.lt_irrefl i
  | inr t => exact List.lt_irrefl t
theorem ky_tr {a b c : Ky} (h1 : a < b) (h2 : b < c) : a < c := by
  cases a <;> cases b <;> cases c <;> first | trivial | exact h1.elim | exact h2.elim | exact Int.lt_trans h1 h2 | exact List.lt_trans h1 h2
theorem ky_tri {a b : Ky} (h1 : ¬ a < b) (h2 : ¬ b < a) : a = b := by
  cases a with
  | inl i =>
    cases b with
    | inl j =>
      have h1 : ¬ i < j := h1
      have h2 : ¬ j < i := h2
      rw [show i = j by omega]
    | inr t => exact absurd trivial h1
  | inr s =>
    cases b with
    | inl j => exact absurd trivial h2
    | inr t => rw [List.le_antisymm (as := s) (bs := t) (List.not_lt.mp h2) (List.not_lt.mp h1)]
instance : Std.Irrefl (fun a b : Ky => a < b) := ⟨ky_irr⟩
instance : Std.Asymm (fun a b : Ky => a < b) := ⟨fun a b h1 h2 => ky_irr a (ky_tr h1 h2)⟩
instance : Std.Trichotomous (fun a b : Ky => a < b) := ⟨fun a b h1 h2 => ky_tri h1 h2⟩
instance : Trans (fun a b : Ky => a < b) (fun a b : Ky => a < b) (fun a b : Ky => a < b) := ⟨fun h1 h2 => ky_tr h1 h2⟩
/-- sorted, by a strict order that parts any two -/
def srt {α : Type} [LT α] [DecidableLT α] (xs : List α) : List α := xs.mergeSort fun a b => !decide (b < a)
section
variable {α : Type} [LT α] [DecidableLT α]
/-- the order parts any two -/
class Lin (α : Type) [LT α] : Prop where
  irr : ∀ a : α, ¬ a < a
  tr : ∀ a b c : α, a < b → b < c → a < c
  tri : ∀ a b : α, ¬ a < b → ¬ b < a → a = b
instance : Lin Ky := ⟨ky_irr, fun _ _ _ => ky_tr, fun _ _ => ky_tri⟩
instance : Lin Int := ⟨Int.lt_irrefl, fun _ _ _ => Int.lt_trans, fun a b h1 h2 => by omega⟩
instance : Lin T := ⟨List.lt_irrefl, fun _ _ _ => List.lt_trans, fun _ _ h1 h2 => List.le_antisymm (List.not_lt.mp h2) (List.not_lt.mp h1)⟩
instance : Lin (List Ky) := ⟨List.lt_irrefl, fun _ _ _ => List.lt_trans, fun _ _ h1 h2 => List.le_antisymm (List.not_lt.mp h2) (List.not_lt.mp h1)⟩
theorem Lin.nlt [Lin α] {a b c : α} (h1 : ¬ b < a) (h2 : ¬ c < b) : ¬ c < a := fun h => by
  by_cases q : a < b
  · exact h2 (Lin.tr c a b h q)
  · rw [Lin.tri a b q h1] at h
    exact h2 h
theorem Lin.ns [Lin α] {a b : α} (h : a < b) : ¬ b < a := fun h2 => Lin.irr a (Lin.tr a b a h h2)
theorem srt_perm (xs : List α) : (srt xs).Perm xs := List.mergeSort_perm _ _
theorem srt_pair [Lin α] (xs : List α) : (srt xs).Pairwise fun a b => ¬ b < a := by
  have h := List.pairwise_mergeSort (le := fun a b : α => !decide (b < a)) (fun a b c h1 h2 => by
    simp only [Bool.not_eq_true', decide_eq_false_iff_not] at h1 h2 ⊢
    exact Lin.nlt h1 h2) (fun a b => by
    by_cases q : b < a
    · have := Lin.ns q
      simp [this]
    · simp [q]) xs
  exact h.imp fun h => by simpa using h
theorem srt_uniq [Lin α] {ys xs : List α} (p : ys.Perm xs) (h : ys.Pairwise fun a b => ¬ b < a) : ys = srt xs :=
  List.Perm.eq_of_pairwise (fun a b _ _ h1 h2 => Lin.tri a b h2 h1) h (srt_pair xs) (p.trans (srt_perm xs).symm)
/-- the same ones, each once -/
def once [DecidableEq α] : List α → List α
  | [] => []
  | x :: xs => if x ∈ xs then once xs else x :: once xs
theorem mem_once [DecidableEq α] (x : α) : ∀ xs : List α, x ∈ once xs ↔ x ∈ xs
  | [] => Iff.rfl
  | y :: ys => by
    unfold once
    split
    · rename_i h
      rw [mem_once x ys, List.mem_cons]
      exact ⟨.inr, fun q => q.elim (fun e => e ▸ h) id⟩
    · rw [List.mem_cons, List.mem_cons, mem_once x ys]
theorem nodup_once [DecidableEq α] : ∀ xs : List α, (once xs).Nodup
  | [] => List.nodup_nil
  | y :: ys => by
    unfold once
    split
    · exact nodup_once ys
    · rename_i h
      exact List.nodup_cons.mpr ⟨fun q => h ((mem_once y ys).mp q), nodup_once ys⟩
def setL [DecidableEq α] (xs : List α) : List α := srt (once xs)
theorem mem_setL [DecidableEq α] [Lin α] (x : α) (xs : List α) : x ∈ setL xs ↔ x ∈ xs := ((srt_perm _).mem_iff).trans (mem_once x xs)
theorem setL_pair [DecidableEq α] [Lin α] (xs : List α) : (setL xs).Pairwise (· < ·) := by
  have h1 := srt_pair (once xs)
  have h2 : (setL xs).Nodup := (srt_perm (once xs)).nodup_iff.mpr (nodup_once xs)
  have h3 : (setL xs).Pairwise fun a b => ¬ b < a ∧ a ≠ b := List.pairwise_and_iff.mpr ⟨h1, h2⟩
  exact h3.imp fun ⟨q1, q2⟩ => by
    refine Classical.byContradiction fun q => q2 (Lin.tri _ _ q q1)
theorem setL_uniq [DecidableEq α] [Lin α] {ys xs : List α} (n : ys.Nodup) (m : ∀ x, x ∈ ys ↔ x ∈ xs) (h : ys.Pairwise fun a b => ¬ b < a) : ys = setL xs :=
  srt_uniq ((List.perm_ext_iff_of_nodup n (nodup_once xs)).mpr fun x => (m x).trans (mem_once x xs).symm) h
end

/-! ### sorted(set(xs)) of texts -/
namespace TxtSet
section
variable {P : Program} {w : World} {A : Around} {E : Value → Shared → Prop} {s : Shared} {a : Addr} {M : List Str}
theorem strs_of : ∀ {l : List Value}, (∀ v ∈ l, ∃ x u, v = Value.str x u) → ∃ xs : List Str, StrsAre l xs ∧ ∀ f : Value → Str, (∀ x u, f (.str x u) = x) → xs = l.map f
  | [], _ => ⟨[], .nil, fun _ _ => rfl⟩
  | v :: l, h => by
    obtain ⟨x, u, rfl⟩ := h v List.mem_cons_self
    obtain ⟨xs, h1, h2⟩ := strs_of (l := l) fun v m => h v (List.mem_cons_of_mem _ m)
    exact ⟨x :: xs, .cons x u h1, fun f e => by rw [List.map_cons, e, ← h2 f e]⟩
theorem risS : ∀ {p : Str} {l : List Str}, risingS p l = true → ∀ y ∈ l, ¬ (y.cps.toList < p.cps.toList)
  | p, [], _, y, m => by cases m
  | p, x :: r, h, y, m => by
    have h : (!ltCps x.cps.toList p.cps.toList && risingS x r) = true := h
    rw [Bool.and_eq_true, Bool.not_eq_true', ltCps_eq, decide_eq_false_iff_not] at h
    rcases List.mem_cons.mp m with e | m
    · rw [e]; exact h.1
    · exact Lin.nlt (α := T) h.1 (risS h.2 y m)
theorem srtS_pair : ∀ {l : List Str}, sortedS l = true → (l.map fun x => x.cps.toList).Pairwise fun a b : T => ¬ b < a
  | [], _ => .nil
  | x :: r, h => by
    have h : risingS x r = true := h
    refine List.pairwise_cons.mpr ⟨fun b m => ?_, ?_⟩
    · obtain ⟨y, hy, rfl⟩ := List.mem_map.mp m
      exact risS h y hy
    · refine srtS_pair (l := r) ?_
      cases r with
      | nil => rfl
      | cons y r =>
        have h : (!ltCps y.cps.toList x.cps.toList && risingS y r) = true := h
        rw [Bool.and_eq_true] at h
        exact h.2
theorem back_s (ts : List T) : (ts.map T.s).map (fun x => x.cps.toList) = ts := by
  induction ts with
  | nil => rfl
  | cons t ts ih => rw [List.map_cons, List.map_cons, ih]; rfl
theorem fore_s (xs : List Str) : (xs.map fun x => x.cps.toList).map T.s = xs := by
  induction xs with
  | nil => rfl
  | cons t ts ih => rw [List.map_cons, List.map_cons, ih, T.of]
theorem outS {ys : List Str} {ts : List T} (p : ys.Perm (ts.map T.s)) (h : sortedS ys = true) : ys = (srt ts).map T.s := by
  have q := p.map fun x => x.cps.toList
  rw [back_s] at q
  rw [← srt_uniq q (srtS_pair h), fore_s]
theorem sorted {ts : List T} {Q : Value → Shared → Prop} (hs : HasS P w s.heap a (ts.map T.s)) (hh : A.handled = none) (hf : ts.length < scanBound)
    (hQ : ∀ (s' : Shared) (p : Addr) (out : List Value) (c : Nat), (∀ b o, s.heap.get? b = some o → s'.heap.get? b = some o) → s'.gens = s.gens → s'.os = s.os → s.heap.objs.size ≤ p → s'.heap.get? p = some (seqObj "list" out.toArray c) → StrsAre out ((setL ts).map T.s) → Q (.ref p) s') :
    wpAny (model P w) A (call (.builtin "sorted") [.ref a]) Q E s := by
  obtain ⟨o, es, ep, t, R⟩ := hs
  have low : es.size < scanBound := by
    have := R.few
    rw [List.length_map] at this
    omega
  refine Calls.call_function_entry kind_sorted plain_sorted entry_sorted (args_sorted1 _) ?_
  unfold Builtin.«sorted»
  refine wpAny_bind (m := checkCount "sorted" 1 1 _) (wpAny_pure (wpAny_bind (L2.collect_set (A := A.in1) hh ⟨o, R.ob, R.ex.1, R.dat⟩ R.fit low R.ris R.led fun s1 vs k1 kz kg ko pm => ?_)))
  obtain ⟨xs, hx, hm⟩ := strs_of (l := vs) fun v m => by
    obtain ⟨e, he, rfl⟩ := List.mem_map.mp (pm.mem_iff.mp m)
    obtain ⟨x, u, q, _⟩ := R.ent e he
    exact ⟨x, u, q⟩
  have hm' : xs = (vs.map fun v => kS (0, v)) := hm _ fun _ _ => rfl
  have pk : xs.Perm (es.toList.map kS) := by
    rw [hm']
    have q := pm.map fun v => kS (0, v)
    rw [List.map_map] at q
    exact q
  have few : vs.length ≤ sizeLine := by
    rw [pm.length_eq, List.length_map]
    exact fits_of_scanBound (by simpa using low)
  refine wpAny_bind (wpAny_newList ?_ few)
  have at1 : (s1.heap.push (seqObj "list" vs.toArray 0)).get? s1.heap.objs.size = some (seqObj "list" vs.toArray 0) := Heap.get?_push_size _ rfl
  have key : ∀ xs' : List Str, xs'.Perm xs → sortedS xs' = true → xs' = (setL ts).map T.s := fun xs' p h => by
    have n0 : (xs'.map fun x => x.cps.toList).Nodup := by
      have n1 : xs'.Nodup := (p.trans pk).nodup_iff.mpr R.one
      refine List.Pairwise.map _ (fun x y ne e => ne ?_) n1
      rw [← T.of x, ← T.of y, e]
    rw [← setL_uniq (xs := ts) n0 (fun x => ?_) (srtS_pair h), fore_s]
    rw [← back_s ts, List.mem_map, List.mem_map]
    constructor
    · rintro ⟨y, hy, rfl⟩
      exact ⟨y, (R.mem y).mp ((p.trans pk).mem_iff.mp hy), rfl⟩
    · rintro ⟨y, hy, rfl⟩
      exact ⟨y, (p.trans pk).mem_iff.mpr ((R.mem y).mpr hy), rfl⟩
  refine wpAny_bind (wpAny_holding (wpAny_call_entry slot_list_sort ⟨_, at1, rfl⟩ entry_list_sort (list_sort_treeKAny PyProof.Rows.strKind_oneLt at1 hx.keysOf (fun v₁ v₂ r e => PyProof.Rows.keyKind_strs (by rw [← e]; exact hx)) few fun st z1 z2 => ⟨_, rfl, ?_⟩) (args_list_sort _)))
  obtain ⟨xs', b1, b2, b3⟩ := sorted_out_str hx z1 z2
  obtain ⟨c, hc⟩ := sortedHeap_at (vs := vs) (out := (arrOf st).map (·.2)) at1
  rw [key xs' b2 b3] at b1
  refine wpAny_pure ⟨_, rfl, hQ _ s1.heap.objs.size ((arrOf st).map (·.2)).toList c (fun b u e => ?_) kg ko kz (by rw [Array.toArray_toList]; exact hc) b1⟩
  have q := k1 b u e
  have lt := Heap.lt_size q
  refine (sortedHeap_old (Nat.ne_of_lt lt) (by rw [size_push']; exact Nat.lt_succ_of_lt lt)).trans (Heap.get?_push_of_some _ q)
end
end TxtSet

/-! ### tuples of ints and texts, by their parts -/
def tyK : Ky → Value
  | .inl _ => .type "int"
  | .inr _ => .type "str"
/-- of one form: as long, and int beside int, text beside text -/
def form (k : List Ky) : List Bool := k.map Sum.isLeft
inductive KyV : Ky → Value → Prop
  | int (i : Int) (u : Tok) : KyV (.inl i) (.int i u)
  | str (t : T) (u : Tok) : KyV (.inr t) (.str t.s u)
def IsTK (h : Heap) (v : Value) (k : List Ky) : Prop := ∃ a o us n, v = .ref a ∧ h.get? a = some o ∧ o.cls = .type "tuple" ∧ o.data = .seq (List.toArray us) n ∧ Paired KyV k us
theorem IsTK.keeps {h h' : Heap} {v : Value} {k : List Ky} (p : IsTK h v k) (m : ∀ b o, h.get? b = some o → o.cls = .type "tuple" → h'.get? b = some o) : IsTK h' v k := by
  obtain ⟨a, o, us, n, e, q1, q2, q3, q4⟩ := p
  exact ⟨a, o, us, n, e, m a o q1 q2, q2, q3, q4⟩
theorem KyV.uniq {k k' : Ky} {v : Value} (h : KyV k v) (h' : KyV k' v) : k = k' := by
  cases h with
  | int i u => cases h'; rfl
  | str t u =>
    generalize e : Value.str t.s u = v at h'
    cases h' with
    | int i u' => cases e
    | str t' u' => rw [T.inj (Value.str.inj e).1]
theorem kys_uniq : ∀ {k k' : List Ky} {us : List Value}, Paired KyV k us → Paired KyV k' us → k = k'
  | _, _, _, .nil, .nil => rfl
  | _, _, _, .cons a b, .cons c d => by rw [KyV.uniq a c, kys_uniq b d]
theorem IsTK.uniq {h : Heap} {v : Value} {k k' : List Ky} (p : IsTK h v k) (p' : IsTK h v k') : k = k' := by
  obtain ⟨a, o, us, n, e, q1, q2, q3, q4⟩ := p
  obtain ⟨a', o', us', n', e', q1', q2', q3', q4'⟩ := p'
  rw [e] at e'
  cases e'
  rw [q1] at q1'
  cases q1'
  rw [q3] at q3'
  have hu : us = us' := by
    have := (Data.seq.inj q3').1
    simpa using this
  subst hu
  exact kys_uniq q4 q4'
theorem paired_len {α β : Type} {R : α → β → Prop} : ∀ {xs : List α} {ys : List β}, Paired R xs ys → xs.length = ys.length
  | _, _, .nil => rfl
  | _, _, .cons _ t => by simp [paired_len t]
noncomputable def keyAt (h : Heap) (v : Value) : List Ky := by
  classical exact if q : ∃ k, IsTK h v k then q.choose else []
theorem keyAt_eq {h : Heap} {v : Value} {k : List Ky} (p : IsTK h v k) : keyAt h v = k := by
  unfold keyAt
  rw [dif_pos ⟨k, p⟩]
  exact IsTK.uniq (Exists.choose_spec (⟨k, p⟩ : ∃ k, IsTK h v k)) p
section
variable {P : Program} {w : World} {A : Around} {E : Value → Shared → Prop} {s : Shared}
theorem one_lt (c : Bool) {a b : Ky} {u v : Value} {Q : Bool → Shared → Prop} (ha : KyV a u) (hb : KyV b v) (hf : a.isLeft = b.isLeft) (h : Q (decide (a < b)) s) : wpAny (model P w) A (oneLt' c u v) Q E s := by
  cases ha with
  | int i t =>
    cases hb with
    | int j t' =>
      cases c with
      | true => exact PyProof.Rows.oneLt_int h
      | false => exact PySem.W.kat_one _ _ (PyProof.Rows.lt_int h)
    | str _ _ => cases hf
  | str x t =>
    cases hb with
    | int _ _ => cases hf
    | str y t' =>
      cases c with
      | true => exact PyProof.Rows.oneLt_str h
      | false => exact PySem.W.kat_one _ _ (PyProof.Rows.lt_str h)
theorem lex_lt (c : Bool) : ∀ {k k' : List Ky} {us us' : List Value} (i : Nat), Paired KyV k us → Paired KyV k' us' → form k = form k' → PySem.W.KatLex P w A c false (fun r s' => s' = s ∧ r = decide (k < k')) (us.zip us') i s
  | [], [], _, _, i, .nil, .nil, _ => PySem.W.kat_nil ⟨rfl, by simp⟩
  | [], _ :: _, _, _, _, _, _, h => by cases h
  | _ :: _, [], _, _, _, _, _, h => by cases h
  | x :: k, y :: k', _, _, i, .cons h1 t1, .cons h2 t2, h => by
    have hx : x.isLeft = y.isLeft := (List.cons.inj h).1
    have ht : form k = form k' := (List.cons.inj h).2
    refine PySem.W.kat_cons ?_
    rename_i u us v us'
    have go : ∀ e : Bool, (e = decide (x = y)) → PySem.W.KatGo P w A c false (fun r s' => s' = s ∧ r = decide (x :: k < y :: k')) u v (us.zip us') i e s := by
      intro e he
      by_cases q : x = y
      · rw [decide_eq_true q] at he
        subst he q
        refine PySem.W.kat_yes ?_
        have e2 : decide (x :: k < x :: k') = decide (k < k') := by
          rw [decide_eq_decide, List.cons_lt_cons_iff]
          exact ⟨fun z => z.elim (fun z => absurd z (ky_irr x)) fun z => z.2, fun z => .inr ⟨rfl, z⟩⟩
        rw [e2]
        exact lex_lt c (i + 1) t1 t2 ht
      · rw [decide_eq_false q] at he
        subst he
        refine PySem.W.kat_no (one_lt _ h1 h2 hx ⟨rfl, ?_⟩)
        rw [decide_eq_decide, List.cons_lt_cons_iff]
        exact ⟨.inl, fun z => z.elim id fun z => absurd z.1 q⟩
    cases h1 with
    | int i1 u1 =>
      cases h2 with
      | int j1 v1 =>
        refine SeqAt.EqAt.int_int i1 u1 j1 v1 P w _ _ (go _ ?_)
        by_cases q : i1 = j1 <;> simp [q]
      | str _ _ => cases hx
    | str x1 u1 =>
      cases h2 with
      | int _ _ => cases hx
      | str y1 v1 =>
        refine SeqAt.EqAt.str_str x1.s u1 y1.s v1 P w _ _ (go _ ?_)
        by_cases q : x1 = y1
        · subst q
          simp
        · have q2 : ¬ x1.s = y1.s := fun z => q (T.inj z)
          simp [q, q2]
theorem tk_cmp {vs : List Value} {f : List Bool} (hp : ∀ v ∈ vs, ∃ k, IsTK s.heap v k ∧ form k = f) : SrtO.Cmp P w A s (tuples' true) (fun p => p.1 ∈ vs) (SrtO.lt2 fun v u => decide (keyAt s.heap v < keyAt s.heap u)) := by
  intro p q hm hm'
  obtain ⟨k, h1, f1⟩ := hp _ hm
  obtain ⟨k', h2, f2⟩ := hp _ hm'
  show wpAny (model P w) A (keyLt' (tuples' true) p.1 q.1) (fun r s' => s' = s ∧ r = decide (keyAt s.heap p.1 < keyAt s.heap q.1)) (fun _ _ => False) s
  rw [keyAt_eq h1, keyAt_eq h2]
  obtain ⟨a, o, us, n, e, q1, q2, q3, q4⟩ := h1
  obtain ⟨a', o', us', n', e', q1', q2', q3', q4'⟩ := h2
  rw [e, e']
  refine PySem.W.kat_lt q1 q3 q1' q3' ?_
  have hl : us.length = us'.length := by
    have := congrArg List.length (f1.trans f2.symm)
    simp only [form, List.length_map] at this
    rw [← paired_len q4, ← paired_len q4', this]
  have e1 : decide (us.toArray.size < us'.toArray.size) = false := by
    rw [List.size_toArray, List.size_toArray, hl]
    exact decide_eq_false (Nat.lt_irrefl _)
  rw [e1]
  exact lex_lt true 0 q4 q4' (f1.trans f2.symm)
theorem tk_firsts {h : Heap} {b : Bool} {f : List Bool} : ∀ {vs : List Value}, (∀ v ∈ vs, ∃ k, IsTK h v k ∧ form k = b :: f) → ∃ fs : List Value, PySem.W.KatTups h vs fs ∧ fs.length = vs.length ∧ ∀ x ∈ fs, ∃ k : Ky, KyV k x ∧ k.isLeft = b
  | [], _ => ⟨[], PySem.W.KatTups.nil, rfl, fun _ m => by cases m⟩
  | v :: vs, hp => by
    obtain ⟨fs, h1, h2, h3⟩ := tk_firsts (vs := vs) fun u m => hp u (List.mem_cons_of_mem _ m)
    obtain ⟨k, ⟨a, o, us, n, e, q1, q2, q3, q4⟩, hf⟩ := hp v List.mem_cons_self
    subst e
    cases q4 with
    | nil => cases hf
    | cons r t =>
      refine ⟨_ :: fs, PySem.W.KatTups.cons q1 q2 q3 rfl h1, by simp [h2], fun x m => ?_⟩
      rcases List.mem_cons.mp m with z | z
      · exact z ▸ ⟨_, r, (List.cons.inj hf).1⟩
      · exact h3 x z
theorem tk_sortable {a : Addr} {vs : List Value} {b : Bool} {f : List Bool} (h0 : 0 < vs.length) (hp : ∀ v ∈ vs, ∃ k, IsTK s.heap v k ∧ form k = b :: f) (ha : ∀ o, s.heap.get? a = some o → o.cls ≠ .type "tuple") :
    SrtO.SortableO P w A s a vs fun v u => decide (keyAt s.heap v < keyAt s.heap u) := by
  intro h' keep
  have hk : ∀ v ∈ vs, ∃ k, IsTK h' v k ∧ form k = b :: f ∧ keyAt h' v = keyAt s.heap v := fun v m => by
    obtain ⟨k, q1, q2⟩ := hp v m
    have q3 := q1.keeps (h' := h') fun c o e z => keep c o (fun y => by subst y; exact ha o e z) e
    exact ⟨k, q3, q2, by rw [keyAt_eq q1, keyAt_eq q3]⟩
  obtain ⟨fs, h1, h2, h3⟩ := tk_firsts (h := h') fun v m => let ⟨k, q1, q2, _⟩ := hk v m; ⟨k, q1, q2⟩
  refine ⟨tuples' true, fun Q E hq => ?_, fun p q hm hm' => ?_⟩
  · cases b with
    | true =>
      refine PySem.W.kat_kind (T := .type "int") h1 (by omega) (fun x hm => ?_) (by rfl) ?_
      · obtain ⟨k, r, q⟩ := h3 x hm
        cases r with
        | int i u => exact PySem.W.Looks.now
        | str _ _ => cases q
      · rw [show (Value.type "int" != Value.type "tuple") = true by decide +kernel]
        exact hq
    | false =>
      refine PySem.W.kat_kind (T := .type "str") h1 (by omega) (fun x hm => ?_) (by rfl) ?_
      · obtain ⟨k, r, q⟩ := h3 x hm
        cases r with
        | int _ _ => cases q
        | str t u => exact PySem.W.Looks.now
      · rw [show (Value.type "str" != Value.type "tuple") = true by decide +kernel]
        exact hq
  · have q0 := tk_cmp (P := P) (w := w) (A := A) (s := { s with heap := h' }) (vs := vs) (f := b :: f) (fun v m => let ⟨k, q1, q2, _⟩ := hk v m; ⟨k, q1, q2⟩) p q hm hm'
    obtain ⟨_, _, _, e1⟩ := hk _ hm
    obtain ⟨_, _, _, e2⟩ := hk _ hm'
    have e3 : SrtO.lt2 (fun v u => decide (keyAt h' v < keyAt h' u)) p q = SrtO.lt2 (fun v u => decide (keyAt s.heap v < keyAt s.heap u)) p q := by
      show decide (keyAt h' p.1 < keyAt h' q.1) = decide (keyAt s.heap p.1 < keyAt s.heap q.1)
      rw [e1, e2]
    rw [e3] at q0
    exact q0
end
theorem swo_key (h : Heap) : SrtO.Swo fun v u => decide (keyAt h v < keyAt h u) := by
  refine ⟨fun x y q => ?_, fun x y z q1 q2 => ?_⟩
  · exact decide_eq_false (Lin.ns (of_decide_eq_true q))
  · exact decide_eq_false (Lin.nlt (of_decide_eq_false q1) (of_decide_eq_false q2))
end VL

/-! The value layer, A: built-in functions and methods. -/
namespace VL
open PySem PySem.Spec PyProof.Rows L2 LamX

/-! ### what a list holds, if it is of one kind -/
def intsOf : List D → Option (List Int)
  | [] => some []
  | .int i :: ds => (intsOf ds).map (i :: ·)
  | _ => none
def strsOf : List D → Option (List T)
  | [] => some []
  | .str t :: ds => (strsOf ds).map (t :: ·)
  | _ => none
def blsOf : List D → Option (List Bool)
  | [] => some []
  | .bl b :: ds => (blsOf ds).map (b :: ·)
  | _ => none
def kysOf : List D → Option (List Ky)
  | [] => some []
  | .int i :: ds => (kysOf ds).map (.inl i :: ·)
  | .str t :: ds => (kysOf ds).map (.inr t :: ·)
  | _ => none
def Ky.d : Ky → D
  | .inl i => .int i
  | .inr t => .str t
def tupsOf : List D → Option (List (List Ky))
  | [] => some []
  | .tup ks :: ds => match kysOf ks, tupsOf ds with
    | some k, some r => some (k :: r)
    | _, _ => none
  | _ => none
@[simp] theorem intsOf_map : ∀ ns : List Int, intsOf (ns.map .int) = some ns
  | [] => rfl
  | n :: ns => by simp [intsOf, intsOf_map ns]
@[simp] theorem strsOf_map : ∀ ns : List T, strsOf (ns.map .str) = some ns
  | [] => rfl
  | n :: ns => by simp [strsOf, strsOf_map ns]
@[simp] theorem blsOf_map : ∀ ns : List Bool, blsOf (ns.map .bl) = some ns
  | [] => rfl
  | n :: ns => by simp [blsOf, blsOf_map ns]
@[simp] theorem kysOf_map : ∀ ks : List Ky, kysOf (ks.map Ky.d) = some ks
  | [] => rfl
  | .inl i :: ks => by simp [kysOf, Ky.d, kysOf_map ks]
  | .inr t :: ks => by simp [kysOf, Ky.d, kysOf_map ks]
@[simp] theorem tupsOf_map : ∀ ks : List (List Ky), tupsOf (ks.map fun k => .tup (k.map Ky.d)) = some ks
  | [] => rfl
  | k :: ks => by simp [tupsOf, tupsOf_map ks]
theorem ints_eq : ∀ {ds : List D} {ns : List Int}, intsOf ds = some ns → ds = ns.map .int
  | [], _, h => by cases h; rfl
  | d :: ds, ns, h => by
    cases d <;> first | cases h | skip
    rename_i i
    cases q : intsOf ds with
    | none => simp [intsOf, q] at h
    | some r =>
      simp only [intsOf, q, Option.map_some, Option.some.injEq] at h
      rw [← h, List.map_cons, ← ints_eq q]
theorem strs_eq : ∀ {ds : List D} {ns : List T}, strsOf ds = some ns → ds = ns.map .str
  | [], _, h => by cases h; rfl
  | d :: ds, ns, h => by
    cases d <;> first | cases h | skip
    rename_i i
    cases q : strsOf ds with
    | none => simp [strsOf, q] at h
    | some r =>
      simp only [strsOf, q, Option.map_some, Option.some.injEq] at h
      rw [← h, List.map_cons, ← strs_eq q]
theorem bls_eq : ∀ {ds : List D} {ns : List Bool}, blsOf ds = some ns → ds = ns.map .bl
  | [], _, h => by cases h; rfl
  | d :: ds, ns, h => by
    cases d <;> first | cases h | skip
    rename_i i
    cases q : blsOf ds with
    | none => simp [blsOf, q] at h
    | some r =>
      simp only [blsOf, q, Option.map_some, Option.some.injEq] at h
      rw [← h, List.map_cons, ← bls_eq q]
theorem kys_eq : ∀ {ds : List D} {ns : List Ky}, kysOf ds = some ns → ds = ns.map Ky.d
  | [], _, h => by cases h; rfl
  | d :: ds, ns, h => by
    cases d <;> first | cases h | skip
    all_goals
      rename_i i
      cases q : kysOf ds with
      | none => simp [kysOf, q] at h
      | some r =>
        simp only [kysOf, q, Option.map_some, Option.some.injEq] at h
        rw [← h, List.map_cons, ← kys_eq q]
        rfl
theorem tups_eq : ∀ {ds : List D} {ns : List (List Ky)}, tupsOf ds = some ns → ds = ns.map fun k => .tup (k.map Ky.d)
  | [], _, h => by cases h; rfl
  | d :: ds, ns, h => by
    cases d <;> first | cases h | skip
    rename_i ks
    cases q1 : kysOf ks with
    | none => simp [tupsOf, q1] at h
    | some k =>
      cases q2 : tupsOf ds with
      | none => simp [tupsOf, q1, q2] at h
      | some r =>
        simp only [tupsOf, q1, q2, Option.some.injEq] at h
        rw [← h, List.map_cons, ← tups_eq q2, ← kys_eq q1]
section
variable {G : Gd} {S : Hp}
theorem reps_int_inv : ∀ {ns : List Int} {vs : List V}, Reps G S (ns.map .int) vs → vs = ns.map V.int
  | [], _, h => by cases h; rfl
  | n :: ns, _, h => by
    cases h with
    | cons a b => cases a; rw [reps_int_inv b]; rfl
theorem reps_str_inv : ∀ {ns : List T} {vs : List V}, Reps G S (ns.map .str) vs → vs = (ns.map T.s).map V.str
  | [], _, h => by cases h; rfl
  | n :: ns, _, h => by
    cases h with
    | cons a b => cases a; rw [reps_str_inv b]; rfl
theorem reps_bl_inv : ∀ {ns : List Bool} {vs : List V}, Reps G S (ns.map .bl) vs → vs = ns.map V.bl
  | [], _, h => by cases h; rfl
  | n :: ns, _, h => by
    cases h with
    | cons a b => cases a; rw [reps_bl_inv b]; rfl
theorem reps_ky_inv : ∀ {ks : List Ky} {vs : List V}, Reps G S (ks.map Ky.d) vs → vs = ks.map fun k => kV k.k
  | [], _, h => by cases h; rfl
  | .inl i :: ns, _, h => by
    cases h with
    | cons a b => cases a; rw [reps_ky_inv b]; rfl
  | .inr i :: ns, _, h => by
    cases h with
    | cons a b => cases a; rw [reps_ky_inv b]; rfl
theorem reps_bls : ∀ ns : List Bool, Reps G S (ns.map D.bl) (ns.map V.bl)
  | [] => .nil
  | n :: ns => .cons (.bl n) (reps_bls ns)
theorem kys_paired : ∀ {ks : List Ky} {us : List Value}, Vals (ks.map fun k => kV k.k) us → Paired KyV ks us
  | [], _, .nil => .nil
  | .inl i :: ks, _, .cons r t => by
    obtain ⟨u, rfl⟩ := r
    exact .cons (.int i u) (kys_paired t)
  | .inr i :: ks, _, .cons r t => by
    obtain ⟨u, rfl⟩ := r
    exact .cons (.str i u) (kys_paired t)
end

/-! ### len, all, any, tuple, list, int, abs, str -/
def c1 (f : D → Store → R U) : List D → Store → R U
  | [d], τ => f d τ
  | _, _ => .bad
def c2 (f : D → D → Store → R U) : List D → Store → R U
  | [d, e], τ => f d e τ
  | _, _ => .bad
@[simp] theorem c1_1 (f : D → Store → R U) (d : D) (τ : Store) : c1 f [d] τ = f d τ := rfl
@[simp] theorem c2_2 (f : D → D → Store → R U) (d e : D) (τ : Store) : c2 f [d, e] τ = f d e τ := rfl
def D.lsts : D → Option (List D)
  | .lst ds => some ds
  | .fl ds => some ds
  | _ => none
section
variable {X : Cx} {G : Gd}
theorem c1_s {f : D → Store → R U} {r : List V → Hp → VK → Prop} (h : ∀ (z : Z) (d : D) (τ : Store) (v : V) (W : XK) (Q : VK), Cells G z τ → RepH G z d v → Run G (RepU G) (f d τ) W z Q → r [v] z.H Q) : CallS G (c1 f) r := by
  intro z ds τ vs W Q c rs q
  match ds, rs, q with
  | [], _, q => exact q.elim
  | _ :: _ :: _, _, q => exact q.elim
  | [d], rs, q =>
    obtain ⟨v, rfl, rh⟩ := hs1 rs rfl
    exact h z d τ v W Q c rh q
theorem c2_s {f : D → D → Store → R U} {r : List V → Hp → VK → Prop} (h : ∀ (z : Z) (d e : D) (τ : Store) (v w : V) (W : XK) (Q : VK), Cells G z τ → RepH G z d v → RepH G z e w → Run G (RepU G) (f d e τ) W z Q → r [v, w] z.H Q) : CallS G (c2 f) r := by
  intro z ds τ vs W Q c rs q
  match ds, rs, q with
  | [], _, q => exact q.elim
  | [_], _, q => exact q.elim
  | _ :: _ :: _ :: _, _, q => exact q.elim
  | [d, e], rs, q =>
    obtain ⟨v, w, rfl, rh, rh'⟩ := hs2 rs rfl
    exact h z d e τ v w W Q c rh rh' q
theorem RepH.lsts_ {z : Z} {τ : Store} {v : V} {d : D} {ds : List D} (c : Cells G z τ) (r : RepH G z d v) (e : d.lsts = some ds) : ∃ a vs, v = .ref a ∧ SqL G.K z.H a vs ∧ Reps G z.S ds vs := by
  cases d with
  | lst xs =>
    cases e
    obtain ⟨a, vs, h1, h2, h3⟩ := r.lst_ c
    exact ⟨a, vs, h1, SqL.of h2, h3⟩
  | fl xs =>
    cases e
    exact r.fl_ c
  | _ => cases e
theorem call_len' : CallR X (.builtin "len") (rLen X.K) := CallR.or call_len call_lenD
def fLen : D → Store → R U
  | .str t, τ => if t.length ≤ sizeLine then .ok (.d (.int t.length)) τ else .bad
  | d, τ => match d.seq with
    | some ds => .ok (.d (.int ds.length)) τ
    | none => .bad
theorem c_len : CallS G (c1 fLen) (rLen G.K) := c1_s fun z d τ v W Q c rh q => by
  have gen : Run G (RepU G) (match d.seq with
    | some ds => .ok (.d (.int ds.length)) τ
    | none => .bad) W z Q → rLen G.K [v] z.H Q := by
    intro q
    cases e : d.seq with
    | none => rw [e] at q; exact q.elim
    | some es =>
      rw [e] at q
      obtain ⟨p, ws, rfl, h1, h2⟩ := rh.seq_ c e
      refine .inl ⟨_, ws.length, rfl, ?_, by rw [← h2.length]; exact Run.ok (rep := RepU G) q c (.d (.int _))⟩
      rcases h1 with h1 | h1
      · exact .inl ⟨ws, h1, rfl⟩
      · exact .inr ⟨ws, h1, rfl⟩
  cases d with
  | str t =>
    rw [rh.str_]
    have q : Run G (RepU G) (if t.length ≤ sizeLine then .ok (.d (.int t.length)) τ else .bad) W z Q := q
    by_cases h : t.length ≤ sizeLine
    · rw [if_pos h] at q
      exact .inl ⟨_, _, rfl, ⟨by rw [T.len]; exact h, (T.len t).symm⟩, Run.ok (rep := RepU G) q c (.d (.int _))⟩
    · rw [if_neg h] at q; exact q.elim
  | _ => exact gen q
def fBls (f : List Bool → Bool) (d : D) (τ : Store) : R U := match d.lsts with
  | some ds => match blsOf ds with
    | some bs => .ok (.d (.bl (f bs))) τ
    | none => .bad
  | none => .bad
theorem bls_s {f : List Bool → Bool} : CallS G (c1 (fBls f)) (fun vs H Q => ∃ (a : Addr) (bs : List Bool), vs = [V.ref a] ∧ SqL G.K H a (bs.map V.bl) ∧ Q (.bl (f bs)) H) := c1_s fun z d τ v W Q c rh q => by
  unfold fBls at q
  cases e : d.lsts with
  | none => rw [e] at q; exact q.elim
  | some ds =>
    rw [e] at q
    simp only at q
    cases e2 : blsOf ds with
    | none => rw [e2] at q; exact q.elim
    | some bs =>
      rw [e2] at q
      obtain ⟨a, vs, rfl, h1, h2⟩ := rh.lsts_ c e
      rw [bls_eq e2] at h2
      rw [reps_bl_inv h2] at h1
      exact ⟨a, bs, rfl, h1, Run.ok (rep := RepU G) q c (.d (.bl _))⟩
theorem c_all : CallS G (c1 (fBls fun bs => bs.all id)) (rAll G.K) := bls_s
theorem c_any : CallS G (c1 (fBls fun bs => bs.any id)) (rAny G.K) := bls_s
def fTuple : D → Store → R U
  | .tup ds, τ => .ok (.d (.tup ds)) τ
  | d, τ => match d.lsts with
    | some ds => .ok (.d (.tup ds)) τ
    | none => .bad
def rTup (K : PySem.W.Frag) : List V → Hp → VK → Prop := fun xs H Q => ∃ p ys, xs = [.ref p] ∧ ((SqL K H p ys ∧ ∀ l, H l = none → Q (.ref l) (upd H l (.tup ys))) ∨ (SqT K H p ys ∧ Q (.ref p) H))
theorem c_tuple : CallS G (c1 fTuple) (rTup G.K) := c1_s fun z d τ v W Q c rh q => by
  have gen : Run G (RepU G) (match d.lsts with
    | some ds => .ok (.d (.tup ds)) τ
    | none => .bad) W z Q → rTup G.K [v] z.H Q := by
    intro q
    cases e : d.lsts with
    | none => rw [e] at q; exact q.elim
    | some ds =>
      rw [e] at q
      obtain ⟨a, vs, rfl, h1, h2⟩ := rh.lsts_ c e
      exact ⟨a, vs, rfl, .inl ⟨h1, fun l hl => alloc_tup c hl h2 q⟩⟩
  cases d with
  | tup ds =>
    obtain ⟨a, vs, rfl, h1, h2⟩ := rh.tup_ c
    refine ⟨a, vs, rfl, .inr ⟨h1, Run.ok (rep := RepU G) q c (.d ?_)⟩⟩
    cases rh with
    | sh h => exact h
  | _ => exact gen q
def fList (own : Bool) (d : D) (τ : Store) : R U := match d.seq with
  | some ds => allocL own ds τ
  | none => .bad
theorem c_list {own : Bool} : CallS G (c1 (fList own)) (fun xs H Q => ∃ p ys, xs = [.ref p] ∧ (SqL G.K H p ys ∨ SqT G.K H p ys) ∧ ∀ l, H l = none → Q (.ref l) (upd H l (.lst ys))) := c1_s fun z d τ v W Q c rh q => by
  unfold fList at q
  cases e : d.seq with
  | none => rw [e] at q; exact q.elim
  | some ds =>
    rw [e] at q
    obtain ⟨p, ws, rfl, h1, h2⟩ := rh.seq_ c e
    exact ⟨p, ws, rfl, h1, fun l hl => alloc_lst c hl h2 q⟩
theorem RepH.bl_' {z : Z} {v : V} {b : Bool} (r : RepH G z (.bl b) v) : v = .bl b := by cases r with | sh h => cases h; rfl
def fInt : D → Store → R U
  | .int i, τ => .ok (.d (.int i)) τ
  | .bl b, τ => .ok (.d (.int (if b then 1 else 0))) τ
  | _, _ => .bad
theorem c_int : CallS G (c1 fInt) (fun xs H Q => (∃ i, xs = [.int i] ∧ Q (.int i) H) ∨ ∃ k, xs = [.bl k] ∧ Q (.int (if k then 1 else 0)) H) := c1_s fun z d τ v W Q c rh q => by
  cases d with
  | int i => rw [rh.int_]; exact .inl ⟨i, rfl, Run.ok (rep := RepU G) q c (.d (.int _))⟩
  | bl b => rw [rh.bl_']; exact .inr ⟨b, rfl, Run.ok (rep := RepU G) q c (.d (.int _))⟩
  | _ => exact q.elim
def fAbs : D → Store → R U
  | .int i, τ => .ok (.d (.int (if i < 0 then -i else i))) τ
  | _, _ => .bad
theorem c_abs : CallS G (c1 fAbs) (fun xs H Q => ∃ i, xs = [.int i] ∧ Q (.int (if i < 0 then -i else i)) H) := c1_s fun z d τ v W Q c rh q => by
  cases d with
  | int i => rw [rh.int_]; exact ⟨i, rfl, Run.ok (rep := RepU G) q c (.d (.int _))⟩
  | _ => exact q.elim
end

/-! ### isinstance -/
/-- a type, also that of a dict with an odd key -/
inductive TyY (K : PySem.W.Frag) (H : Hp) : V → Value → Prop where
  | x {x : V} {t : Value} (h : TyX K H x t) : TyY K H x t
  | odd {a : Addr} {o : Obj} {w : World} {ps : List (Key × V)} {v : V} (e : H a = some (.frz o (oddO w a ps v))) : TyY K H (.ref a) (.type "dict")
def rIsiY (K : PySem.W.Frag) : List V → Hp → VK → Prop := fun xs H Q => ∃ (x c : V) (t u : Value) (b : Bool), xs = [x, c] ∧ ClsV c u ∧ TyY K H x t ∧ PySem.W.kitOne K t u = some b ∧ Q (.bl b) H
theorem call_isiY {X : Cx} : CallR X (.builtin "isinstance") (rIsiY X.K) := by
  intro pins s σ H xs us Q I r h
  obtain ⟨x, c, t, u, b, rfl, k, ty, e, q⟩ := h
  cases ty with
  | x ty => exact call_isi pins s σ H _ _ Q I r ⟨x, c, t, u, b, rfl, k, ty, e, q⟩
  | odd eH =>
    obtain ⟨u1, u2, rfl, r1, r2⟩ := vals2 r
    have e2 := k.eq r2
    subst e2
    cases (show u1 = Value.ref _ from r1)
    obtain ⟨h1, ⟨o, es, ep, xs, u, hs, t, h2, h3, _⟩, _⟩ := I.hok _ _ eH
    exact PySem.W.kia_one PySem.W.kitx_dict I.kIn ⟨_, h2, h3.1⟩ e (fun z => nomatch z) fun tk => ⟨.bl b, H, I.tok tk, rfl, q⟩
def D.ty : D → Option String
  | .non => some "NoneType" | .bl _ => some "bool" | .int _ => some "int" | .str _ => some "str"
  | .tup _ => some "tuple" | .tpl _ => some "tuple" | .lst _ => some "list" | .fl _ => some "list" | .dct _ => some "dict" | .dcx _ _ => some "dict"
  | _ => none
def isTy (a b : String) : Bool := a == b || (a == "bool" && b == "int")
def eIsi (T : String) (f : EV) : EV := fun ρ τ => (f ρ τ).bind fun u τ1 => match vw τ1 u with
  | some d => match d.ty with
    | some a => .ok (.d (.bl (isTy a T))) τ1
    | none => .bad
  | none => .bad
section
variable {G : Gd} {z : Z} {τ : Store}
/-- one of the types that isinstance is asked for here -/
def KitT (T : String) : Prop := ∀ a, a ∈ ["NoneType", "bool", "int", "str", "tuple", "list", "dict"] → kitB a T = some (isTy a T)
theorem kit_str : KitT "str" := fun a h => by
  simp only [List.mem_cons, List.not_mem_nil, or_false] at h
  rcases h with rfl | rfl | rfl | rfl | rfl | rfl | rfl <;> decide +kernel
theorem kit_int : KitT "int" := fun a h => by
  simp only [List.mem_cons, List.not_mem_nil, or_false] at h
  rcases h with rfl | rfl | rfl | rfl | rfl | rfl | rfl <;> decide +kernel
theorem kit_bool : KitT "bool" := fun a h => by
  simp only [List.mem_cons, List.not_mem_nil, or_false] at h
  rcases h with rfl | rfl | rfl | rfl | rfl | rfl | rfl <;> decide +kernel
theorem kit_tuple : KitT "tuple" := fun a h => by
  simp only [List.mem_cons, List.not_mem_nil, or_false] at h
  rcases h with rfl | rfl | rfl | rfl | rfl | rfl | rfl <;> decide +kernel
theorem kit_list : KitT "list" := fun a h => by
  simp only [List.mem_cons, List.not_mem_nil, or_false] at h
  rcases h with rfl | rfl | rfl | rfl | rfl | rfl | rfl <;> decide +kernel
theorem kit_dict : KitT "dict" := fun a h => by
  simp only [List.mem_cons, List.not_mem_nil, or_false] at h
  rcases h with rfl | rfl | rfl | rfl | rfl | rfl | rfl <;> decide +kernel
theorem ty_v {d : D} {v : V} {a : String} (c : Cells G z τ) (r : RepH G z d v) (e : d.ty = some a) : TyY G.K z.H v (.type a) ∧ a ∈ ["NoneType", "bool", "int", "str", "tuple", "list", "dict"] := by
  cases r with
  | lst h1 h2 => cases e; exact ⟨.x (.base (.lst h1)), by simp⟩
  | dct h1 h2 => cases e; exact ⟨.x (.base (.dK h1)), by simp⟩
  | ins h1 h2 => cases e
  | sh h =>
    cases h with
    | non => cases e; exact ⟨.x (.base .non), by simp⟩
    | bl b => cases e; exact ⟨.x (.base (.bl b)), by simp⟩
    | int i => cases e; exact ⟨.x (.base (.int i)), by simp⟩
    | str s => cases e; exact ⟨.x (.base (.str _)), by simp⟩
    | tup h1 h2 =>
      cases e
      refine ⟨?_, by simp⟩
      rcases sqT_mono c.sub h1 with h | ⟨o, _, _, h, hc, _⟩
      · rcases h with h | ⟨o, h⟩
        · exact .x (.base (.tup h))
        · exact .x (.fTuple h)
      · exact .x (.kTuple h hc)
    | tpl h1 _ h2 => cases e; exact ⟨.x (.fTuple (c.sub _ _ h1)), by simp⟩
    | lst h1 h2 => cases e; exact ⟨.x (.base (.lst (c.sub _ _ h1))), by simp⟩
    | fl h1 h2 =>
      cases e
      refine ⟨?_, by simp⟩
      rcases sqL_mono c.sub h1 with h | ⟨o, _, _, h, hc, _⟩
      · rcases h with h | ⟨o, h⟩
        · exact .x (.base (.lst h))
        · exact .x (.base (.frz h))
      · exact .x (.kList h hc)
    | dct h1 h2 => cases e; exact ⟨.x (.fDict (c.sub _ _ h1)), by simp⟩
    | dcu h1 h2 => cases e
    | dcx h1 h2 h3 => cases e; exact ⟨.odd (c.sub _ _ h1), by simp⟩
    | ins h1 h2 => cases e
    | cls c => cases e
    | exn h1 h2 h3 => cases e
end
section
variable {X : Cx} {G : Gd} {W : WX} {e o : Expr} {es : List Expr} {f fo : EV} {fs : EL} {pos p p2 apos cpos : Pos}
theorem pe_bty {T : String} {y : Str} (hg : Gl X y) (hm : X.mg y = none) (hv : bootBuiltins y = some (.type T)) (hn : y ≠ "__name__" := by decide) (hdb : (y == ("__debug__" : Str)) = false := by decide) : PE X (.Name y p) (tC (.ty T)) :=
  ⟨fun _ _ _ H _ I h => ld_blt I hg hm hv ⟨.ty T, H, I, rfl, h⟩ hn hdb⟩
theorem v_isi {T : String} {y : Str} (hT : KitT T) (hK : X.K = G.K) (hg : Gl X "isinstance") (hm : X.mg "isinstance" = none) (hg2 : Gl X y) (hm2 : X.mg y = none) (hy : bootBuiltins y = some (.type T)) (he : PE X e (VE G W f)) (hn : y ≠ "__name__" := by decide) (hdb : (y == ("__debug__" : Str)) = false := by decide)
    (h1 : starEach (e :: [.Name y p2]) X.env = (false, eval e X.env) :: starEach [.Name y p2] X.env := by rfl) (hpl : (backTo pos (starEach [.Name y p2] X.env)).any (·.1) = false := by rfl) (h2 : starEach [.Name y p2] X.env = (false, eval (.Name y p2) X.env) :: starEach [] X.env := by rfl) :
    PE X (.Call (.Name "isinstance" p) [e, .Name y p2] [] pos) (VE G W (eIsi T f)) := by
  have hy2 : PE X (.Name y p2) (tC (.ty T)) := pe_bty hg2 hm2 hy hn hdb
  refine pe_weak (pe_callB (r := rIsiY X.K) call_isiY hg hm rfl (pa_cons he (pa_cons hy2 pa_nil h2) h1) (by decide) (by decide) h1 hpl) fun σ H Q ⟨z, ρ, τ, hz, c, en, q⟩ => ⟨z, ρ, τ, hz, c, en, (Run.bind q).imp fun v H1 ⟨z1, u, τ1, e1, f1, c1, r1, q1⟩ => ?_⟩
  subst e1
  cases e2 : vw τ1 u with
  | none => rw [e2] at q1; exact q1.elim
  | some d =>
    rw [e2] at q1
    simp only at q1
    cases e3 : d.ty with
    | none => rw [e3] at q1; exact q1.elim
    | some a =>
      rw [e3] at q1
      obtain ⟨t1, t2⟩ := ty_v c1 (vw_rep c1 r1 e2) e3
      exact ⟨v, .ty T, _, _, isTy a T, rfl, .ty T, hK ▸ t1, kit_ty (hT a t2), Run.ok (rep := RepU G) q1 c1 (.d (.bl _))⟩
end

/-! ### repr -/
def showT (x : PyData) : T := x.shown.cps.toList
def fRepr (d : D) (τ : Store) : R U := match d with
  | .lst _ => rp d τ
  | .tup _ => rp d τ
  | _ => .bad
where rp (d : D) (τ : Store) : R U := match d.py with
  | some x => if x.showable = true ∧ x.hasDict = false ∧ x.depth ≤ 30 ∧ x.shown.length ≤ sizeLine then .ok (.d (.str (showT x))) τ else .bad
  | none => .bad
def rRepr (K : PySem.W.Frag) : List V → Hp → VK → Prop := fun xs H Q => ∃ (p : Addr) (x : PyData), xs = [.ref p] ∧ Dp K H (.ref p) x ∧ x.showable = true ∧ x.hasDict = false ∧ x.depth ≤ 30 ∧ x.shown.length ≤ sizeLine ∧ Q (.str x.shown) H
theorem call_repr {X : Cx} (hg : X.A.guards = some []) (hu : X.A.units + 64 < cLine) : CallR X (.builtin "repr") (rRepr X.K) := by
  intro pins s σ H xs us Q I r h
  obtain ⟨p, x, rfl, hd, h1, h2, h3, h4, q⟩ := h
  obtain ⟨u, rfl, ru⟩ := vals1 r
  obtain rfl : u = Value.ref p := ru
  obtain ⟨as, hr⟩ := Dp.reads I x _ _ hd (show RelV (.ref p) (.ref p) from rfl)
  exact PySem.repr_of_reads' hr h1 (fun z => absurd z (by rw [h2]; decide)) hg (by omega) (fun _ _ e => e) (fun h' u tk kp => ⟨.str x.shown, H, I.kept kp, ⟨u, rfl⟩, q⟩) h4
theorem c_repr {G : Gd} : CallS G (c1 fRepr) (rRepr G.K) := c1_s fun z d τ v W Q c rh q => by
  have gen : (∃ p, v = .ref p) → Run G (RepU G) (fRepr.rp d τ) W z Q → rRepr G.K [v] z.H Q := by
    rintro ⟨p, rfl⟩ q
    unfold fRepr.rp at q
    cases e : d.py with
    | none => rw [e] at q; exact q.elim
    | some x =>
      rw [e] at q
      have q : Run G (RepU G) (if x.showable = true ∧ x.hasDict = false ∧ x.depth ≤ 30 ∧ x.shown.length ≤ sizeLine then .ok (.d (.str (showT x))) τ else .bad) W z Q := q
      by_cases h : x.showable = true ∧ x.hasDict = false ∧ x.depth ≤ 30 ∧ x.shown.length ≤ sizeLine
      · rw [if_pos h] at q
        refine ⟨p, x, rfl, rh.dp_ c e, h.1, h.2.1, h.2.2.1, h.2.2.2, ?_⟩
        have e2 : T.s (showT x) = x.shown := T.of x.shown
        rw [← e2]
        exact Run.ok (rep := RepU G) q c (.d (.str _))
      · rw [if_neg h] at q; exact q.elim
  cases d with
  | lst ds =>
    obtain ⟨p, vs, e, _⟩ := rh.lst_ c
    exact gen ⟨p, e⟩ q
  | tup ds =>
    obtain ⟨p, vs, e, _⟩ := rh.tup_ c
    exact gen ⟨p, e⟩ q
  | _ => exact q.elim

/-! ### methods -/
/-- a method that changes nothing: by data -/
def MtS (G : Gd) (T : String) (g : D → List D → Store → R U) (r : V → List V → Hp → VK → Prop) : Prop :=
  ∀ (z : Z) (d : D) (ds : List D) (τ : Store) (v : V) (vs : List V) (W : XK) (Q : VK), Cells G z τ → RepH G z d v → RepHs G z ds vs → Run G (RepU G) (g d ds τ) W z Q → r v vs z.H Q
def tyD (T : String) : D → Bool
  | .str _ => T == "str"
  | .int _ => T == "int"
  | .lst _ => T == "list"
  | .fl _ => T == "list"
  | .dct _ => false
  | _ => false
def gMt (T : String) (g : D → List D → Store → R U) (u : U) (us : List U) (τ : Store) : R U := match vw τ u, vws τ us with
  | some d, some ds => g d ds τ
  | _, _ => .bad
def eMt (T : String) (g : D → List D → Store → R U) (fo : EV) (fs : EL) : EV := fun ρ τ => (fo ρ τ).bind fun u τ1 => match vw τ1 u with
  | some d => if tyD T d = true then (fs ρ τ1).bind fun us τ2 => gMt T g u us τ2 else .bad
  | none => .bad
theorem tyV_d {G : Gd} {z : Z} {τ : Store} {T : String} {d : D} {v : V} (c : Cells G z τ) (r : RepH G z d v) (h : tyD T d = true) : tyV G.K T v z.H := by
  cases d with
  | str t => rw [r.str_]; exact beq_iff_eq.mp h
  | int t => rw [r.int_]; exact beq_iff_eq.mp h
  | lst ds => obtain ⟨p, vs, rfl, h1, _⟩ := r.lst_ c; exact .inl ⟨beq_iff_eq.mp h, vs, SqL.of h1⟩
  | fl ds => obtain ⟨p, vs, rfl, h1, _⟩ := r.fl_ c; exact .inl ⟨beq_iff_eq.mp h, vs, h1⟩
  | _ => exact absurd h Bool.false_ne_true
section
variable {X : Cx} {G : Gd} {W : WX} {e o : Expr} {es : List Expr} {f fo : EV} {fs : EL} {pos p p2 apos cpos : Pos} {T id : String} {name : Str} {g : D → List D → Store → R U} {r : V → List V → Hp → VK → Prop}
theorem v_mt (pa : PlainAttrs T) (slot : Slot T name id) (hty : typeOf (.builtin id) = pure (.type "method_descriptor")) (hK : X.K = G.K) (hm : MtR X id r) (hs : MtS G T g r) (ho : PE X o (VE G W fo)) (ha : PA X (e :: es) (VA G W fs))
    (hbase : attributeBase o name X.env (eval o X.env) = eval o X.env := by rfl)
    (hfew : ((backTo cpos (starEach (e :: es) X.env)).all (fun x => !x.1) && (backToKw cpos (keywordEach [] X.env)).all (fun x => x.1.isSome)
      && decide ((e :: es).length + ([] : List Keyword).length + (if ([] : List Keyword).isEmpty then 0 else 1) < 30)) = true := by rfl)
    (hline : (apos.endLine == cpos.line) = true := by rfl) (h1 : starEach (e :: es) X.env = (false, eval e X.env) :: starEach es X.env := by rfl) (hpl : (backTo cpos (starEach es X.env)).any (·.1) = false := by rfl) :
    PE X (.Call (.Attribute o name apos) (e :: es) [] cpos) (VE G W (eMt T g fo fs)) := by
  refine pe_weak (pe_bm pa slot hty hm ho ha hbase hfew hline h1 hpl) fun σ H Q ⟨z, ρ, τ, hz, c, en, q⟩ => ⟨z, ρ, τ, hz, c, en, (Run.bind q).imp fun v H1 ⟨z1, u, τ1, e1, f1, c1, r1, q1⟩ => ?_⟩
  subst e1
  cases e2 : vw τ1 u with
  | none => rw [e2] at q1; exact q1.elim
  | some d =>
    rw [e2] at q1
    have q1 : Run G (RepU G) (if tyD T d = true then (fs ρ τ1).bind fun us τ2 => gMt T g u us τ2 else .bad) _ z1 Q := q1
    by_cases h : tyD T d = true
    · rw [if_pos h] at q1
      refine ⟨hK ▸ tyV_d c1 (vw_rep c1 r1 e2) h, z1, ρ, τ1, rfl, c1, en.fut f1, (Run.bind q1).imp fun vs H2 ⟨z2, us, τ2, e3, f2, c2, r2, q2⟩ => ?_⟩
      subst e3
      unfold gMt at q2
      cases e4 : vw τ2 u with
      | none => rw [e4] at q2; exact q2.elim
      | some d2 =>
        cases e5 : vws τ2 us with
        | none => rw [e4, e5] at q2; exact q2.elim
        | some ds =>
          rw [e4, e5] at q2
          exact hs z2 d2 ds τ2 v vs _ Q c2 (vw_rep c2 (r1.fut f2) e4) (vws_rep c2 r2 e5) q2
    · rw [if_neg h] at q1; exact q1.elim
end

/-! ### split, join -/
theorem tls_s (ts : List T) : (ts.map T.s).map TL.tl = ts := by
  induction ts with
  | nil => rfl
  | cons t ts ih => rw [List.map_cons, List.map_cons, ih]; rfl
theorem split_s {a b : T} (hb : b ≠ []) (hk : b.all (· < 256) = true) : Txt.split a.s b.s = (TL.spl b 0 [] a).map T.s :=
  TL.map_tl_inj ((TL.split_spl a.s b.s hb (TL.kind_ok (by rw [← Array.all_toList]; exact hk))).trans (tls_s _).symm)
theorem join_s (b : T) (ts : List T) : Txt.join b.s (ts.map T.s) = T.s (TL.joinL b ts) := by
  refine TL.ext_tl ?_
  rw [TL.join_eq, TL.tl_join, tls_s]
  rfl
def mSplit : D → List D → Store → R U
  | .str a, [.str b], τ => if b ≠ [] ∧ b.all (· < 256) = true ∧ a.length + 2 ≤ sizeLine then .ok (.d (.lst ((TL.spl b 0 [] a).map .str))) τ else .bad
  | _, _, _ => .bad
def mJoin : D → List D → Store → R U
  | .str a, [d], τ => match d.seq with
    | some ds => match strsOf ds with
      | some ts => if (ts.map (·.length)).sum + ts.length * a.length ≤ 16777216 then .ok (.d (.str (TL.joinL a ts))) τ else .bad
      | none => .bad
    | none => .bad
  | _, _, _ => .bad
theorem lens_s (ts : List T) : (ts.map T.s).map (·.length) = ts.map (·.length) := by
  rw [List.map_map]
  exact List.map_congr_left fun t _ => T.len t
section
variable {X : Cx} {G : Gd} {W : WX} {e o : Expr} {es : List Expr} {f fo : EV} {fs : EL} {pos p p2 apos cpos : Pos}
theorem m_split : MtS G "str" mSplit (fun x xs H Q => ∃ a b, x = .str a ∧ xs = [.str b] ∧ (b.length == 0) = false ∧ a.length + 2 ≤ sizeLine ∧ rNewStrs (Txt.split a b) H Q) := by
  intro z d ds τ v vs W Q c r rs q
  match d, ds, r, rs, q with
  | .str a, [.str b], r, rs, q =>
    obtain ⟨w, rfl, rw'⟩ := hs1 rs rfl
    rw [r.str_, rw'.str_]
    have q : Run G (RepU G) (if b ≠ [] ∧ b.all (· < 256) = true ∧ a.length + 2 ≤ sizeLine then .ok (.d (.lst ((TL.spl b 0 [] a).map .str))) τ else .bad) W z Q := q
    by_cases h : b ≠ [] ∧ b.all (· < 256) = true ∧ a.length + 2 ≤ sizeLine
    · rw [if_pos h] at q
      refine ⟨_, _, rfl, rfl, ?_, by rw [T.len]; exact h.2.2, fun p hp => ?_⟩
      · rw [T.len]
        cases b with
        | nil => exact absurd rfl h.1
        | cons _ _ => rfl
      · rw [split_s h.1 h.2.1]
        exact alloc_lst (own := false) c hp (reps_strs _) q
    · rw [if_neg h] at q; exact q.elim
theorem m_join : MtS G "str" mJoin (fun x xs H Q => ∃ a p, ∃ ys : List Str, x = .str a ∧ xs = [.ref p] ∧ (SqL G.K H p (ys.map V.str) ∨ SqT G.K H p (ys.map V.str)) ∧ (ys.map (·.length)).sum + ys.length * a.length ≤ 16777216 ∧ Q (.str (Txt.join a ys)) H) := by
  intro z d ds τ v vs W Q c r rs q
  match d, ds, r, rs, q with
  | .str a, [y], r, rs, q =>
    obtain ⟨w, rfl, rw'⟩ := hs1 rs rfl
    rw [r.str_]
    simp only [mJoin] at q
    cases e : y.seq with
    | none => rw [e] at q; exact q.elim
    | some es =>
      rw [e] at q
      simp only at q
      cases e2 : strsOf es with
      | none => rw [e2] at q; exact q.elim
      | some ts =>
        rw [e2] at q
        have q : Run G (RepU G) (if (ts.map (·.length)).sum + ts.length * a.length ≤ 16777216 then .ok (.d (.str (TL.joinL a ts))) τ else .bad) W z Q := q
        by_cases h : (ts.map (·.length)).sum + ts.length * a.length ≤ 16777216
        · rw [if_pos h] at q
          obtain ⟨p, ws, rfl, h1, h2⟩ := rw'.seq_ c e
          rw [strs_eq e2] at h2
          rw [reps_str_inv h2] at h1
          refine ⟨_, p, ts.map T.s, rfl, rfl, h1, by rw [lens_s, List.length_map, T.len]; exact h, ?_⟩
          rw [join_s]
          exact Run.ok (rep := RepU G) q c (.d (.str _))
        · rw [if_neg h] at q; exact q.elim
theorem v_split (hK : X.K = G.K) (ho : PE X o (VE G W fo)) (ha : PA X [e] (VA G W fs)) (hbase : attributeBase o "split" X.env (eval o X.env) = eval o X.env := by rfl)
    (hfew : ((backTo cpos (starEach [e] X.env)).all (fun x => !x.1) && (backToKw cpos (keywordEach [] X.env)).all (fun x => x.1.isSome)
      && decide ([e].length + ([] : List Keyword).length + (if ([] : List Keyword).isEmpty then 0 else 1) < 30)) = true := by rfl)
    (hline : (apos.endLine == cpos.line) = true := by rfl) (h1 : starEach [e] X.env = (false, eval e X.env) :: starEach [] X.env := by rfl) (hpl : (backTo cpos (starEach [] X.env)).any (·.1) = false := by rfl) :
    PE X (.Call (.Attribute o "split" apos) [e] [] cpos) (VE G W (eMt "str" mSplit fo fs)) := v_mt F.plainAttrs_str F.slot_str_split F.type_str_split hK mt_split m_split ho ha hbase hfew hline h1 hpl
theorem v_join (hK : X.K = G.K) (ho : PE X o (VE G W fo)) (ha : PA X [e] (VA G W fs)) (hbase : attributeBase o "join" X.env (eval o X.env) = eval o X.env := by rfl)
    (hfew : ((backTo cpos (starEach [e] X.env)).all (fun x => !x.1) && (backToKw cpos (keywordEach [] X.env)).all (fun x => x.1.isSome)
      && decide ([e].length + ([] : List Keyword).length + (if ([] : List Keyword).isEmpty then 0 else 1) < 30)) = true := by rfl)
    (hline : (apos.endLine == cpos.line) = true := by rfl) (h1 : starEach [e] X.env = (false, eval e X.env) :: starEach [] X.env := by rfl) (hpl : (backTo cpos (starEach [] X.env)).any (·.1) = false := by rfl) :
    PE X (.Call (.Attribute o "join" apos) [e] [] cpos) (VE G W (eMt "str" mJoin fo fs)) := v_mt F.plainAttrs_str F.slot_str_join F.type_str_join hK (hK ▸ mt_join) m_join ho ha hbase hfew hline h1 hpl
end

/-! ### sorted of a list -/
def fSorted (own : Bool) (d : D) (τ : Store) : R U := match d.lsts with
  | some ds => if ds.length ≤ sizeLine then match intsOf ds with
    | some ns => allocL own ((srt ns).map .int) τ
    | none => match strsOf ds with
      | some ts => allocL own ((srt ts).map .str) τ
      | none => match tupsOf ds with
        | some ks => match ks.map form with
          | [] => .bad
          | f :: fs => if f ≠ [] ∧ fs.all (· == f) = true then allocL own ((srt ks).map fun k => .tup (k.map Ky.d)) τ else .bad
        | none => .bad
    else .bad
  | none => .bad
def rSortD (K : PySem.W.Frag) : List V → Hp → VK → Prop := fun vs H Q => ∃ (a : Addr) (xs : List V), vs = [V.ref a] ∧ SqL K H a xs ∧ ((∃ ns : List Int, xs = ns.map V.int ∧ ∀ p, H p = none → Q (.ref p) (upd H p (.lst ((srt ns).map V.int)))) ∨
  (∃ ts : List T, xs = (ts.map T.s).map V.str ∧ ∀ p, H p = none → Q (.ref p) (upd H p (.lst (((srt ts).map T.s).map V.str)))) ∨
  ∃ (ks : List (List Ky)) (b : Bool) (f : List Bool), Paired (fun x k => ∃ t, x = V.ref t ∧ SqT K H t (k.map fun k => kV k.k)) xs ks ∧ (∀ k ∈ ks, form k = b :: f) ∧
    ∀ zs : List (V × List Ky), zs.Perm (xs.zip ks) → zs.map (·.2) = srt ks → ∀ p, H p = none → Q (.ref p) (upd H p (.lst (zs.map (·.1)))))
section
variable {X : Cx} {G : Gd}
theorem tk_of {pins : List (Addr × Obj)} {σ : L2.St} {H : Hp} {s : Shared} (I : Inv X pins σ H s) {t : Addr} {k : List Ky} (h : SqT X.K H t (k.map fun k => kV k.k)) : IsTK s.heap (.ref t) k := by
  obtain ⟨its, r, ⟨o, ho, hc, n, hd⟩, _⟩ := I.tuple h
  exact ⟨t, o, its, n, rfl, ho, hc, hd, kys_paired r⟩
theorem backs : ∀ {xs : List V} {its : List Value} {ks : List (List Ky)} {R : V → List Ky → Prop}, Vals xs its → Paired R xs ks → (∀ x k, R x k → ∃ t, x = V.ref t) → its.map bkV = xs
  | _, _, _, _, .nil, _, _ => rfl
  | _, _, _, _, .cons r t, .cons a b, h => by
    obtain ⟨q, rfl⟩ := h _ _ a
    cases r
    rw [List.map_cons, backs t b h]
    rfl
theorem call_sortD : CallR X (.builtin "sorted") (rSortD X.K) := by
  intro pins s σ H vs us Q I r h
  obtain ⟨a, xs, rfl, hs, h⟩ := h
  obtain ⟨its, rv, hl, hz⟩ := I.list hs
  rw [Vals.ref1 r]
  have hil : its.length ≤ sizeLine := by rw [← rv.length]; exact hz
  have fin : ∀ (out : List Value) (ys : List V), Vals ys out → ys.length ≤ sizeLine → (∀ p, H p = none → Q (.ref p) (upd H p (.lst ys))) → EP X pins σ Q (.ref (s.heap.objs.size + 1)) { s with heap := sortedAll s.heap its out.toArray } := fun out ys rv' hy q => by
    obtain ⟨ep, he⟩ := sortedAll_at s.heap its out.toArray
    exact ⟨.ref (s.heap.objs.size + 1), upd H (s.heap.objs.size + 1) (.lst ys), I.laid (t' := s.toks) (fun _ _ => sortedAll_old) (Nat.le_succ _) ⟨hy, out, ep, rv', he⟩, rfl, q _ (I.hok.fresh (Nat.le_succ _))⟩
  rcases h with ⟨ns, rfl, q⟩ | ⟨ts, rfl, q⟩ | ⟨ks, b, f, hp, hf, q⟩
  · refine sorted_intsAny hl.isList rv.ints hil fun out ns' h1 h2 h3 => ?_
    have e : ns' = srt ns := srt_uniq h2 (h3.imp fun h => by omega)
    subst e
    have := fin out.toList _ (vals_of_ints h1) (by rw [List.length_map, (srt_perm ns).length_eq]; simpa using hz) q
    rwa [Array.toArray_toList] at this
  · refine sorted_strsAny hl.isList (strs_of_vals rv) hil fun out ys h1 h2 h3 => ?_
    have e := TxtSet.outS h2 h3
    subst e
    have := fin out.toList _ (vals_of_strs h1) (by rw [List.length_map, List.length_map, (srt_perm ts).length_eq]; simpa using hz) q
    rwa [Array.toArray_toList] at this
  · have tk : ∀ {xs : List V} {its : List Value} {ks : List (List Ky)}, Vals xs its → Paired (fun x k => ∃ t, x = V.ref t ∧ SqT X.K H t (k.map fun k => kV k.k)) xs ks →
        (∀ v ∈ its, ∃ k ∈ ks, IsTK s.heap v k) ∧ its.map (fun u => (bkV u, keyAt s.heap u)) = xs.zip ks := by
      intro xs its ks r p
      induction p generalizing its with
      | nil => cases r; exact ⟨fun v m => by simp at m, rfl⟩
      | cons h1 h2 ih =>
        cases r with
        | cons r1 r2 =>
          obtain ⟨t, rfl, ht⟩ := h1
          cases r1
          obtain ⟨i1, i2⟩ := ih r2
          have k1 := tk_of I ht
          refine ⟨fun v m => ?_, ?_⟩
          · rcases List.mem_cons.mp m with e | m
            · exact ⟨_, List.mem_cons_self, e ▸ k1⟩
            · obtain ⟨k, m1, m2⟩ := i1 v m
              exact ⟨k, List.mem_cons_of_mem _ m1, m2⟩
          · rw [List.map_cons, i2, keyAt_eq k1]
            rfl
    obtain ⟨t1, t2⟩ := tk rv hp
    refine SrtO.sorted_ord (swo_key s.heap) hl.isList hil (fun h2 h₁ a' ha kk => ?_) fun out o1 o2 => ?_
    · have e0 : ∀ v ∈ its, ∃ k, IsTK h₁ v k ∧ form k = b :: f ∧ keyAt h₁ v = keyAt s.heap v := fun v m => by
        obtain ⟨k, m1, m2⟩ := t1 v m
        have m3 := m2.keeps (h' := h₁) fun b o e _ => (kk b o e).2
        exact ⟨k, m3, hf k m1, by rw [keyAt_eq m2, keyAt_eq m3]⟩
      have e1 := tk_sortable (P := X.prog) (w := X.w) (A := X.A.in1.in1) (s := { s with heap := h₁ }) (a := a') (vs := its) (b := b) (f := f) (by omega) (fun v m => let ⟨k, q1, q2, _⟩ := e0 v m; ⟨k, q1, q2⟩) fun o e => by
        have e' : some o = some (seqObj "list" its.toArray 0) := e.symm.trans ha
        cases e'
        exact fun c => absurd (Value.type.inj c) (by decide)
      intro h' keep
      obtain ⟨κ, w1, w2⟩ := e1 h' keep
      refine ⟨κ, w1, fun p q hm hm' => ?_⟩
      have w3 := w2 p q hm hm'
      obtain ⟨_, _, _, z1⟩ := e0 _ hm
      obtain ⟨_, _, _, z2⟩ := e0 _ hm'
      have e3 : SrtO.lt2 (fun v u => decide (keyAt h₁ v < keyAt h₁ u)) p q = SrtO.lt2 (fun v u => decide (keyAt s.heap v < keyAt s.heap u)) p q := by
        show decide (keyAt h₁ p.1 < keyAt h₁ q.1) = decide (keyAt s.heap p.1 < keyAt s.heap q.1)
        rw [z1, z2]
      have e4 : SrtO.lt2 (fun v u => decide (keyAt ({ s with heap := h₁ } : Shared).heap v < keyAt ({ s with heap := h₁ } : Shared).heap u)) p q = SrtO.lt2 (fun v u => decide (keyAt h₁ v < keyAt h₁ u)) p q := rfl
      rw [e4, e3] at w3
      exact w3
    · have refs : ∀ u ∈ out, ∃ t, u = Value.ref t := fun u hu => by
        obtain ⟨k, _, a, _, _, _, e, _⟩ := t1 u (o2.perm.mem_iff.mp hu)
        exact ⟨a, e⟩
      have pz : (out.map fun u => (bkV u, keyAt s.heap u)).Perm (xs.zip ks) := by
        rw [← t2]
        exact o2.perm.map _
      have hlen : ks.length = xs.length := (paired_len hp).symm
      have hz2 : (xs.zip ks).map (·.2) = ks := by
        rw [List.map_snd_zip (by omega)]
      refine fin out _ (bkV_vals refs) ?_ fun p hp' => ?_
      · rw [List.length_map, o2.perm.length_eq]
        exact hil
      · have w := q (out.map fun u => (bkV u, keyAt s.heap u)) pz ?_ p hp'
        · rw [List.map_map] at w
          exact w
        · refine srt_uniq ?_ ?_
          · have := pz.map (·.2)
            rwa [hz2] at this
          · rw [List.map_map]
            exact List.pairwise_map.mpr (o1.imp fun h => of_decide_eq_false h)
theorem reps_of_zs {S : Hp} : ∀ {zs : List (V × List Ky)}, (∀ x ∈ zs, Rep G S (.tup (x.2.map Ky.d)) x.1) → Reps G S ((zs.map (·.2)).map fun k => .tup (k.map Ky.d)) (zs.map (·.1))
  | [], _ => .nil
  | z :: zs, h => .cons (h z List.mem_cons_self) (reps_of_zs fun x m => h x (List.mem_cons_of_mem _ m))
theorem tups_paired {z : Z} {τ : Store} (c : Cells G z τ) : ∀ {ks : List (List Ky)} {vs : List V}, Reps G z.S (ks.map fun k => .tup (k.map Ky.d)) vs → Paired (fun x k => ∃ t, x = V.ref t ∧ SqT G.K z.H t (k.map fun k => kV k.k)) vs ks ∧ ∀ x ∈ vs.zip ks, Rep G z.S (.tup (x.2.map Ky.d)) x.1
  | [], _, h => by cases h; exact ⟨.nil, fun _ m => by simp at m⟩
  | k :: ks, _, h => by
    cases h with
    | cons h1 h2 =>
      obtain ⟨i1, i2⟩ := tups_paired c h2
      have h0 := h1
      cases h1 with
      | tup s1 s2 =>
        have e := reps_ky_inv s2
        subst e
        refine ⟨.cons ⟨_, rfl, sqT_mono c.sub s1⟩ i1, fun x m => ?_⟩
        rw [List.zip_cons_cons] at m
        rcases List.mem_cons.mp m with e | m
        · rw [e]; exact h0
        · exact i2 x m
theorem c_sorted {own : Bool} : CallS G (c1 (fSorted own)) (rSortD G.K) := c1_s fun z d τ v W Q c rh q => by
  unfold fSorted at q
  cases e : d.lsts with
  | none => rw [e] at q; exact q.elim
  | some ds =>
    rw [e] at q
    simp only at q
    obtain ⟨a, vs, rfl, h1, h2⟩ := rh.lsts_ c e
    by_cases hz : ds.length ≤ sizeLine
    · rw [if_pos hz] at q
      refine ⟨a, vs, rfl, h1, ?_⟩
      cases e1 : intsOf ds with
      | some ns =>
        rw [e1] at q
        rw [ints_eq e1] at h2
        exact .inl ⟨ns, reps_int_inv h2, fun p hp => alloc_lst c hp (reps_ints _) q⟩
      | none =>
        rw [e1] at q
        simp only at q
        cases e2 : strsOf ds with
        | some ts =>
          rw [e2] at q
          rw [strs_eq e2] at h2
          exact .inr (.inl ⟨ts, reps_str_inv h2, fun p hp => alloc_lst c hp (reps_strs _) q⟩)
        | none =>
          rw [e2] at q
          simp only at q
          cases e3 : tupsOf ds with
          | none => rw [e3] at q; exact q.elim
          | some ks =>
            rw [e3] at q
            simp only at q
            cases e4 : ks.map form with
            | nil => rw [e4] at q; exact q.elim
            | cons f fs =>
              rw [e4] at q
              have q : Run G (RepU G) (if f ≠ [] ∧ fs.all (· == f) = true then allocL own ((srt ks).map fun k => .tup (k.map Ky.d)) τ else .bad) W z Q := q
              by_cases h : f ≠ [] ∧ fs.all (· == f) = true
              · rw [if_pos h] at q
                rw [tups_eq e3] at h2
                obtain ⟨p1, p2⟩ := tups_paired c h2
                obtain ⟨b, f', ef⟩ : ∃ b f', f = b :: f' := by
                  cases f with
                  | nil => exact absurd rfl h.1
                  | cons b f' => exact ⟨b, f', rfl⟩
                refine .inr (.inr ⟨ks, b, f', p1, fun k m => ?_, fun zs pz ez p hp => ?_⟩)
                · have m2 : form k ∈ ks.map form := List.mem_map_of_mem m
                  rw [e4] at m2
                  rcases List.mem_cons.mp m2 with z1 | z1
                  · rw [z1, ef]
                  · have := List.all_eq_true.mp h.2 _ z1
                    rw [beq_iff_eq.mp this, ef]
                · refine alloc_lst c hp ?_ q
                  rw [← ez]
                  exact reps_of_zs fun x m => p2 x (pz.mem_iff.mp m)
              · rw [if_neg h] at q; exact q.elim
    · rw [if_neg hz] at q; exact q.elim
end
end VL

/-! The value layer, B: sorted(set(xs)), lists that change, items that are set. -/
namespace VL
open PySem PySem.Spec PyProof.Rows L2 LamX

theorem once_len {α : Type} [DecidableEq α] : ∀ ts : List α, (once ts).length ≤ ts.length
  | [] => Nat.le_refl _
  | t :: ts => by
    have ih := once_len ts
    unfold once
    split
    · exact Nat.le_succ_of_le ih
    · exact Nat.succ_le_succ ih
/-- sorted(set(e)), texts -/
def fSortSet (own : Bool) (d : D) (τ : Store) : R U := match d.lsts with
  | some ds => match strsOf ds with
    | some ts => if ts.length < 4000 then allocL own ((setL ts).map .str) τ else .bad
    | none => .bad
  | none => .bad
def eDat (g : D → Store → R U) (f : EV) : EV := fun ρ τ => (f ρ τ).bind fun u τ1 => match vw τ1 u with
  | some d => g d τ1
  | none => .bad
section
variable {X : Cx} {G : Gd} {W : WX} {e : Expr} {f : EV} {p p2 q pos : Pos}
theorem v_sortSet {own : Bool} (hK : X.K = G.K) (hc : X.calm = true) (hg : Gl X "sorted") (hm : X.mg "sorted" = none) (hg2 : Gl X "set") (hm2 : X.mg "set" = none) (he : PE X e (VE G W f))
    (na : starEach [e] X.env = (false, eval e X.env) :: starEach [] X.env := by rfl) : PE X (.Call (.Name "sorted" p) [.Call (.Name "set" p2) [e] [] q] [] pos) (VE G W (eDat (fSortSet own) f)) := by
  refine ⟨fun pins s σ H Q I ⟨z, ρ, τ, hz, c, en, h⟩ => ?_⟩
  refine Call_ (ld_blt I hg hm (u := .builtin "sorted") rfl ?_)
  refine PyProof.Rows.callWith_builtin1 (PyProof.Rows.args_cons ?_ rfl) rfl rfl
  refine Call_ (ld_blt I hg2 hm2 (u := .type "set") rfl ?_)
  refine PyProof.Rows.callWith_type1 (PyProof.Rows.args_cons (thn (he.run pins s σ H _ I ⟨z, ρ, τ, hz, c, en, Run.bind h⟩) fun v s1 ⟨x, H1, I1, r1, q1⟩ => PyProof.Rows.args_nil ?_) na) na rfl
  obtain ⟨z1, u, τ1, e1, f1, c1, ru, q1⟩ := q1
  subst e1
  cases e2 : vw τ1 u with
  | none => rw [e2] at q1; exact q1.elim
  | some d =>
    rw [e2] at q1
    simp only [fSortSet] at q1
    cases e3 : d.lsts with
    | none => rw [e3] at q1; exact q1.elim
    | some ds =>
      rw [e3] at q1
      simp only at q1
      cases e4 : strsOf ds with
      | none => rw [e4] at q1; exact q1.elim
      | some ts =>
        rw [e4] at q1
        simp only at q1
        by_cases hl : ts.length < 4000
        · rw [if_pos hl] at q1
          obtain ⟨a, vs, rfl, h1, h2⟩ := (vw_rep c1 ru e2).lsts_ c1 e3
          rw [strs_eq e4] at h2
          rw [reps_str_inv h2] at h1
          cases r1
          rw [← hK] at h1
          obtain ⟨its, rv, pl, hz⟩ := I1.list h1
          have sb : ts.length + 1 < scanBound := by show ts.length + 1 < 4096; omega
          refine TxtSet.made (ts.map T.s) (I1.ok.hd hc) pl.isList (strs_of_vals rv) (by rw [List.length_map]; exact sb) fun h' tk hs kp => PyProof.Rows.args_nil ?_
          have I2 : Inv X pins σ z1.H { s1 with heap := h', toks := tk } := I1.kept kp
          refine TxtSet.sorted (s := { s1 with heap := h', toks := tk }) hs (I2.ok.hd hc) (by omega) fun s' p out cc k g o hp hg' hs' => ?_
          have few : (((setL ts).map T.s).map V.str).length ≤ sizeLine := by
            rw [List.length_map, List.length_map, sizeLine_eq]
            have := once_len ts
            have e5 : (setL ts).length = (once ts).length := (srt_perm _).length_eq
            omega
          have hn : z1.H p = none := I2.hok.fresh hp
          have J : Inv X pins σ (upd z1.H p (.lst (((setL ts).map T.s).map V.str))) { ({ s1 with heap := h', toks := tk } : Shared) with heap := s'.heap, gens := s'.gens, drawn := s'.drawn, toks := s'.toks } :=
            I2.call (ch := []) (Un.laid k hp hn) (I2.hok.laid k hp ⟨few, out, cc, vals_of_strs hs', hg'⟩) (by rw [g]; exact I2.bare) (fun _ z => nomatch z)
          have e6 : s' = { ({ s1 with heap := h', toks := tk } : Shared) with heap := s'.heap, gens := s'.gens, drawn := s'.drawn, toks := s'.toks } := by
            cases s'
            cases s1
            cases o
            rfl
          rw [e6]
          exact ⟨.ref p, _, J, rfl, alloc_lst c1 hn (reps_strs _) q1⟩
        · rw [if_neg hl] at q1; exact q1.elim
end

/-! ### a list that changes: append, pop, an item set -/
/-- what is laid into a cell must be data -/
def gAppend (u : U) (us : List U) (τ : Store) : R U := match u, frzs τ us with
  | .loc n, some ([x], τ1) => match τ1[n]? with
    | some (.lst ds) => if ds.length < sizeLine then .ok (.d .non) (τ1.set n (.lst (ds ++ [x]))) else .bad
    | _ => .bad
  | _, _ => .bad
def eAppend (fo : EV) (fs : EL) : EV := fun ρ τ => (fo ρ τ).bind fun u τ1 => match u with
  | .loc n => match τ1[n]? with
    | some (.lst _) => (fs ρ τ1).bind fun us τ2 => gAppend u us τ2
    | _ => .bad
  | _ => .bad
section
variable {X : Cx} {G : Gd} {W : WX} {e o : Expr} {f fo : EV} {fs : EL} {pos p p2 apos cpos : Pos}
theorem v_append (hK : X.K = G.K) (ho : PE X o (VE G W fo)) (ha : PA X [e] (VA G W fs)) (hbase : attributeBase o "append" X.env (eval o X.env) = eval o X.env := by rfl)
    (hfew : ((backTo cpos (starEach [e] X.env)).all (fun x => !x.1) && (backToKw cpos (keywordEach [] X.env)).all (fun x => x.1.isSome)
      && decide ([e].length + ([] : List Keyword).length + (if ([] : List Keyword).isEmpty then 0 else 1) < 30)) = true := by rfl)
    (hline : (apos.endLine == cpos.line) = true := by rfl) (h1 : starEach [e] X.env = (false, eval e X.env) :: starEach [] X.env := by rfl) (hpl : (backTo cpos (starEach [] X.env)).any (·.1) = false := by rfl) :
    PE X (.Call (.Attribute o "append" apos) [e] [] cpos) (VE G W (eAppend fo fs)) := by
  have hm : MtR X "list.append" rAppend := fun pins s σ H x xs v us Q I rx rs h => mt_append pins s σ H x xs v us Q I rx rs h
  refine pe_weak (pe_bm F.plainAttrs_list F.slot_list_append F.type_list_append hm ho ha hbase hfew hline h1 hpl) fun σ H Q ⟨z, ρ, τ, hz, c, en, q⟩ => ⟨z, ρ, τ, hz, c, en, (Run.bind q).imp fun v H1 ⟨z1, u, τ1, e1, f1, c1, r1, q1⟩ => ?_⟩
  subst e1
  cases u with
  | d x => exact q1.elim
  | fn => exact q1.elim
  | loc n =>
    cases r1 with
    | @loc _ a hm1 =>
      simp only at q1
      cases e2 : τ1[n]? with
      | none => rw [e2] at q1; exact q1.elim
      | some cl =>
        rw [e2] at q1
        cases cl with
        | lst ds0 =>
          obtain ⟨s0, vs0, t1, t2⟩ := c1.at_ n a _ hm1 e2
          refine ⟨.inl ⟨rfl, vs0, SqL.of t1⟩, z1, ρ, τ1, rfl, c1, en.fut f1, (Run.bind q1).imp fun vs H2 ⟨z2, us, τ2, e3, f2, c2, r2, q2⟩ => ?_⟩
          subst e3
          simp only [gAppend] at q2
          cases e4 : frzs τ2 us with
          | none => rw [e4] at q2; exact q2.elim
          | some pr =>
            obtain ⟨xs, τ3⟩ := pr
            rw [e4] at q2
            obtain ⟨z3, h3, f3, c3, rs, m3⟩ := frzs_ok c2 r2 e4
            match xs, rs, q2 with
            | [], _, q2 => exact q2.elim
            | _ :: _ :: _, _, q2 => exact q2.elim
            | [x], rs, q2 =>
              simp only at q2
              cases e5 : τ3[n]? with
              | none => rw [e5] at q2; exact q2.elim
              | some cl =>
                rw [e5] at q2
                cases cl with
                | lst ds =>
                  simp only at q2
                  by_cases hl : ds.length < sizeLine
                  · rw [if_pos hl] at q2
                    have hm3 : z3.ms[n]? = some a := pre_get (f2.trans f3).pre hm1
                    obtain ⟨s5, ws, t5, t6⟩ := c3.at_ n a _ hm3 e5
                    cases rs with
                    | @cons _ v1 _ _ rx rn =>
                      cases rn
                      rw [← h3]
                      refine ⟨a, ws, v1, rfl, rfl, t5, by rw [← t6.length]; exact hl, ?_⟩
                      have q3 := q2.pre f3
                      refine Run.ok (rep := RepU G) (q3.pre (fut_set (o' := .lst (ws ++ [v1])) t5 (List.mem_of_getElem? hm3) trivial)) (cells_set c3 hm3 t5 s5 trivial ⟨s5, _, upd_same, t6.append (.cons rx .nil)⟩) (.d .non)
                  · rw [if_neg hl] at q2; exact q2.elim
                | _ => exact q2.elim
        | _ => exact q1.elim
end
/-- o[i] = e, o a list that changes -/
def setAt (x : D) (o i : U) (ρ : Env) (τ : Store) : RS := match o, i with
  | .loc n, .d (.int k) => match τ[n]? with
    | some (.lst ds) => match ixN ds.length k with
      | some j => .nx ρ (τ.set n (.lst (ds.set j x)))
      | none => .bad
    | _ => .bad
  | _, _ => .bad
def gSetI (fo fi f : EV) : GS := fun ρ τ => liftE (f ρ τ) ρ fun u τ1 => match frz τ1 u with
  | some (x, τ2) => liftE (fo ρ τ2) ρ fun o τ3 => liftE (fi ρ τ3) ρ fun i τ4 => setAt x o i ρ τ4
  | none => .bad
section
variable {X : Cx} {G : Gd} {W : WX} {o i e : Expr} {fo fi f : EV} {pos p2 : Pos}
theorem s_setI (he : PE X e (VE G W f)) (ho : PE X o (VE G W fo)) (hi : PE X i (VE G W fi)) (hs : swapsWithSole [.Subscript o i p2] e pos.line X.env = pure false := by rfl) (hw : swappedStores [.Subscript o i p2] e X.env = pure none := by rfl)
    (h1 : (assignEach [.Subscript o i p2] X.env).map (·.2) = [assign (.Subscript o i p2) X.env] := by rfl) (ha : ∀ v, assign (.Subscript o i p2) X.env v = (do
      let ov ← holding [v] (eval o X.env)
      let iv ← holding [v, ov] (eval i X.env)
      standAt p2
      holding [v, ov, iv] (setItem ov iv v)
      release [v, ov, iv] []) := by intro _; rfl) : PS X (.Assign [.Subscript o i p2] e pos) (VS G W (gSetI fo fi f)) :=
  ps_weak (ps_asg he (pg_sub ho hi set_list ha) hs hw h1) fun D σ H ⟨z, ρ, τ, hz, c, en, q⟩ => ⟨z, ρ, τ, hz, c, en, (RunS.lift (rep := RepU G) en q).imp fun v H1 ⟨z1, u, τ1, e1, f1, c1, r1, q1⟩ => by
    subst e1
    cases e2 : frz τ1 u with
    | none => rw [e2] at q1; exact q1.elim
    | some pr =>
      obtain ⟨x, τ2⟩ := pr
      rw [e2] at q1
      simp only at q1
      obtain ⟨z2, h2, f2, c2, rx, m2⟩ := frz_ok c1 r1 e2
      have en2 := en.fut (f1.trans f2)
      rw [← h2]
      refine ⟨z2, ρ, τ2, rfl, c2, en2, (RunS.lift (rep := RepU G) en2 (RunS.pre q1 f2)).imp fun vo H3 ⟨z3, uo, τ3, e3, f3, c3, r3, q3⟩ => ?_⟩
      subst e3
      have en3 := en2.fut f3
      refine ⟨z3, ρ, τ3, rfl, c3, en3, (RunS.lift (rep := RepU G) en3 q3).imp fun vi H4 ⟨z4, ui, τ4, e4, f4, c4, r4, q4⟩ => ?_⟩
      subst e4
      have r3 := r3.fut f4
      have en4 := en3.fut f4
      match uo, ui, r3, r4, q4 with
      | .loc n, .d (.int k), .loc hm, .d hk, q4 =>
        rename_i a
        cases hk
        simp only [setAt] at q4
        cases e5 : τ4[n]? with
        | none => rw [e5] at q4; exact q4.elim
        | some cl =>
          rw [e5] at q4
          cases cl with
          | lst ds =>
            simp only at q4
            cases e6 : ixN ds.length k with
            | none => rw [e6] at q4; exact q4.elim
            | some j =>
              rw [e6] at q4
              obtain ⟨s5, ws, t5, t6⟩ := c4.at_ n _ _ hm e5
              have rx4 := Rep.mono (f3.trans f4).ss _ _ rx
              refine ⟨_, ws, k, j, rfl, rfl, t5, by rw [← t6.length]; exact e6, ?_⟩
              have ff := fut_set (o' := .lst (ws.set j v)) t5 (List.mem_of_getElem? hm) trivial
              exact q4 _ σ ff (cells_set c4 hm t5 s5 trivial ⟨s5, _, upd_same, t6.set rx4 j⟩) (en4.fut ff)
          | _ => exact q4.elim⟩
end
end VL

/-! The value layer, E: own errors whose __init__ calls super().__init__("..") and sets fields. -/
namespace VX
open PySem PySem.W PySem.Calls PyProof.Rows PySem.HandSPX
/-- self.f = f, field by field -/
inductive FB : List Str → List Stmt → Prop
  | nil : FB [] []
  | cons {f : Str} {fs : List Str} {ss : List Stmt} {q1 q2 q3 q4 : Pos} (h : FB fs ss) : FB (f :: fs) (.Assign [.Attribute (.Name "self" q1) f q2] (.Name f q3) q4 :: ss)
def iA (p0 : Pos) (ps : List (Str × Pos)) : Arguments := { posonlyargs := [], args := { arg := "self", annotation := none, pos := p0 } :: ps.map fun p => { arg := p.1, annotation := none, pos := p.2 }, vararg := none, kwonlyargs := [], kw_defaults := [], kwarg := none, defaults := [] }
def iS (fs : List Str) : Scope := { kind := .function, names := ((PySem.Str.ofString "self", .local) :: fs.map fun f => (f, .local)) ++ [(PySem.Str.ofString "__class__", .free), (PySem.Str.ofString "super", .globalImplicit)], isGenerator := false, isCoroutine := false, more := [] }
def sup (m : Str) (p1 p2 p3 p4 p5 p6 : Pos) : Stmt := .Expr (.Call (.Attribute (.Call (.Name "super" p1) [] [] p2) "__init__" p3) [.Constant (.str m) 0 p4] [] p5) p6
/-- how that call is read -/
def EvS (m : Str) (p1 p2 p3 p4 p5 : Pos) : Prop := ∀ env : Env, ∃ pl : Sem Bool, eval (.Call (.Attribute (.Call (.Name "super" p1) [] [] p2) "__init__" p3) [.Constant (.str m) 0 p4] [] p5) env = (do
  let ov ← attributeBase (.Call (.Name "super" p1) [] [] p2) "__init__" env (eval (.Call (.Name "super" p1) [] [] p2) env)
  standAt p3.atName
  let (f, first) ← holding [ov] (getMethod ov "__init__" pl)
  callWith p5 f first (backTo p5 (starEach [.Constant (.str m) 0 p4] env)) [])
/-- what the written part says of the class and of its __init__ -/
structure Txt (P : Program) (K : Frag) (mg : Str → Option Value) (x : Str) (C : Addr) (fs : List Str) : Prop where
  gC : mg x = some (.ref C)
  kC : keepIn K (.ref C) = true
  cls : ∃ nm q N bs bm sn sub ab col dd k0 k1 k2 k3 k5, K.lookup C = some (excClassObj nm q C N bs bm true sn sub ab col dd k0 k1 k2 k3 k5 "ValueError.__new__") ∧ refsVE bm = true
  sa : findIn K (.ref C) "__setattr__" = some (some (.builtin "object.__setattr__"))
  noF : ∀ f ∈ fs, findIn K (.ref C) f = some none
  exC : subIn K (.ref C) (.type "BaseException") = some true
  subV : subIn K (.ref C) (.type "ValueError") = some true
  mroC : mroIn K C (.ref C) = some true
  tyC : typeIn K (.ref C) = some (.type "type")
  hdC : hasDictIn K C = true
  sup : ks_superIn K C C "__init__" = some (some (.builtin "ValueError.__init__"))
  opq : nsIn K cStatics "thirdparty.any" = some none
  noS : mg "super" = none
  top : (P.main.scope.names.lookup ("super" : Str)).isSome = false
  fld : ∀ f ∈ fs, (iS fs).names.lookup f = some .local ∧ (f == ("__debug__" : Str)) = false ∧ f ≠ "self"
  nd : fs.Nodup
  scS : (iS fs).names.lookup (PySem.Str.ofString "super") = some .globalImplicit
  scC : (iS fs).names.lookup (PySem.Str.ofString "__class__") = some .free
  fn : ∃ (fI cda cc : Addr) (oc : Value) (od : Option Addr) (qual : Str) (doc pm : Value) (an : Option Addr) (ct : Value) (osl : Array (Option Value)) (p0 : Pos) (ps : List (Str × Pos)) (m : Str) (p1 p2 p3 p4 p5 p6 : Pos) (ss : List Stmt) (cl : Value) (cld : Option Addr) (csl : Array (Option Value))
      (ccl : Value) (cdd : Option Addr) (vs : Array Value) (ccs : Array (Option Value)) (file : Str) (tf : Tok),
    (∀ (s : Shared) (us : List Value), us.length = fs.length + 1 → BindsTo s (ksFn "__init__" qual (iA p0 ps) (VX.sup m p1 p2 p3 p4 p5 p6 :: ss) (iS fs) .none .none doc pm an (.ref cda) ct cc) ⟨us, []⟩ ((PySem.Str.ofString "self" :: fs).zip us)) ∧ EvS m p1 p2 p3 p4 p5 ∧ swapsWith (.Call (.Attribute (.Call (.Name "super" p1) [] [] p2) "__init__" p3) [.Constant (.str m) 0 p4] [] p5) none p6.line = (fun _ => pure false) ∧ FB fs ss ∧ findIn K (.ref C) "__init__" = some (some (.ref fI)) ∧ typeIn K (.ref fI) = some (.type "function") ∧
    K.lookup fI = some ⟨oc, od, .func (ksFn "__init__" qual (iA p0 ps) (VX.sup m p1 p2 p3 p4 p5 p6 :: ss) (iS fs) .none .none doc pm an (.ref cda) ct cc), osl⟩ ∧ codeIn K (.ref cda) qual = true ∧
    K.lookup cc = some ⟨cl, cld, .cell (some (.ref C)), csl⟩ ∧ K.lookup cda = some ⟨ccl, cdd, .fields vs, ccs⟩ ∧ vs[2]? = some (.str file tf) ∧ ((P.main.file : Str) == file) = true
/-- a dict's fields, the last one first -/
abbrev mF (l : List (Str × Value)) : Str → Option Value := fun y => l.lookup y
theorem mF_cons (f : Str) (v : Value) (l : List (Str × Value)) : (fun y => if y = f then some v else mF l y) = mF ((f, v) :: l) := by
  funext y
  unfold mF
  rw [List.lookup_cons]
  by_cases h : y = f
  · subst h; simp
  · rw [if_neg h, beq_eq_false_iff_ne.mpr h]
/-- what __init__ leaves of a fresh exception at x -/
structure InitEnd (h h' : Heap) (x C dx t1 : Addr) (l : List (Str × Value)) : Prop where
  keep : ∀ b o, b ≠ x → h.get? b = some o → h'.get? b = some o
  obj : h'.get? x = some { cls := .ref C, dict := some dx, data := .fields #[.ref t1, .none, .none, .none, .bool false, .none] }
  dbig : h.objs.size ≤ dx
  dne : dx ≠ x
  ns : h'.Ns1 dx (mF l)
section
variable {prog : Program} {w : World} {A : Around} {E : Value → Shared → Prop} {R : Result → Shared → Prop} {s : Shared} {K : Frag} {mg : Str → Option Value} {C : Addr}
/-- the wrapper of ValueError.__init__ at u, called -/
theorem call_mw {u x t0 : Addr} {h : Heap} {g : Array GenState} {d : Drawn} {tk : Nat} {os : OsState} {nm q : Str} {N : Addr} {bs bm : List Value} {sn : List Str} {sub : List Value} {ab : Bool} {col : Option Bool} {dd : Option Addr} {k0 k1 k2 k3 k5 : Option Value} {rest : List Value} {Q : Value → Shared → Prop}
    (hu : h.get? u = some (kxs_mw "ValueError.__init__" x)) (hx : h.get? x = some (excO C t0)) (hC : h.get? C = some (excClassObj nm q C N bs bm true sn sub ab col dd k0 k1 k2 k3 k5 "ValueError.__new__")) (hz : rest.length ≤ sizeLine)
    (hq : ∀ h' t1, (∀ b o, b ≠ x → h.get? b = some o → h'.get? b = some o) → h'.get? x = some (excO C t1) → Q .none ⟨h', g, d, tk, os⟩) : wpAny (model prog w) A (call (.ref u) rest) Q E ⟨h, g, d, tk, os⟩ := by
  refine wpAny_call (codeAny_of_tree ?_)
  show wpAny _ A.in1 (callAny (.ref u) ⟨rest, []⟩) _ _ _
  simp only [callAny]
  refine wpAny_bind (wpAny_load hu ?_)
  simp only [kxs_mw]
  refine KFB.if_so (by decide) (wpAny_bind (check_bound_init F.excBase_ValueError.toExcCallFacts hC hx rfl ?_))
  refine wpAny_bind (wpAny_pure (wpAny_pure ⟨plainId_quiet F.excBase_ValueError.init.plain _, codeAny_builtin F.excBase_ValueError.initEntry ?_⟩))
  exact exc_init_tree (cls := .ref C) (t0 := t0) (dv := none) (c2 := .none) (c3 := .none) (b4 := .bool false) hx hz fun h' k e t' => hq h' _ k e
theorem kept_but {h h' : Heap} {x : Addr} (X : K.In h) (hx : K.lookup x = none) (k : ∀ b o, b ≠ x → h.get? b = some o → h'.get? b = some o) : K.In h' := fun a o e =>
  k a o (fun z => by rw [z, hx] at e; cases e) (X a o e)
theorem not_K {h : Heap} {x : Addr} (X : K.In h) (hx : h.objs.size ≤ x) : K.lookup x = none := by
  cases e : K.lookup x with
  | none => rfl
  | some o => exact absurd (Nat.lt_of_lt_of_le (Heap.lt_size (X _ _ e)) hx) (Nat.lt_irrefl _)
theorem mF_within (l : List (Str × Value)) : PySem.Within (mF l) (l.map (·.1)) := by
  intro y hy
  by_cases q : y ∈ l.map (·.1)
  · exact q
  · have : mF l y = none := by
      show List.lookup y l = none
      clear hy
      induction l with
      | nil => rfl
      | cons p l ih =>
        rw [List.map_cons, List.mem_cons, not_or] at q
        rw [List.lookup_cons, beq_eq_false_iff_ne.mpr q.1]
        exact ih q.2
    exact absurd this hy
/-- the fields behind the first -/
theorem fields {env : Env} {x dx L : Addr} {fv : Array Value} {cd : ClassData} {m : Str → Option Value} {B : Around} {E' : Value → Shared → Prop} {g : Array GenState} {d : Drawn} {os : OsState} {Q : Flow → Shared → Prop}
    (hcl : clsIn K C = some cd) (hm : refsVE cd.mro = true) (hd : cd.hasDict = true) (sa : findIn K (.ref C) "__setattr__" = some (some (.builtin "object.__setattr__"))) (hk : env.scope.kind = .function) (hL : env.locals = L) (hs : env.kindOf "self" = some .local) (mx : m "self" = some (.ref x))
    (nLx : L ≠ x) (nLd : L ≠ dx) (nxd : dx ≠ x) (kx : K.lookup x = none) (kd : K.lookup dx = none) :
    ∀ {gs : List Str} {ss : List Stmt}, FB gs ss → ∀ (ws : List Value) (l : List (Str × Value)) (h : Heap) (tk : Nat), gs.length = ws.length → (∀ p ∈ gs.zip ws, m p.1 = some p.2 ∧ env.kindOf p.1 = some .local ∧ (p.1 == ("__debug__" : Str)) = false ∧ findIn K (.ref C) p.1 = some none) → l.length + gs.length ≤ 1000 →
      K.In h → h.Ns L m → h.get? x = some { cls := .ref C, dict := some dx, data := .fields fv } → h.Ns1 dx (mF l) →
      (∀ h' tk', (∀ b o, b ≠ dx → h.get? b = some o → h'.get? b = some o) → h'.Ns1 dx (mF ((gs.zip ws).reverse ++ l)) → Q .next ⟨h', g, d, tk', os⟩) →
      wpAny (model prog w) B (execs ss env) Q E' ⟨h, g, d, tk, os⟩
  | _, _, .nil, ws, l, h, tk, hl, _, _, _, _, _, hn, hq => by
    cases ws with
    | nil => exact wpAny_execs_nil (hq h tk (fun _ _ _ e => e) hn)
    | cons _ _ => cases hl
  | _, _, .cons (f := f) (fs := fs) (ss := ss) (q1 := q1) (q2 := q2) (q3 := q3) (q4 := q4) hF, ws, l, h, tk, hl, hv, hz, X, hns, hx, hn, hq => by
    cases ws with
    | nil => cases hl
    | cons v ws =>
      obtain ⟨v1, v2, v3, v4⟩ := hv (f, v) (by simp)
      refine wpAny_execs_cons (plainObj_wpAny_Assign_Attribute ?_)
      refine wpAny_Name (wpAny_loadName_local (env := env) hk v2 (by rw [hL]; exact hns) v1 ?_) v3
      refine wpAny_Name (wpAny_loadName_local (env := env) hk hs (by rw [hL]; exact hns) mx ?_) (by decide)
      obtain ⟨oD, esD, epD, hoD, hdD, _⟩ := hn.count (mF_within l)
      refine set_plain X (ox := { cls := .ref C, dict := some dx, data := .fields fv }) (od := some oD) ⟨hx, rfl, rfl, hoD⟩ sa ?_
      refine PySem.OEX.osa_old X hx hn (mF_within l) (by rw [List.length_map]; simp at hz; omega) hcl hm hd v4 fun h' tk' k hn' => ?_
      rw [mF_cons] at hn'
      refine fields hcl hm hd sa hk hL hs mx nLx nLd nxd kx kd hF ws ((f, v) :: l) h' tk' (by simpa using hl) (fun p hp => hv p (by rw [List.zip_cons_cons]; exact List.mem_cons_of_mem _ hp)) (by simp at hz ⊢; omega) (kept_but X kd k) (hns.at fun o e => k _ _ nLd e) (k _ _ (Ne.symm nxd) hx) hn' fun h2 tk2 k2 hn2 => ?_
      refine hq h2 tk2 (fun b o hb e => k2 b o hb (k b o hb e)) ?_
      rw [List.zip_cons_cons, List.reverse_cons, List.append_assoc]
      exact hn2
theorem lookup_rev {α : Type} : ∀ (l : List (Str × α)), (l.map (·.1)).Nodup → ∀ p ∈ l, l.reverse.lookup p.1 = some p.2
  | [], _, p, h => by cases h
  | q :: l, nd, p, h => by
    rw [List.map_cons, List.nodup_cons] at nd
    rw [List.reverse_cons, List.lookup_append]
    rcases List.mem_cons.mp h with e | h
    · subst e
      have : l.reverse.lookup p.1 = none := by
        rw [List.lookup_eq_none_iff]
        intro r hr
        rw [List.mem_reverse] at hr
        have ne : p.1 ≠ r.1 := fun e => nd.1 (by rw [e]; exact List.mem_map_of_mem hr)
        exact bne_iff_ne.mpr ne
      rw [this]
      show List.lookup p.1 [(p.1, p.2)] = some p.2
      rw [List.lookup_cons, beq_self_eq_true]
    · rw [lookup_rev l nd.2 p h]
      rfl
/-- a made exception -/
structure Made (h h' : Heap) (e C d : Addr) (l : List (Str × Value)) : Prop where
  keep : ∀ b o, h.get? b = some o → h'.get? b = some o
  new : h.objs.size ≤ e
  obj : ∃ oe vs, h'.get? e = some oe ∧ oe.cls = .ref C ∧ oe.dict = some d ∧ oe.data = .fields vs ∧ vs[1]? = some .none
  dbig : h.objs.size ≤ d
  dne : d ≠ e
  ns : h'.Ns1 d (mF l)
theorem made {x : Str} {f0 : Str} {fr : List Str} (T : Txt prog K mg x C (f0 :: fr)) {us : List Value} (hus : us.length = fr.length + 1) (hfew : fr.length ≤ 100) (X : K.In s.heap) (hlim : s.heap.NoLimit) (hroom : A.depth + 1 < recursionLimit)
    (hg : s.heap.Ns mainGlobals mg) (hb : ∃ mb, s.heap.Ns builtinsNs mb ∧ mb "super" = bootBuiltins "super")
    (hq : ∀ h' tk e d, Made s.heap h' e C d (((f0 :: fr).zip us).reverse) → R (.ok (.ret (.ref e))) { s with heap := h', toks := tk }) : codeAny (model prog w) A (.call (.ref C) ⟨us, []⟩) R s := by
  obtain ⟨nm, q, N, bs, bm, sn, sub, ab, col, dd, k0, k1, k2, k3, k5, hC, hbm⟩ := T.cls
  obtain ⟨fI, cda, cc, oc, od, qual, doc, pm, an, ct, osl, p0, ps, m, p1, p2, p3, p4, p5, p6, ss, cl, cld, csl, ccl, cdd, vs, ccs, file, tf, hbd, hev, hsw, hF, hi, ht, hfn, hcd, hcc, hca, hvs, hfile⟩ := T.fn
  have hcl : clsIn K C = some { name := nm, bases := bs, mro := .ref C :: bm, ns := N, qualname := q, hasDict := true, slotNames := sn, subclasses := sub, abstract := ab, collection := col, hasDel := false } := by unfold clsIn; rw [hC] <;> rfl
  have hmro : refsVE (.ref C :: bm) = true := hbm
  obtain ⟨hp, g, dr, tk, os⟩ := s
  have kp0 : ∀ b o, hp.get? b = some o → ((hp.push (kdv_tup us)).push (excO C hp.objs.size)).get? b = some o := fun b o e => Heap.get?_push_of_some _ (Heap.get?_push_of_some _ e)
  have hx0 : ((hp.push (kdv_tup us)).push (excO C hp.objs.size)).get? (hp.objs.size + 1) = some (excO C hp.objs.size) := by heap_get
  have hsz0 : ((hp.push (kdv_tup us)).push (excO C hp.objs.size)).objs.size = hp.objs.size + 2 := by rw [Heap.size_push, Heap.size_push]
  have kx : K.lookup (hp.objs.size + 1) = none := not_K X (Nat.le_succ _)
  refine call_own F.excBase_ValueError (fun Y => refsVE_contains Y bm hbm) (X _ _ hC) (looks_findIn X hi) (fun self => bind_fn X self ht) (by rw [hus, sizeLine_eq]; omega) ?_
  generalize hh0 : ((hp.push (kdv_tup us)).push (excO C hp.objs.size)) = h0 at kp0 hx0 hsz0 ⊢
  have X0 : K.In h0 := X.keeps kp0
  let fd : FuncData := ksFn "__init__" qual (iA p0 ps) (VX.sup m p1 p2 p3 p4 p5 p6 :: ss) (iS (f0 :: fr)) .none .none doc pm an (.ref cda) ct cc
  have hnd : (((PySem.Str.ofString "self" :: f0 :: fr).zip (.ref (hp.objs.size + 1) :: us)).map (·.1)).Nodup := by
    rw [List.map_fst_zip (by simp [hus])]
    exact List.nodup_cons.mpr ⟨fun z => (T.fld _ z).2.2 rfl, T.nd⟩
  refine ks_codeAny_call_defAt (fd := fd) (body := VX.sup m p1 p2 p3 p4 p5 p6 :: ss) (binds := (PySem.Str.ofString "self" :: f0 :: fr).zip (.ref (hp.objs.size + 1) :: us)) hroom (X0 _ _ hfn) rfl (hlim.keeps kp0) (codeRec_of X0 hcd) rfl (hbd _ _ (by simp [hus]))
    (fun y hy => ?_) (fun y hy => ?_) (fun h₁ hns hk₁ => ?_) rfl rfl rfl
  · have hy : y ∈ (iS (f0 :: fr)).names := hy
    simp only [iS, List.mem_append, List.mem_cons, List.mem_map, List.not_mem_nil, or_false] at hy
    rcases hy with (rfl | ⟨z, _, rfl⟩) | rfl | rfl <;> exact fun e => by cases e
  · rw [List.zip_cons_cons] at hy
    rcases List.mem_cons.mp hy with e | hy
    · rw [e]; rfl
    · exact (T.fld y.1 (List.of_mem_zip hy).1).1
  · have X1 : K.In h₁ := X0.keeps hk₁
    have hL : h0.objs.size < h₁.objs.size := hns.lt
    have hx1 : h₁.get? (hp.objs.size + 1) = some (excO C hp.objs.size) := hk₁ _ _ hx0
    have mx : (fun y => ((PySem.Str.ofString "self" :: f0 :: fr).zip (Value.ref (hp.objs.size + 1) :: us)).reverse.lookup y) "self" = some (.ref (hp.objs.size + 1)) := lookup_rev _ hnd (PySem.Str.ofString "self", _) (by rw [List.zip_cons_cons]; exact List.mem_cons_self)
    have hv : ∀ p ∈ (f0 :: fr).zip us, (fun y => ((PySem.Str.ofString "self" :: f0 :: fr).zip (Value.ref (hp.objs.size + 1) :: us)).reverse.lookup y) p.1 = some p.2 := fun p hpz => lookup_rev _ hnd p (by rw [List.zip_cons_cons]; exact List.mem_cons_of_mem _ hpz)
    generalize hmm : (fun y => ((PySem.Str.ofString "self" :: f0 :: fr).zip (Value.ref (hp.objs.size + 1) :: us)).reverse.lookup y) = mm at hns mx hv
    have hD := X1 _ _ hC
    obtain ⟨pl, hpl⟩ := hev (callEnv fd h0.objs.size fI)
    refine ks_wpAt_execs_cons (ks_wpAt_Expr_any (ks_wpAt_MethodCall (pl := pl) ?_ hpl) rfl (congrFun hsw _))
    refine ks_wpAt_super_base (env := callEnv fd h0.objs.size fI) (f := fI) (cc := cda) (ar := { arg := "self", annotation := none, pos := p0 }) (file := file) (tf := tf) T.scS T.scC (by decide) rfl (X1 _ _ hfn) rfl rfl rfl (X1 _ _ hca) rfl hvs hfile T.top ?_
    obtain ⟨mb, hb1, hb2⟩ := hb
    have up : ∀ b o, hp.get? b = some o → h₁.get? b = some o := fun b o e => hk₁ b o (kp0 b o e)
    refine ks_loadName_global rfl T.scS (loadGlobal_builtin (env := callEnv fd h0.objs.size fI) (hg.keeps up) T.noS (hb1.keeps up) (hb2.trans (show bootBuiltins "super" = some (.type "super") from rfl)) ⟨rfl, ?_⟩)
    refine wpAny_loadName_free (c := cc) rfl T.scC rfl ⟨_, X1 _ _ hcc, rfl⟩ ?_
    refine wpAny_loadName_local rfl rfl hns mx ?_
    refine ks_wpAny_isType_cls hD rfl ⟨rfl, ?_⟩
    have I1 : InstAt h₁ (hp.objs.size + 1) (excO C hp.objs.size) C none := ⟨hx1, rfl, rfl, trivial⟩
    refine ks_wpAny_call_super hD rfl hx1 rfl (fun c e => by cases e) (looks_mroIn X1 T.mroC) fun h₂ e2 k2 => ?_
    have X2 : K.In h₂ := X1.keeps k2
    have I2 : InstAt h₂ (hp.objs.size + 1) (excO C hp.objs.size) C none := ⟨k2 _ _ hx1, rfl, rfl, trivial⟩
    have hsup : alongIn K "__init__" (((Value.ref C :: bm).dropWhile (· != .ref C)).drop 1) = some (some (.builtin "ValueError.__init__")) := by
      have z := T.sup
      unfold ks_superIn at z
      rw [hcl] at z
      exact z
    refine kxs_getMethod kxs_ValueError e2 (looks_opaque X2 T.opq) (l₀ := .ref C :: bm) ((looks_clsIn X2 hcl).andThen .now) rfl X2 hsup (I2.type.andThen (looks_subIn X2 T.subV)) (ks_ne X2 I2 hcl) (by decide) ?_
    have mw0 : (h₂.push (kxs_mw "ValueError.__init__" (hp.objs.size + 1))).get? h₂.objs.size = some (kxs_mw "ValueError.__init__" (hp.objs.size + 1)) := Heap.get?_push_size _ rfl
    refine kxs_callWith (i := "ValueError.__init__") (x := hp.objs.size + 1) rfl (evalArgs_plain (spliced_cons (wpAny_Constant_str (k := 0) (pos := p4) (spliced_nil ⟨mw0, ?_⟩))))
    have k3 : ∀ b o, h₁.get? b = some o → (h₂.push (kxs_mw "ValueError.__init__" (hp.objs.size + 1))).get? b = some o := fun b o e => Heap.get?_push_of_some _ (k2 b o e)
    refine call_mw mw0 (k3 _ _ hx1) (k3 _ _ hD) (by show 1 ≤ sizeLine; rw [sizeLine_eq]; omega) fun h₄ t1 k4 hx4 => ?_
    show PySem.wpAt _ _ _ (execs ss _) _ _ _
    refine wpAt_of_wpAny ?_
    have nLx : h0.objs.size ≠ hp.objs.size + 1 := Nat.ne_of_gt (Heap.lt_size hx0)
    have X4 : K.In h₄ := kept_but (X1.keeps k3) kx k4
    have ns4 : h₄.Ns h0.objs.size mm := hns.at fun o e => k4 _ _ nLx (k3 _ _ e)
    have up4 : ∀ b o, hp.get? b = some o → h₄.get? b = some o := fun b o e => k4 b o (Nat.ne_of_lt (Nat.lt_succ_of_lt (Heap.lt_size e))) (k3 _ _ (up b o e))
    -- the first field
    cases hF with
    | cons hF =>
      cases us with
      | nil => cases hus
      | cons u0 us =>
        rename_i ss' q1 q2 q3 q4
        have f0ok := T.fld f0 List.mem_cons_self
        refine wpAny_execs_cons (plainObj_wpAny_Assign_Attribute ?_)
        refine wpAny_Name (wpAny_loadName_local (env := callEnv fd h0.objs.size fI) rfl f0ok.1 ns4 (hv (f0, u0) (by simp)) ?_) f0ok.2.1
        refine wpAny_Name (wpAny_loadName_local (env := callEnv fd h0.objs.size fI) rfl rfl ns4 mx ?_) (by decide)
        refine set_plain X4 (ox := excO C t1) (od := none) ⟨hx4, rfl, rfl, trivial⟩ T.sa ?_
        refine exc_osa X4 hx4 hcl hmro rfl (T.noF f0 List.mem_cons_self) fun h₅ tk₅ dx k₅ dn dne hx₅ hn₅ => ?_
        have L4 : h0.objs.size < h₄.objs.size := ns4.lt
        have kdx : K.lookup dx = none := not_K X4 dn
        have nLd : h0.objs.size ≠ dx := Nat.ne_of_lt (Nat.lt_of_lt_of_le L4 dn)
        rw [show (fun y => if y = f0 then some u0 else none) = mF [(f0, u0)] from mF_cons f0 u0 []] at hn₅
        refine fields hcl hmro rfl T.sa rfl rfl rfl mx nLx nLd dne kx kdx hF us [(f0, u0)] h₅ _ (by simpa using hus.symm) (fun p hpz => ?_) (by simp; omega) (kept_but X4 kx k₅) (ns4.at fun o e => k₅ _ _ nLx e) hx₅ hn₅ fun h₆ tk₆ k₆ hn₆ => ?_
        · have hm := (List.of_mem_zip hpz).1
          exact ⟨hv p (by rw [List.zip_cons_cons]; exact List.mem_cons_of_mem _ hpz), (T.fld _ (List.mem_cons_of_mem _ hm)).1, (T.fld _ (List.mem_cons_of_mem _ hm)).2.1, T.noF _ (List.mem_cons_of_mem _ hm)⟩
        · have dbig : hp.objs.size ≤ dx := Nat.le_trans (Nat.le_trans (by rw [hsz0]; exact Nat.le_add_right _ _) (Nat.le_of_lt L4)) dn
          refine ⟨rfl, hq h₆ tk₆ (hp.objs.size + 1) dx ⟨fun b o e => k₆ b o (Nat.ne_of_lt (Nat.lt_of_lt_of_le (Heap.lt_size e) dbig)) (k₅ b o (Nat.ne_of_lt (Nat.lt_succ_of_lt (Heap.lt_size e))) (up4 b o e)), Nat.le_succ _, ⟨_, _, k₆ _ _ (Ne.symm dne) hx₅, rfl, rfl, rfl, rfl⟩, dbig, dne, ?_⟩⟩
          rw [List.zip_cons_cons, List.reverse_cons]
          exact hn₆
end
end VX

/-! The value layer, F: raise, try .. except X as e: return (e.f, e.g). -/
namespace VL
open PySem PySem.Spec PyProof.Rows L2 LamX
section
variable {G : Gd} {S : Hp}
theorem RepF.length : ∀ {fs : List (T × D)} {vs : List (Str × V)}, RepF G S fs vs → fs.length = vs.length
  | [], _, h => by cases h; rfl
  | (k, d) :: fs, _, h => by
    cases h with
    | cons _ t => simp [RepF.length t]
theorem RepF.append : ∀ {fs gs : List (T × D)} {vs ws : List (Str × V)}, RepF G S fs vs → RepF G S gs ws → RepF G S (fs ++ gs) (vs ++ ws)
  | [], _, _, _, h, k => by cases h; exact k
  | _ :: fs, _, _, _, h, k => by
    cases h with
    | cons a t => exact .cons a (RepF.append t k)
theorem RepF.reverse : ∀ {fs : List (T × D)} {vs : List (Str × V)}, RepF G S fs vs → RepF G S fs.reverse vs.reverse
  | [], _, h => by cases h; exact .nil
  | _ :: fs, _, h => by
    cases h with
    | cons a t =>
      rw [List.reverse_cons, List.reverse_cons]
      exact (RepF.reverse t).append (.cons a .nil)
theorem RepF.zip : ∀ {ns : List T} {ds : List D} {vs : List V}, Reps G S ds vs → RepF G S (ns.zip ds) ((ns.map T.s).zip vs)
  | [], _, _, h => .nil
  | n :: ns, [], _, h => by cases h; exact .nil
  | n :: ns, d :: ds, _, h => by
    cases h with
    | cons a t => exact .cons a (RepF.zip t)
theorem RepF.look {f : T} {d : D} : ∀ {fs : List (T × D)} {vs : List (Str × V)}, RepF G S fs vs → fs.lookup f = some d → ∃ v, vs.lookup f.s = some v ∧ Rep G S d v
  | [], _, h, e => by cases e
  | (k, x) :: fs, _, h, e => by
    cases h with
    | cons a t =>
      rw [List.lookup_cons] at e
      rw [List.lookup_cons]
      by_cases q : f = k
      · subst q
        rw [beq_self_eq_true] at e
        rw [beq_self_eq_true]
        cases e
        exact ⟨_, rfl, a⟩
      · rw [beq_eq_false_iff_ne.mpr q] at e
        rw [beq_eq_false_iff_ne.mpr fun z => q (T.inj z)]
        exact RepF.look t e
theorem relO_zip : ∀ {ns : List Str} {vs : List V} {us : List Value} (l : List (Str × V)) (l' : List (Str × Value)), (∀ f, RelO (l.lookup f) (l'.lookup f)) → Vals vs us → ∀ f, RelO (((ns.zip vs).reverse ++ l).lookup f) (((ns.zip us).reverse ++ l').lookup f)
  | [], _, _, l, l', h, _, f => h f
  | n :: ns, _, _, l, l', h, .nil, f => h f
  | n :: ns, _, _, l, l', h, .cons (a := v) (b := u) r t, f => by
    rw [List.zip_cons_cons, List.zip_cons_cons, List.reverse_cons, List.reverse_cons, List.append_assoc, List.append_assoc]
    refine relO_zip ([(n, v)] ++ l) ([(n, u)] ++ l') (fun g => ?_) t f
    show RelO (List.lookup g ((n, v) :: l)) (List.lookup g ((n, u) :: l'))
    rw [List.lookup_cons, List.lookup_cons]
    by_cases q : g = n
    · subst q
      rw [beq_self_eq_true]
      exact r
    · rw [beq_eq_false_iff_ne.mpr q]
      exact h g
end
/-- an error is made -/
def tMkErr (C : Addr) (ns : List Str) (ta : TA) : L2.St → Hp → XK → Prop := fun σ H Q => ta σ H fun vs H1 => vs.length = ns.length ∧ ∀ d, H1 d = none → Q (.ref C) (some d) (upd H1 d (.xd ((ns.zip vs).reverse)))
section
variable {X : Cx} {C : Addr}
theorem pmk_err {x : Str} {n0 : Str} {nr : List Str} {e : Expr} {es : List Expr} {ta : TA} {p pos : Pos} {k : Nat} (TX : VX.Txt X.prog X.K X.mg x C (n0 :: nr)) (hfew : nr.length ≤ 100) (hr : Room k X.A) (hk1 : 1 ≤ k) (ha : PA X (e :: es) ta) (hg : Gl X x) (hdb : (x == ("__debug__" : Str)) = false := by decide)
    (he : starEach (e :: es) X.env = (false, eval e X.env) :: starEach es X.env := by rfl) (hpl : (backTo pos (starEach es X.env)).any (·.1) = false := by rfl) :
    PMk X (.Call (.Name x p) (e :: es) [] pos) (tMkErr C (n0 :: nr) ta) := by
  intro pins s σ H Q I h
  refine wpAny_Call_Name_kw (ld_glob I hg TX.gC ?_ hdb)
  refine PySem.W.callWith_K (h₀ := X.base) I.ok.mod.kin TX.kC (thn (ha.run pos pins s σ H _ I h) fun us s1 hh => ?_) he hpl
  obtain ⟨vs, H1, I1, r1, hl, q1⟩ := hh
  refine ⟨I1.kIn, ?_⟩
  have hlim := I1.nolimit
  have gb := I1.bk
  have hgl : s1.heap.Ns mainGlobals X.mg := I1.mod.glob.keeps gb
  have hbl : ∃ mb, s1.heap.Ns builtinsNs mb ∧ mb "super" = bootBuiltins "super" := by
    obtain ⟨mb, h1, h2⟩ := I1.mod.blt
    exact ⟨mb, h1.keeps gb, h2 _ (by decide)⟩
  obtain ⟨hp, g, dr, tk, os⟩ := s1
  refine wpAny_call (VX.made (us := us) TX (by rw [← r1.length, hl]; rfl) hfew I1.kIn hlim (by have := hr.dp; omega) hgl hbl fun h' tk' a d M => ?_)
  show MkP X pins σ Q (.ref a) ⟨h', g, dr, tk', os⟩
  obtain ⟨oe, fv, m1, m2, m3, m4, m5⟩ := M.obj
  obtain ⟨B, b1, b2⟩ := restrict h' fun b => decide (b ≠ a)
  have bk : ∀ b, b ≠ a → B.get? b = h'.get? b := fun b hb => b1 b (decide_eq_true hb)
  have ba : B.get? a = none := b2 a (by simp)
  have old : ∀ b o, hp.get? b = some o → B.get? b = some o := fun b o q => (bk b (Nat.ne_of_lt (Nat.lt_of_lt_of_le (Heap.lt_size q) M.new))).trans (M.keep b o q)
  have rel : ∀ f, RelO ((((n0 :: nr).zip vs).reverse).lookup f) ((((n0 :: nr).zip us).reverse).lookup f) := fun f => by
    have := relO_zip (ns := n0 :: nr) [] [] (fun _ => trivial) r1 f
    rwa [List.append_nil, List.append_nil] at this
  have ob : ObjOk X.prog X.w (upd H1 d (.xd (((n0 :: nr).zip vs).reverse))) B d (.xd (((n0 :: nr).zip vs).reverse)) := ⟨_, M.ns.at fun o q => (bk d M.dne).trans q, rel⟩
  have J : Inv X pins σ (upd H1 d (.xd (((n0 :: nr).zip vs).reverse))) ⟨B, g, dr, tk', os⟩ := I1.laid (t' := tk') old M.dbig ob
  refine ⟨a, oe, fv, ⟨B, g, dr, tk', os⟩, _, .ref C, some d, rfl, J, fun b o q => ?_, ba, m1, ⟨m2, m3⟩, m4, m5, ?_, rfl, I1.bare, raises_own TX.exC TX.tyC, q1 d (I1.hok.fresh M.dbig)⟩
  · have hb : b ≠ a := fun z => by
      have q' : B.get? b = some o := q
      rw [z, ba] at q'
      cases q'
    exact (bk b hb).symm.trans q
  · rw [upd_ne (Ne.symm M.dne)]
    exact I1.hok.fresh M.new
end
/-- raise X(..): the fields by their names -/
def gRaise (c : Nat) (ns : List T) (fs : EL) : GS := fun ρ τ => liftE (fs ρ τ) ρ fun us τ1 => match frzs τ1 us with
  | some (ds, τ2) => if ds.length = ns.length then .exc c ((ns.zip ds).reverse) ρ τ2 else .bad
  | none => .bad
theorem s_raise {X : Cx} {G : Gd} {W : WX} {x : Str} {c : Nat} {n0 : T} {nr : List T} {e : Expr} {es : List Expr} {fs : EL} {p pos pos2 : Pos} {k : Nat} (hc : X.calm = true) (tk : Takes X W) (TX : VX.Txt X.prog X.K X.mg x (G.ca c) (n0.s :: nr.map T.s)) (hfew : nr.length ≤ 100) (hr : Room k X.A) (hk1 : 1 ≤ k)
    (ha : PA X (e :: es) (VA G W fs)) (hg : Gl X x) (hdb : (x == ("__debug__" : Str)) = false := by decide)
    (he : starEach (e :: es) X.env = (false, eval e X.env) :: starEach es X.env := by rfl) (hpl : (backTo pos (starEach es X.env)).any (·.1) = false := by rfl) :
    PS X (.Raise (some (.Call (.Name x p) (e :: es) [] pos)) none pos2) (VS G W (gRaise c (n0 :: nr) fs)) :=
  ps_weak (ps_raise hc tk (pmk_err TX (by rw [List.length_map]; exact hfew) hr hk1 ha hg hdb he hpl)) fun D σ H ⟨z, ρ, τ, hz, c, en, q⟩ => ⟨z, ρ, τ, hz, c, en, (RunS.lift (rep := RepUs G) en q).imp fun vs H1 ⟨z1, us, τ1, e1, f1, c1, r1, q1⟩ => by
    subst e1
    cases e2 : frzs τ1 us with
    | none => rw [e2] at q1; exact q1.elim
    | some pr =>
      obtain ⟨ds, τ2⟩ := pr
      rw [e2] at q1
      simp only at q1
      obtain ⟨z2, h2, f2, c2, rs, m2⟩ := frzs_ok c1 r1 e2
      by_cases hl : ds.length = (n0 :: nr).length
      · rw [if_pos hl] at q1
        refine ⟨by rw [← rs.length, hl]; simp, fun d hd => ?_⟩
        rw [← h2] at hd ⊢
        have ff : Fut z2 ⟨upd z2.S d (.xd (((n0.s :: nr.map T.s).zip vs).reverse)), upd z2.H d (.xd (((n0.s :: nr.map T.s).zip vs).reverse)), z2.ms⟩ := fut_sh (c2.none_ hd) hd
        exact q1 _ d _ σ (f2.trans ff) (cells_sh c2 hd) (en.fut ((f1.trans f2).trans ff)) upd_same (RepF.reverse (RepF.zip (ns := n0 :: nr) (Reps.mono ff.ss _ _ rs)))
      · rw [if_neg hl] at q1; exact q1.elim⟩
/-- try: body / except X as n: return (n.f, n.g) -/
def gTry2 (c i : Nat) (f1 f2 : T) (g : GS) : GS := fun ρ τ => match g ρ τ with
  | .exc c' fs ρ1 τ1 => match fs.lookup f1, fs.lookup f2 with
    | some d1, some d2 => if c' = c ∧ i < ρ1.length then .rt (.d (.tup [d1, d2])) τ1 else .bad
    | _, _ => .bad
  | r => r
theorem s_try2 {X : Cx} {G : Gd} {W : WX} {x n : Str} {c i : Nat} {f1 f2 : T} {a1 a2 : Str} {g : GS} {body : List Stmt} {np pos pos' pr pt q1 q2 q3 q4 : Pos} {k : Nat} (e1 : a1 = f1.s) (e2 : a2 = f2.s) (hs : X.stack = X.env :: X.outer) (hf : X.env.frame = some X.env.locals) (hN : X.N.Nodup) (hi : X.N[i]? = some n) (hln : X.env.kindOf n = some .local)
    (hv : Vis X.env.scope n) (hc : Names X x (.ref (G.ca c))) (tk : Takes X W) (te : PySem.W.exmOne X.K (.ref (G.ca c)) (.ref (G.ca c)) = some true) (xf : XfC X.K (G.ca c)) (hn1 : PySem.W.findIn X.K (.ref (G.ca c)) a1 = some none) (hn2 : PySem.W.findIn X.K (.ref (G.ca c)) a2 = some none)
    (hb : ∀ (W : WX) (pn : List (Addr × Obj)) (xe : Value → Shared → Prop), Takes (X.tr pn xe) W → PassesOwn (model X.prog X.w) X.A X.env xe → PSs (X.tr pn xe) body (VS G W g))
    (hdb : (n == ("__debug__" : Str)) = false := by decide) (hcd : (n == ("__classdict__" : Str)) = false := by decide)
    (hb1 : attributeBase (.Name n q1) a1 X.env (eval (.Name n q1) X.env) = eval (.Name n q1) X.env := by rfl) (hb2 : attributeBase (.Name n q3) a2 X.env (eval (.Name n q3) X.env) = eval (.Name n q3) X.env := by rfl)
    (hs1 : starEach [.Attribute (.Name n q1) a1 q2, .Attribute (.Name n q3) a2 q4] X.env = (false, eval (.Attribute (.Name n q1) a1 q2) X.env) :: starEach [.Attribute (.Name n q3) a2 q4] X.env := by rfl) (hs2 : starEach [.Attribute (.Name n q3) a2 q4] X.env = (false, eval (.Attribute (.Name n q3) a2 q4) X.env) :: starEach [] X.env := by rfl) :
    PS X (.Try body [.ExceptHandler (some (.Name x np)) (some n) [.Return (some (.Tuple [.Attribute (.Name n q1) a1 q2, .Attribute (.Name n q3) a2 q4] k pt)) pr] pos'] [] [] pos) (VS G W (gTry2 c i f1 f2 g)) := by
  refine ps_weak (ps_try_as (tb := fun W' => VS G W' g) (ts := fun a cls d => tRet (tTup (tCons (tXf a cls d (G.ca c) a1 (tVar i)) (tCons (tXf a cls d (G.ca c) a2 (tVar i)) tNil)))) (Wout := W) hs hf hN hi hln hc tk hb fun a oe cls d pn hz hd => ?_) ?_
  · have pv : ∀ q, PE (X.suite a ((a, oe) :: pn)) (.Name n q) (tVar i) := fun q => pe_var (X := X.suite a ((a, oe) :: pn)) hi hv hdb hcd
    exact pss_one (ps_ret (pe_tup (pa_cons (pe_xf xf hn1 hz hd (pv _) hb1) (pa_cons (pe_xf xf hn2 hz hd (pv _) hb2) pa_nil hs2) hs1)))
  · intro D σ H ⟨z, ρ, τ, hz, cc, en, q⟩
    refine ⟨z, ρ, τ, hz, cc, en, ?_⟩
    unfold gTry2 at q
    cases e : g ρ τ with
    | nx ρ' τ' => rw [e] at q; exact q
    | rt u τ' => rw [e] at q; exact q
    | bk ρ' τ' => rw [e] at q; exact q
    | ct ρ' τ' => rw [e] at q; exact q
    | bad => rw [e] at q; exact q
    | exc c' fs ρ1 τ1 =>
      rw [e] at q
      simp only at q
      cases l1 : fs.lookup f1 with
      | none => rw [l1] at q; exact q.elim
      | some d1 =>
        cases l2 : fs.lookup f2 with
        | none => rw [l1, l2] at q; exact q.elim
        | some d2 =>
          rw [l1, l2] at q
          simp only at q
          by_cases h : c' = c ∧ i < ρ1.length
          · rw [if_pos h] at q
            obtain ⟨rfl, hl⟩ := h
            intro z' dd vs σ' ff c' en' s' r'
            refine ⟨true, te, fun _ a ha => ?_, fun z => Bool.noConfusion z⟩
            have hx : z'.H dd = some (.xd vs) := c'.sub _ _ s'
            obtain ⟨v1, m1, r1⟩ := r'.look l1
            obtain ⟨v2, m2, r2⟩ := r'.look l2
            have hsl : (σ'.set i (some (.ref a)))[i]? = some (some (.ref a)) := List.getElem?_set_self (by rw [en'.len]; exact hl)
            rw [← e1] at m1
            rw [← e2] at m2
            refine ⟨_, hsl, rfl, rfl, dd, vs, v1, rfl, hx, m1, _, hsl, rfl, rfl, dd, vs, v2, rfl, hx, m2, ?_⟩
            refine ⟨by show 2 ≤ sizeLine; decide, fun p hp => ?_⟩
            have := alloc_tup (Q := D.rt) (W := fun _ _ _ => False) c' hp (.cons r1 (.cons r2 .nil)) ?_
            · exact this
            · exact fun z2 b f2 c2 rb => q z2 b (ff.trans f2) c2 rb
          · rw [if_neg h] at q; exact q.elim
end VL

/-! The value layer, G: x(lambda: e), x a def that calls what it got; the ground with a function in it. -/
namespace VL
open PySem PySem.Spec PyProof.Rows L2 LamX
/-! ### the ground of a def that got a function -/
abbrev Gd.lam (G : Gd) (fa : Addr) (fp : Z → Prop) (fs : ∀ z z' : Z, Fut z z' → fp z → fp z') : Gd := ⟨G.K, G.ca, G.T, G.w, fa, fp, fs⟩
section
variable {G G' : Gd} {S : Hp}
mutual
theorem Rep.cg (hK : G'.K = G.K) (hc : G'.ca = G.ca) (hw : G'.w = G.w) : ∀ (d : D) (v : V), Rep G S d v → Rep G' S d v
  | .non, _, h => by cases h; exact .non
  | .bl b, _, h => by cases h; exact .bl b
  | .int i, _, h => by cases h; exact .int i
  | .str s, _, h => by cases h; exact .str s
  | .tup ds, _, h => by
    cases h with
    | tup h1 h2 => exact .tup (hK ▸ h1) (Reps.cg hK hc hw ds _ h2)
  | .tpl ds, _, h => by
    cases h with
    | tpl h1 h2 h3 => exact .tpl h1 h2 (Reps.cg hK hc hw ds _ h3)
  | .lst ds, _, h => by
    cases h with
    | lst h1 h2 => exact .lst h1 (Reps.cg hK hc hw ds _ h2)
  | .fl ds, _, h => by
    cases h with
    | fl h1 h2 => exact .fl (hK ▸ h1) (Reps.cg hK hc hw ds _ h2)
  | .dct ds, _, h => by
    cases h with
    | dct h1 h2 => exact .dct h1 (RepK.cg hK hc hw ds _ h2)
  | .dcu ds, _, h => by
    cases h with
    | dcu h1 h2 => exact .dcu h1 (RepT.cg hK hc hw ds _ h2)
  | .dcx ds x, _, h => by
    cases h with
    | dcx h1 h2 h3 => exact .dcx (hw ▸ h1) (RepK.cg hK hc hw ds _ h2) (Rep.cg hK hc hw x _ h3)
  | .ins c ds, _, h => by
    cases h with
    | ins h1 h2 => exact .ins (hc ▸ h1) (RepF.cg hK hc hw ds _ h2)
  | .cls c, _, h => by
    cases h
    rw [← hc]
    exact .cls c
  | .exn c ds, _, h => by
    cases h with
    | exn h1 h2 h3 => exact .exn (hc ▸ h1) h2 (RepF.cg hK hc hw ds _ h3)
theorem Reps.cg (hK : G'.K = G.K) (hc : G'.ca = G.ca) (hw : G'.w = G.w) : ∀ (ds : List D) (vs : List V), Reps G S ds vs → Reps G' S ds vs
  | [], _, h => by cases h; exact .nil
  | d :: ds, _, h => by
    cases h with
    | cons h1 h2 => exact .cons (Rep.cg hK hc hw d _ h1) (Reps.cg hK hc hw ds _ h2)
theorem RepK.cg (hK : G'.K = G.K) (hc : G'.ca = G.ca) (hw : G'.w = G.w) : ∀ (ds : List (Ky × D)) (vs : List (Key × V)), RepK G S ds vs → RepK G' S ds vs
  | [], _, h => by cases h; exact .nil
  | (k, d) :: ds, _, h => by
    cases h with
    | cons h1 h2 => exact .cons (Rep.cg hK hc hw d _ h1) (RepK.cg hK hc hw ds _ h2)
theorem RepT.cg (hK : G'.K = G.K) (hc : G'.ca = G.ca) (hw : G'.w = G.w) : ∀ (ds : List (List Ky × D)) (vs : List (List Key × V)), RepT G S ds vs → RepT G' S ds vs
  | [], _, h => by cases h; exact .nil
  | (k, d) :: ds, _, h => by
    cases h with
    | cons h1 h2 => exact .cons (Rep.cg hK hc hw d _ h1) (RepT.cg hK hc hw ds _ h2)
theorem RepF.cg (hK : G'.K = G.K) (hc : G'.ca = G.ca) (hw : G'.w = G.w) : ∀ (ds : List (T × D)) (vs : List (Str × V)), RepF G S ds vs → RepF G' S ds vs
  | [], _, h => by cases h; exact .nil
  | (k, d) :: ds, _, h => by
    cases h with
    | cons h1 h2 => exact .cons (Rep.cg hK hc hw d _ h1) (RepF.cg hK hc hw ds _ h2)
end
theorem CellR.cg (hK : G'.K = G.K) (hc : G'.ca = G.ca) (hw : G'.w = G.w) {H : Hp} {a : Addr} {cl : Cell} (h : CellR G S H a cl) : CellR G' S H a cl := by
  cases cl with
  | dead => exact trivial
  | lst ds => obtain ⟨n, vs, h1, h2⟩ := h; exact ⟨n, vs, h1, Reps.cg hK hc hw _ _ h2⟩
  | dct ds => obtain ⟨n, vs, h1, h2⟩ := h; exact ⟨n, vs, h1, RepK.cg hK hc hw _ _ h2⟩
  | dcx ds x => obtain ⟨n, o, vs, v, h1, h2, h3⟩ := h; exact ⟨n, o, vs, v, hw ▸ h1, RepK.cg hK hc hw _ _ h2, Rep.cg hK hc hw _ _ h3⟩
  | ins cc ds => obtain ⟨n, dx, vs, h1, h2⟩ := h; exact ⟨n, dx, vs, hc ▸ h1, RepF.cg hK hc hw _ _ h2⟩
theorem Cells.cg (hK : G'.K = G.K) (hc : G'.ca = G.ca) (hw : G'.w = G.w) (hT : G'.T = G.T) {z : Z} {τ : Store} (c : Cells G z τ) : Cells G' z τ :=
  ⟨c.sub, c.len, c.nd, c.al, fun i a cl h1 h2 => (c.at_ i a cl h1 h2).cg hK hc hw, hT ▸ c.tab, c.nt⟩
end
/-- a value, but no function -/
def noFn : U → Bool
  | .fn => false
  | _ => true
theorem RepU.cg {G G' : Gd} (hK : G'.K = G.K) (hc : G'.ca = G.ca) (hw : G'.w = G.w) {z : Z} {u : U} {v : V} (n : noFn u = true) (r : RepU G z u v) : RepU G' z u v := by
  cases r with
  | d h => exact .d (Rep.cg hK hc hw _ _ h)
  | loc h => exact .loc h
  | fn h => cases n
section
variable {X : Cx} {pins : List (Addr × Obj)} {σ : L2.St} {H : Hp} {s : Shared}
/-- a(), a a lambda of X's, called in the def that got it; nothing is being shown -/
theorem lam_act {M : List Str} {qg : Str} {sg : Scope} {g f c' : Addr} {cdg pm ctv : Value} {params : Arguments} {body : Expr} {scope : Scope} {k i : Nat} {a : Str} {pn : List (Addr × Obj)} {xe : Value → Shared → Prop} {W : WX} {tb : XK → TE} {p1 p2 : Pos} {Eg : XK} {CXg : CXT}
    (I : Inv X pins σ H s) (L : LamS X.env.scope scope) (hf : s.heap.get? f = some (PySem.W.kla_obj "<lambda>" (X.env.qual ++ "<lambda>") params body scope (cloFrom X.env.cells scope.names []) pm c' ctv)) (nf : H f = none) (ff : f ∉ frs X.stack)
    (hbd : bindArgs (PySem.W.kla_fn "<lambda>" (X.env.qual ++ "<lambda>") params body scope (cloFrom X.env.cells scope.names []) pm (.ref c') ctv) ⟨[], []⟩ = pure [])
    (tk : Takes ((cxOf CXg X.prog X.w X.K X.mg X.base M qg sg g cdg X.A X.stack s H Eg).tr pn xe) W) (room : Room (k + 1) (X.A.deeper (envOfC qg sg s.heap.objs.size g cdg))) (gd : X.A.guards = some [])
    (hb : ∀ (B : Around) (out : List PySem.Env) (s : Shared) (H : Hp) (E : XK), Room k (B.deeper (lamEnv X scope s.heap.objs.size f c')) → B.guards = some [] → PE (lamCx X B out s H E scope f c') body (tb E))
    (hM : M[i]? = some a) (hv : Vis sg a) (hd : (a == ("__debug__" : Str)) = false) (hcd : (a == ("__classdict__" : Str)) = false) :
    PE ((cxOf CXg X.prog X.w X.K X.mg X.base M qg sg g cdg X.A X.stack s H Eg).tr pn xe) (.Call (.Name a p1) [] [] p2)
      (fun σZ HZ Q => ∃ E : XK, (∀ cls d H', E cls d H' → W cls d σZ H') ∧ σZ[i]? = some (some (.ref f)) ∧ HZ c' = some (CodeO c' (X.env.qual ++ "<lambda>")) ∧ tb E σ HZ Q) := by
  constructor
  intro pinsZ sZ σZ HZ Q IZ ⟨E, hW, w1, w2, w3⟩
  refine wpAny_Call_Name_kw (thn ((pe_var (pos := p1) (i := i) hM hv hd hcd).run pinsZ sZ σZ HZ (fun v H1 => v = .ref f ∧ H1 = HZ) IZ ⟨.ref f, w1, rfl, rfl⟩) ?_)
  rintro u s1 ⟨v, H1, I1, r1, rfl, rfl⟩
  obtain rfl : u = Value.ref f := r1
  have there := I1.base.keep f _ hf nf ff (fun z => nomatch (show f ∈ ([] : List Addr) from z))
  have un : Un (frs X.stack) [] H H1 s.heap s1.heap := I1.base
  obtain ⟨⟨oc, vs, t, o1, o2, o3⟩, _, _⟩ := I1.hok c' _ w2
  have rc : codeAny (model X.prog X.w) (X.A.deeper (envOfC qg sg s.heap.objs.size g cdg)) (.call (.ref f) ⟨[], []⟩) (CR (L2.CX X.prog X.w) (envOfC qg sg s.heap.objs.size g cdg :: X.stack) X.prog X.w H1 s1 Q E) s1 := by
    refine PySem.W.kla_callFunE room.depth there rfl L.co L.gen rfl ⟨c', oc, vs, t, rfl, o1, o2, o3⟩ ?_
    rw [hbd]
    refine wpAny_pure (wpAny_newFunctionEnv (fun y hy => (L.own y hy).2) (fun y hy => absurd hy (by simp)) (fun h₁ n1 n2 => ⟨I1.nolimit.fresh _ n2, ?_⟩) L.kind)
    show codeAny _ _ (.expr body (lamEnv X scope s1.heap.objs.size f c')) _ _
    have J : Inv (lamCx X (X.A.deeper (envOfC qg sg s.heap.objs.size g cdg)) (envOfC qg sg s.heap.objs.size g cdg :: X.stack) s1 H1 E scope f c') [] σ H1 { s1 with heap := h₁, toks := s1.toks + ([] : List (Str × Value)).length } :=
      lam_start2 I L I1.env0 room.hd un n1 fun b o e => n2.extBut b o (Nat.ne_of_lt (Heap.lt_size e)) (Heap.get?_push_of_some _ e)
    refine PySem.W.kla_codeExpr (wpAny_mono ((hb _ _ s1 H1 E (room.deeper _) gd).run [] _ _ H1 Q J w3) ?_ fun e s' hq => hq)
    rintro v s' ⟨w', H', J', rv, q⟩
    exact ⟨w', H', J'.os, J'.bare, J'.base, J'.hok, rv, q⟩
  refine PySem.W.callWith_F0 ⟨_, _, _, _, there⟩ (wpAny_call (codeAny_mono rc fun r s' hq => ?_))
  match r, hq with
  | .error e, hq => exact tk e s' (XE.of_call I1 hW hq)
  | .ok (.ret u), hq => exact I1.after hq
end
/-- a(), a what the def got -/
def eAct (i : Nat) (F : Store → R U) : EV := fun ρ τ => match ρ[i]? with
  | some (some .fn) => match F τ with
    | .ok u τ1 => if noFn u = true then .ok u τ1 else .bad
    | r => r
  | _ => .bad
/-- x(lambda: e): g what x does with what it got -/
def eLam (n : Nat) (g : (Store → R U) → GS) (f : EV) : EV := fun ρ τ => match g (fun τ' => f ρ τ') (some .fn :: List.replicate (n - 1) none) τ with
  | .exc _ _ _ _ => .bad
  | r => outR τ.length r
/-- a def of one parameter, which it calls -/
structure LamD (P : Program) (w : World) (mg : Str → Option Value) (base : Heap) (G : Gd) (x a : Str) (k n : Nat) (gH : (Store → R U) → GS) : Prop where
  ex : ∃ (g : Addr) (pg : Arguments) (bg : List Stmt) (sg : Scope) (dV kV doc pm cdv ct oc : Value) (an od : Option Addr) (osl : Array (Option Value)) (M : List Str), mg x = some (.ref g) ∧ PySem.W.keepIn G.K (.ref g) = true ∧
    G.K.lookup g = some ⟨oc, od, .func (PySem.W.fnOf x x pg bg sg dV kV doc pm an cdv ct), osl⟩ ∧ PySem.W.codeIn G.K cdv x = true ∧ L2.Binds G.K (PySem.W.fnOf x x pg bg sg dV kV doc pm an cdv ct) [a] [] ∧ FnScope M [a] sg ∧ M[0]? = some a ∧ M.length = n ∧ Vis sg a ∧
    ∀ (A : Around) (outer : List PySem.Env) (s : Shared) (H : Hp) (fa : Addr) (fp : Z → Prop) (fs : ∀ z z' : Z, Fut z z' → fp z → fp z') (F : Store → R U),
      (∀ (W' : WX) (pn : List (Addr × Obj)) (xe : Value → Shared → Prop) (p1 p2 : Pos), Takes ((cxOf C8.CX0 P w G.K mg base M x sg g cdv A outer s H C8.E0).tr pn xe) W' →
        PE ((cxOf C8.CX0 P w G.K mg base M x sg g cdv A outer s H C8.E0).tr pn xe) (.Call (.Name a p1) [] [] p2) (VE (G.lam fa fp fs) W' (eAct 0 F))) →
      Room k (A.deeper (envOfC x sg s.heap.objs.size g cdv)) → A.guards = some [] → PSs (cxOf C8.CX0 P w G.K mg base M x sg g cdv A outer s H C8.E0).nox bg (VS (G.lam fa fp fs) (fun _ _ _ _ => False) (gH F))
theorem v_lam {X : Cx} {G : Gd} {W : WX} {x a : Str} {cO Pt : Addr} {k n : Nat} {gH : (Store → R U) → GS} {params : Arguments} {body : Expr} {scope : Scope} {f : EV} {p lpos pos : Pos}
    (Ld : LamD X.prog X.w X.mg X.base G x a (k + 1) n gH) (hK : X.K = G.K) (hg : Gl X x)
    (TB : TabB X.base X.mg cO Pt) (hcode : X.env.code = .ref cO) (hmT : (Pt, X.env.qual ++ "<lambda>") ∈ G.T) (hu : ∀ q ∈ G.T, q.1 = Pt → q.2 = X.env.qual ++ "<lambda>") (hr : Room (k + 2) X.A) (hgd : X.A.guards = some []) (L : LamS X.env.scope scope) (hdef : defaultsOf params X.env = ([], []))
    (hbind : ∀ (q : Str) (cl : List (Str × Addr)) (pm cv ctv : Value), bindArgs (PySem.W.kla_fn "<lambda>" q params body scope cl pm cv ctv) ⟨[], []⟩ = pure [])
    (hbody : ∀ (B : Around) (out : List PySem.Env) (s : Shared) (H : Hp) (E : XK) (f0 c' : Addr), Room k (B.deeper (lamEnv X scope s.heap.objs.size f0 c')) → B.guards = some [] → PE (lamCx X B out s H E scope f0 c') body (VE G (fun c d _ H' => E c d H') f))
    (hdb : (x == ("__debug__" : Str)) = false := by decide) (hd : (a == ("__debug__" : Str)) = false := by decide) (hcd : (a == ("__classdict__" : Str)) = false := by decide) :
    PE X (.Call (.Name x p) [.Lambda params body scope lpos] [] pos) (VE G W (eLam n gH f)) := by
  refine ⟨fun pins s σ H Q I ⟨z, ρ, τ, hz, cz, en, q⟩ => ?_⟩
  subst hz
  obtain ⟨g, pg, bg, sg, dV, kV, doc, pm, cdv, ct, oc, an, od, osl, M, hm, hk, lk, hcg, hb0, Sg, hMa, hMn, hva, run⟩ := Ld.ex
  rw [← hK] at hk lk hcg hb0 run
  refine wpAny_Call_Name_kw (ld_glob I hg hm ?_ hdb)
  refine PySem.W.callWith_K (h₀ := X.base) I.ok.mod.kin hk ?_ (by rfl) (by rfl)
  show wpAny _ _ (spliced ((false, eval (.Lambda params body scope lpos) X.env) :: backTo pos (starEach [] X.env))) _ _ s
  refine Calls.spliced_cons (lam_make2 I TB hcode hmT hu cz.tab hdef (L.has I.ok) fun f0 c' pm' ctv H1 s' I1 eN T1 hf hfn hfr hco => Calls.spliced_nil ⟨I1.kIn, ?_⟩)
  have fu : Fut z ⟨z.S, H1, z.ms⟩ := ⟨Same.refl _, List.prefix_refl _, fun b o e _ t => eN b o e t, fun b o e t => ⟨o, eN b o e t, t⟩, fun _ _ _ _ _ => rfl, fun _ m => .inl m⟩
  have cz1 : Cells G ⟨z.S, H1, z.ms⟩ τ := ⟨fun b o e => eN b o (cz.sub b o e) (cz.nt b o e), cz.len, cz.nd, fun b m => by
    obtain ⟨o, e, q⟩ := cz.al b m
    exact ⟨o, eN b o e q.nt, q⟩, fun j b cl m1 m2 => by
    have w := cz.at_ j b cl m1 m2
    cases cl with
    | dead => exact trivial
    | lst ds => obtain ⟨n, vs, h1, h2⟩ := w; exact ⟨n, vs, eN b _ h1 (by intro _ e; cases e), h2⟩
    | dct ds => obtain ⟨n, vs, h1, h2⟩ := w; exact ⟨n, vs, eN b _ h1 (by intro _ e; cases e), h2⟩
    | dcx ds x0 => obtain ⟨n, o, vs, v, h1, h2, h3⟩ := w; exact ⟨n, o, vs, v, eN b _ h1 (by intro _ e; cases e), h2, h3⟩
    | ins cc ds => obtain ⟨n, dx, vs, h1, h2⟩ := w; exact ⟨n, dx, vs, eN b _ h1 (by intro _ e; cases e), h2⟩, T1, cz.nt⟩
  -- the callee's ground
  let z1 : Z := ⟨z.S, H1, z.ms⟩
  have cO1 : c' ∉ z1.ms := fun m => by
    obtain ⟨o, e, q⟩ := cz1.al c' m
    have e : H1 c' = some o := e
    rw [hco] at e
    cases e
    exact q
  let G' : Gd := G.lam f0 (fun z' => Fut z1 z') fun _ _ h1 h2 => h2.trans h1
  have rc : codeAny (model X.prog X.w) X.A (.call (.ref g) ⟨[.ref f0], []⟩) (CR C8.CX0 X.stack X.prog X.w H1 s' Q C8.E0) s' := by
    refine run_ofS (N := M) (ps := [a]) (us := [.ref f0]) (vs := [.ref f0]) lk hcg Sg hr I1.env0 (hb0 s' [.ref f0] I1.kIn rfl) (.cons rfl .nil) rfl fun hr' => ?_
    have act : ∀ (W' : WX) (pn : List (Addr × Obj)) (xe : Value → Shared → Prop) (p1 p2 : Pos), Takes ((cxOf C8.CX0 X.prog X.w X.K X.mg X.base M x sg g cdv X.A X.stack s' H1 C8.E0).tr pn xe) W' →
        PE ((cxOf C8.CX0 X.prog X.w X.K X.mg X.base M x sg g cdv X.A X.stack s' H1 C8.E0).tr pn xe) (.Call (.Name a p1) [] [] p2) (VE G' W' (eAct 0 fun τ' => f ρ τ')) :=
      fun W' pn xe p1 p2 tk => pe_weak (lam_act (tb := fun E => VE G (fun c d _ H' => E c d H') f) I1 L hf hfn hfr (hbind _ _ _ _ _) tk hr' hgd (fun B out s H E h1 h2 => hbody B out s H E f0 c' h1 h2) hMa hva hd hcd) fun σZ HZ QZ ⟨zZ, ρZ, τZ, hzZ, cZ, enZ, qZ⟩ => by
        subst hzZ
        unfold eAct at qZ
        cases e0 : ρZ[0]? with
        | none => rw [e0] at qZ; exact qZ.elim
        | some o =>
          rw [e0] at qZ
          cases o with
          | none => exact qZ.elim
          | some u0 =>
            cases u0 with
            | d _ => exact qZ.elim
            | loc _ => exact qZ.elim
            | fn =>
              obtain ⟨v, s0, r0⟩ := enZ.at_ 0 _ e0
              cases r0 with
              | fn fz =>
                have fz : Fut z1 zZ := fz
                refine ⟨fun c d H' => W' c d σZ H', fun _ _ _ h => h, s0, fz.frame c' _ hco cO1 codeO_ne, zZ, ρ, τZ, rfl, Cells.cg (G := G') (G' := G) rfl rfl rfl rfl cZ, en.fut (fu.trans fz), ?_⟩
                have qZ : Run G' (RepU G') (match f ρ τZ with
                  | .ok u τ1 => if noFn u = true then .ok u τ1 else .bad
                  | r => r) (fun c d H' => W' c d σZ H') zZ QZ := qZ
                cases er : f ρ τZ with
                | bad => rw [er] at qZ; exact qZ
                | exc c fs τ1 =>
                  rw [er] at qZ
                  exact fun z' dd vs f' c'' s'' r' => qZ z' dd vs f' (Cells.cg (G := G) (G' := G') rfl rfl rfl rfl c'') s'' (RepF.cg (G := G) (G' := G') rfl rfl rfl _ _ r')
                | ok u τ1 =>
                  rw [er] at qZ
                  simp only at qZ
                  by_cases hn : noFn u = true
                  · rw [if_pos hn] at qZ
                    exact fun z' v f' c'' r' => qZ z' v f' (Cells.cg (G := G) (G' := G') rfl rfl rfl rfl c'') (RepU.cg (G := G) (G' := G') rfl rfl rfl hn r')
                  · rw [if_neg hn] at qZ; exact qZ.elim
    refine ⟨_, (run X.A X.stack s' H1 f0 (fun z' => Fut z1 z') (fun _ _ h1 h2 => h2.trans h1) (fun τ' => f ρ τ') act hr' hgd).nox, ?_⟩
    have en0 : EnvR G' z1 ([U.fn].map some ++ List.replicate (M.length - 1) none) (L2.start M [V.ref f0]) := env_start (N := M) (.cons (.fn (Fut.refl z1)) .nil)
    refine ⟨z1, [U.fn].map some ++ List.replicate (M.length - 1) none, τ, rfl, Cells.cg (G := G) (G' := G') rfl rfl rfl rfl cz1, en0, ?_⟩
    rw [hMn]
    have q1 := q.pre fu
    unfold eLam at q1
    have hρ : [U.fn].map some ++ List.replicate (n - 1) none = (some U.fn :: List.replicate (n - 1) none : VL.Env) := rfl
    rw [hρ]
    cases er : gH (fun τ' => f ρ τ') (some U.fn :: List.replicate (n - 1) none) τ with
    | bad => rw [er] at q1; exact q1.elim
    | bk ρ' τ' => rw [er] at q1; exact q1.elim
    | ct ρ' τ' => rw [er] at q1; exact q1.elim
    | exc c fs ρ' τ' => rw [er] at q1; exact q1.elim
    | nx ρ' τ' =>
      rw [er] at q1
      exact fun z' σ' f' c'' en' => ret_ok (u := .d .non) (v := .non) cz1 f' (Cells.cg (G := G') (G' := G) rfl rfl rfl rfl c'') (.d .non) q1
    | rt u τ' =>
      rw [er] at q1
      intro z' v f' c'' r'
      by_cases hn : noFn u = true
      · exact ret_ok cz1 f' (Cells.cg (G := G') (G' := G) rfl rfl rfl rfl c'') (RepU.cg (G := G') (G' := G) rfl rfl rfl hn r') q1
      · cases u with
        | d _ => exact absurd rfl hn
        | loc _ => exact absurd rfl hn
        | fn => exact q1.elim
  refine wpAny_call (codeAny_mono rc fun r s2 hq => ?_)
  match r, hq with
  | .error e, hq => exact (show False from hq).elim
  | .ok (.ret u), hq => exact I1.after hq
end VL

/-! The value layer, H: the end of a law's row. -/
namespace VL
open PySem PySem.Spec PyProof.Rows L2 LamX
/-- the tables alone -/
def tabH (l : List Addr) : Hp := fun b => if b ∈ l then some (.tbl #[]) else none
/-- and the script -/
def scrH (l : List Addr) (a : Addr) (u : HO) : Hp := fun b => if b = a then some u else tabH l b
/-- what may be shared at the beginning: all but the tables -/
def shared0 (H : Hp) : Hp := fun b => match H b with
  | some (.tbl _) => none
  | o => o
theorem shared0_some {H : Hp} {b : Addr} {o : HO} (e : shared0 H b = some o) : H b = some o ∧ notTbl o := by
  unfold shared0 at e
  cases q : H b with
  | none => rw [q] at e; cases e
  | some u =>
    rw [q] at e
    cases u <;> first
      | (cases e; done)
      | (cases e; exact ⟨rfl, fun _ z => by cases z⟩)
theorem shared0_of {H : Hp} {b : Addr} {o : HO} (e : H b = some o) (n : notTbl o) : shared0 H b = some o := by
  unfold shared0
  rw [e]
  cases o <;> first
    | rfl
    | exact absurd rfl (n _)
theorem start_cells {G : Gd} {H : Hp} (hT : ∀ p ∈ G.T, H p.1 = some (.tbl #[])) : Cells G ⟨shared0 H, H, []⟩ [] :=
  ⟨fun b o e => (shared0_some e).1, rfl, List.nodup_nil, fun b m => (by cases m), fun i b cl e => (by simp at e), fun p hp => TabS.nil (hT p hp), fun b o e => (shared0_some e).2⟩
/-- the law's def, asked by the judge -/
theorem law_asked {P : Program} {w : World} {G : Gd} {mg mb : Str → Option Value} {k : Nat} {fa a : Addr} {cs : List (Addr × Addr)} {fd : FuncData} {x : Str} {Fn : List U → Store → R U} {s : Shared} {vs : List Value} {ns : List Int}
    (KX : G.K.In s.heap) (hgl : s.heap.Ns mainGlobals mg) (hbl : s.heap.Ns builtinsNs mb) (hbb : ∀ x : Str, x ≠ "__name__" → mb x = bootBuiltins x) (hlim : s.heap.NoLimit) (hge : s.gens = #[])
    (hT : ∀ p ∈ cs, s.heap.get? p.2 = some { cls := .none, data := .fields #[] }) (nT : ∀ p ∈ cs, G.K.lookup p.2 = none) (C : ∀ p ∈ cs, PySem.W.CodeHd s.heap p.1 p.2) (hG : ∀ q ∈ G.T, q.1 ∈ cs.map (·.2))
    (hbm : ∃ (bm : Addr) (ob : Obj), mg "__builtins__" = some (.ref bm) ∧ bm ≠ builtinsNs ∧ s.heap.get? bm = some ob ∧ ob.cls = .type "module" ∧ ob.dict = some builtinsNs ∧ ob.data = .plain)
    (ha : s.heap.get? a = some { cls := .type "list", data := .seq vs.toArray }) (hi : IntsAre vs ns) (hz : ns.length ≤ sizeLine) (room : Room k callerA)
    (F : ∀ base : Heap, G.K.In base → base.Ns mainGlobals mg → (∀ p ∈ cs, TabB base mg p.1 p.2) → FnV P w G.K mg base k fa fd [x] (spV G 1 Fn)) (hbd : ∀ (s : Shared) (u : Value), BindsTo s fd ⟨[u], []⟩ [(x, u)])
    (hFn : ∃ τ, Fn [.d (.fl (ns.map .int))] [] = .ok (.d (.bl true)) τ) :
    codeAny (model P w) callerA (.call (.ref fa) ⟨[.ref a], []⟩) (fun r s' => r = .ok (.ret (.bool true)) ∧ OldK s.heap s'.heap ∧ s'.os = s.os ∧ AllBare s'.gens) s := by
  have rel := vals_ints hi
  have len := hi.length
  have tb : ∀ b ∈ cs.map (·.2), s.heap.get? b = some { cls := .none, data := .fields #[] } ∧ G.K.lookup b = none ∧ ∃ c, PySem.W.CodeHd s.heap c b := by
    intro b m
    obtain ⟨p, m1, rfl⟩ := List.mem_map.mp m
    exact ⟨hT p m1, nT p m1, p.1, C p m1⟩
  have na : a ∉ cs.map (·.2) := fun m => by
    have q := (tb a m).1
    rw [ha] at q
    have := congrArg Obj.data (Option.some.inj q)
    cases this
  -- what is tracked: the tables, and the script or not
  have go : ∀ H : Hp, (∀ b, H b = tabH (cs.map (·.2)) b ∨ (b = a ∧ G.K.lookup a = none ∧ H b = some (.frz { cls := .type "list", data := .seq vs.toArray } (.lst (ns.map V.int))))) → SqL G.K H a (ns.map V.int) →
      codeAny (model P w) callerA (.call (.ref fa) ⟨[.ref a], []⟩) (fun r s' => r = .ok (.ret (.bool true)) ∧ OldK s.heap s'.heap ∧ s'.os = s.os ∧ AllBare s'.gens) s := by
    intro H hH hS
    have on : ∀ b ∈ cs.map (·.2), H b = some (.tbl #[]) := fun b m => by
      rcases hH b with e | ⟨e, _⟩
      · rw [e]; exact if_pos m
      · exact absurd (e ▸ m) na
    have kinds : ∀ b u, H b = some u → (b ∈ cs.map (·.2) ∧ u = .tbl #[]) ∨ (b = a ∧ G.K.lookup a = none ∧ u = .frz { cls := .type "list", data := .seq vs.toArray } (.lst (ns.map V.int))) := fun b u e => by
      rcases hH b with q | ⟨q1, q2, q3⟩
      · rw [q] at e
        unfold tabH at e
        split at e
        · rename_i m
          cases e
          exact .inl ⟨m, rfl⟩
        · cases e
      · rw [q3] at e
        cases e
        exact .inr ⟨q1, q2, rfl⟩
    have hok : HOk P w H s.heap := fun b u e => by
      rcases kinds b u e with ⟨m, rfl⟩ | ⟨rfl, _, rfl⟩
      · exact (tb b m).1
      · exact ⟨ha, by rw [List.length_map]; exact hz, vs, _, rel, ha⟩
    -- an object that is neither a sequence nor an empty table is not tracked
    have clear : ∀ {b : Addr} {o : Obj}, s.heap.get? b = some o → (∀ us n, o.data ≠ .seq us n) → o.data ≠ .fields #[] → H b = none := by
      intro b o e n1 n2
      cases q : H b with
      | none => rfl
      | some u =>
        rcases kinds b u q with ⟨m, _⟩ | ⟨rfl, _, _⟩
        · have := (tb b m).1
          rw [e] at this
          cases this
          exact absurd rfl n2
        · rw [ha] at e
          cases e
          exact absurd rfl (n1 _ _)
    have keep : ∀ {b : Addr} {o : Obj}, s.heap.get? b = some o → H b = none → (hidT s.heap H).get? b = some o := fun e n => hidT_get e n
    have ns_ : ∀ {b : Addr} {m : Str → Option Value}, s.heap.Ns b m → (hidT s.heap H).Ns b m := by
      rintro b m ⟨o, es, ep, e, d, r⟩
      exact ⟨o, es, ep, keep e (clear e (fun us n z => by rw [d] at z; cases z) fun z => by rw [d] at z; cases z), d, r⟩
    have kin : G.K.In (hidT s.heap H) := fun b o e => keep (KX b o e) (by
      cases q : H b with
      | none => rfl
      | some u =>
        rcases kinds b u q with ⟨m, _⟩ | ⟨rfl, n, _⟩
        · rw [(tb b m).2.1] at e; cases e
        · rw [n] at e; cases e)
    have md : L2.Mod G.K mg (hidT s.heap H) := by
      refine ⟨kin, ns_ hgl, ⟨mb, ns_ hbl, hbb⟩, ?_⟩
      obtain ⟨mc, q1, q2⟩ := hlim
      exact ⟨mc, ns_ q1, q2⟩
    have TB : ∀ p ∈ cs, TabB (hidT s.heap H) mg p.1 p.2 := by
      intro p m
      have hp := hT p m
      refine ⟨?_, ?_, fun z => ?_⟩
      · obtain ⟨o, us, file, tf, flags, tg, inF, text, tt, q1, q2, q3, q4, qs⟩ := C p m
        refine ⟨o, us, file, tf, flags, tg, inF, text, tt, keep q1 (clear q1 (fun us' n z => by rw [q3] at z; cases z) fun z => ?_), q2, q3, q4, qs⟩
        rw [q3] at z
        cases z
        simp at q4
      · obtain ⟨bm, ob, b1, b2, b3, b4, b5, b6⟩ := hbm
        refine ⟨bm, ob, b1, b2, fun q => ?_, fun q => ?_, keep b3 (clear b3 (fun us n z => by rw [b6] at z; cases z) fun z => by rw [b6] at z; cases z), b4, b5, b6⟩
        · obtain ⟨o, es, ep, e, hd, _⟩ := hgl
          rw [q, e] at b3
          cases b3
          rw [hd] at b6
          cases b6
        · rw [q, hp] at b3
          cases b3
          cases b6
      · obtain ⟨o, es, ep, e, hd, _⟩ := hgl
        rw [z, hp] at e
        cases e
        cases hd
    have e0 : Env0 P w G.K mg (hidT s.heap H) callerA [] s H := ⟨rfl, md, fun b o e => of_hidT e, Nat.le_of_eq (hidT_size _ _), trivial, fun b m => absurd (show b ∈ ([] : List Addr) from m) (by simp), hok, .of_eq hge⟩
    obtain ⟨τ, hτ⟩ := hFn
    have sp : spV G 1 Fn [.ref a] H (fun v _ => v = .bl true) fun _ _ _ => False := by
      refine ⟨⟨shared0 H, H, []⟩, [.d (.fl (ns.map .int))], [], rfl, start_cells fun q m => on _ (hG q m), .cons (.d (.fl ?_ (reps_ints ns))) .nil, rfl, ?_⟩
      · rcases hS with (h | ⟨o, h⟩) | h
        · exact .inl (.inl (shared0_of h fun _ z => by cases z))
        · exact .inl (.inr ⟨o, shared0_of h fun _ z => by cases z⟩)
        · exact .inr h
      · rw [hτ]
        intro z' b f c r
        cases r with
        | d r => cases r; rfl
    refine codeAny_mono ((F _ kin (ns_ hgl) TB).run callerA [] s H ⟨[.ref a], []⟩ [.ref a] [.ref a] _ _ room rfl e0 (hbd s (.ref a)) (.cons rfl .nil) sp) fun r s' h => ?_
    match r, h with
    | .error e, h =>
      obtain ⟨_, _, _, _, _, _, _, _, _, _, _, _, _, _, _, _, z⟩ := h
    | .ok (.ret u), h =>
      obtain ⟨v, H', os, bare, un, hok', r', rfl⟩ := h
      obtain rfl : u = Value.bool true := r'
      have still : ∀ b o, b ∉ cs.map (·.2) → s.heap.get? b = some o → s'.heap.get? b = some o := by
        intro b o nb e
        cases q : H b with
        | none => exact un.keep b o e q (by intro z; exact absurd (show b ∈ ([] : List Addr) from z) (by simp)) (by simp)
        | some u =>
          rcases kinds b u q with ⟨m, _⟩ | ⟨_, _, rfl⟩
          · exact absurd m nb
          · have e2 := (hok' b _ (un.frzs b _ _ q)).1
            rw [(hok b _ q).1] at e
            cases e
            exact e2
      have grew : ∀ b ∈ cs.map (·.2), ∃ more : Array Value, s'.heap.get? b = some { cls := .none, data := .fields more } := fun b m => by
        obtain ⟨more, z⟩ := un.tbls b #[] (on b m)
        exact ⟨_, hok' b _ z⟩
      refine ⟨rfl, ⟨fun b o e => ?_, fun b o e => ?_⟩, os, bare⟩
      · by_cases m : b ∈ cs.map (·.2)
        · obtain ⟨more, hm⟩ := grew b m
          obtain ⟨t1, _, c, t2⟩ := tb b m
          rw [t1] at e
          cases e
          exact .inr (.inl ⟨(t2.tab t1).isCodeTable, rfl, #[], more, rfl, by rw [Array.empty_append]; exact hm⟩)
        · exact .inl (still b o m e)
      · by_cases m : b ∈ cs.map (·.2)
        · obtain ⟨more, hm⟩ := grew b m
          exact ⟨_, hm⟩
        · exact ⟨o, still b o m e⟩
  cases hk : G.K.lookup a with
  | none => exact go (scrH (cs.map (·.2)) a (.frz { cls := .type "list", data := .seq vs.toArray } (.lst (ns.map V.int)))) (fun b => by
      by_cases q : b = a
      · exact .inr ⟨q, hk, if_pos q⟩
      · exact .inl (if_neg q)) (.inl (.inr ⟨_, if_pos rfl⟩))
  | some o =>
    have e := KX a o hk
    rw [ha] at e
    cases e
    exact go (tabH (cs.map (·.2))) (fun b => .inl rfl) (.inr ⟨_, vs.toArray, _, hk, rfl, rfl, rfl, by rw [List.size_toArray, len]; exact hz, by simpa using rel⟩)
/-- what is known at the head's heap -/
def AskV (l : PySem.W.OpenLaw) (w : World) (K : PySem.W.Frag) (k n : Nat) (x : Str) (mg : Str → Option Value) (fa : Addr) (h : Heap) : Prop :=
  ∃ (fd : FuncData) (cs : List (Addr × Addr)) (G : Gd) (Fn : List U → Store → R U), G.K = K ∧ (∀ p ∈ cs, h.get? p.2 = some { cls := .none, data := .fields #[] }) ∧ (∀ p ∈ cs, K.lookup p.2 = none) ∧ (∀ p ∈ cs, PySem.W.CodeHd h p.1 p.2) ∧ (∀ q ∈ G.T, q.1 ∈ cs.map (·.2)) ∧
    (∀ (s : Shared) (u : Value), BindsTo s fd ⟨[u], []⟩ [(x, u)]) ∧ (∀ ns : List Int, ns.length ≤ n → (∀ z ∈ ns, Builtin.Int.intBits z ≤ 1048576) → ∃ τ, Fn [.d (.fl (ns.map .int))] [] = .ok (.d (.bl true)) τ) ∧
    ∀ base : Heap, K.In base → base.Ns mainGlobals mg → (∀ p ∈ cs, TabB base mg p.1 p.2) → FnV l.prog w K mg base k fa fd [x] (spV G 1 Fn)
theorem walk_of_ask {l : PySem.W.OpenLaw} {n k : Nat} {q : Program} {loose : List Str} {XP : (Str → Option Value) → Heap → Prop} {YP : World → Heap → Prop} {d : DefRec} {K : Params → PySem.W.Frag} {x : Str}
    (hn : l.most = some n) (hn2 : n ≤ sizeLine) (hdf : d.params.defaults = []) (room : Room k callerA) (hY : ∀ (w : World) (h : Heap), YP w h → (K w.params).In h)
    (F : ∀ (w : World) (mg : Str → Option Value) (fa : Addr) (h : Heap), YP w h → (K w.params).In h → h.Ns mainGlobals mg → mg d.name = some (.ref fa) → AskV l w (K w.params) k n x mg fa h) :
    PySem.W.WalkO q loose XP YP l.row.toRowW d [] (fun f vs => PySem.call f vs) := by
  refine Att.attach_callB hn hdf fun w s₀ s₁ mg mb fa o pm cd doc a vs ns G Y ho hd hcd hmg hobj hints hlen hbits hg => ?_
  have KX := hY w _ Y
  obtain ⟨fd, cs, Gd, Fn, hK, a1, a2, a3, a4, a5, a6, a7⟩ := F w mg fa _ Y KX G.T.g hmg
  rw [← hK] at KX a2 a7
  exact law_asked KX G.T.g G.T.b G.T.builtins G.T.nolimit hg a1 a2 a3 a4 G.T.bmain hobj hints (Nat.le_trans hlen hn2) room a7 a5 (a6 ns hlen hbits)
end VL

/-! The value layer, I: defs by name, several targets, what a def hands out to be changed. -/
namespace VL
open PySem PySem.Spec PyProof.Rows L2 LamX

/-! ### what is handed out to be changed -/
/-- the caller's cells and one behind them -/
def retO (n0 : Nat) (u : U) (τ : Store) : R U := match u with
  | .loc m => if m < n0 then .bad else match τ[m]? with
    | some (.lst ds) => .ok (.loc n0) (τ.take n0 ++ [.lst ds])
    | some (.dct kvs) => .ok (.loc n0) (τ.take n0 ++ [.dct kvs])
    | _ => .bad
  | _ => .bad
def outO (n0 : Nat) : RS → R U
  | .rt u τ => retO n0 u τ
  | .exc c fs _ τ => .exc c fs (τ.take n0)
  | _ => .bad
def callO (n : Nat) (g : GS) (us : List U) (τ : Store) : R U := outO τ.length (g (us.map some ++ List.replicate (n - us.length) none) τ)
section
variable {G : Gd} {z z' : Z} {τ : Store}
theorem retO_ok {τ' : Store} {u : U} {v : V} {E : XK} {Q : VK} (c : Cells G z τ) (f : Fut z z') (c' : Cells G z' τ') (r : RepU G z' u v) (q : Run G (RepU G) (retO τ.length u τ') E z Q) : Q v z'.H := by
  cases r with
  | d h => exact q.elim
  | fn => exact q.elim
  | @loc m a h =>
    unfold retO at q
    simp only at q
    by_cases hm : m < τ.length
    · rw [if_pos hm] at q; exact q.elim
    · rw [if_neg hm] at q
      have e0 : z'.ms.take τ.length = z.ms := by rw [← c.len]; exact take_pre f.pre
      have out : a ∉ z.ms := fun mem => by
        obtain ⟨j, hj⟩ := List.getElem?_of_mem mem
        have hl := (List.getElem?_eq_some_iff.mp hj).1
        rw [c.len] at hl
        have e := nd_ix c'.nd h (pre_get f.pre hj)
        omega
      have hne : ∀ o, z.H a = some o → ¬ notTbl o := (f.new a (List.mem_of_getElem? h)).elim (fun mem => absurd mem out) id
      have key : ∀ cl : Cell, CellR G z'.S z'.H a cl → (∃ o, z'.H a = some o ∧ pln o) → Run G (RepU G) (.ok (.loc τ.length) (τ'.take τ.length ++ [cl])) E z Q → Q (.ref a) z'.H := by
        intro cl w hp q
        refine q ⟨z'.S, z'.H, z.ms ++ [a]⟩ (.ref a) ⟨f.ss, List.prefix_append _ _, f.frame, f.dom, f.claim, fun b mb => ?_⟩ ?_ (.loc ?_)
        · rcases List.mem_append.mp mb with mb | mb
          · exact .inl mb
          · rw [List.mem_singleton.mp mb]; exact .inr hne
        · have cb := cells_back c' τ.length
          have len2 : z.ms.length = (τ'.take τ.length).length := by rw [← e0]; exact cb.len
          refine ⟨c'.sub, by simp only [List.length_append, List.length_singleton, len2], ?_, fun b mb => ?_, fun i b cl' g1 g2 => ?_, c'.tab, c'.nt⟩
          · refine List.nodup_append.mpr ⟨c.nd, by simp, fun x hx y hy => ?_⟩
            rw [List.mem_singleton.mp hy]
            exact fun z1 => out (z1 ▸ hx)
          · rcases List.mem_append.mp mb with mb | mb
            · exact c'.al b (by rw [← e0] at mb; exact List.mem_of_mem_take mb)
            · rw [List.mem_singleton.mp mb]; exact hp
          · by_cases hi : i < z.ms.length
            · have g1 : (z.ms ++ [a])[i]? = some b := g1
              rw [List.getElem?_append_left hi] at g1
              rw [List.getElem?_append_left (by rw [← len2]; exact hi)] at g2
              refine cb.at_ i b cl' ?_ g2
              show (z'.ms.take τ.length)[i]? = some b
              rw [e0]; exact g1
            · have g1 : (z.ms ++ [a])[i]? = some b := g1
              have hl := (List.getElem?_eq_some_iff.mp g1).1
              have hi2 : i = z.ms.length := by rw [List.length_append, List.length_singleton] at hl; omega
              subst hi2
              rw [List.getElem?_append_right (Nat.le_refl _)] at g1
              rw [len2, List.getElem?_append_right (Nat.le_refl _)] at g2
              simp only [Nat.sub_self, List.getElem?_cons_zero, Option.some.injEq] at g1 g2
              subst g1 g2
              exact w
        · show (z.ms ++ [a])[τ.length]? = some a
          rw [← c.len, List.getElem?_append_right (Nat.le_refl _)]
          simp
      cases e : τ'[m]? with
      | none => rw [e] at q; exact q.elim
      | some cl =>
        have w := c'.at_ m a cl h e
        rw [e] at q
        cases cl with
        | lst ds =>
          obtain ⟨_, vs, h1, _⟩ := w
          exact key _ (c'.at_ m a _ h e) ⟨_, h1, trivial⟩ q
        | dct ds =>
          obtain ⟨_, vs, h1, _⟩ := w
          exact key _ (c'.at_ m a _ h e) ⟨_, h1, trivial⟩ q
        | _ => exact q.elim
/-- a def that hands out a list to be changed -/
theorem fn_bodyO {P : Program} {w : World} {K : PySem.W.Frag} {mg : Str → Option Value} {base : Heap} {x qual : Str} {st : Stmt} {f : Addr} {fd : FuncData} {N ps : List Str} {k n : Nat} {g : GS} (F : Fun K x qual st f fd) (S : FnScope N ps (defScope st)) (hn : ps.length = n)
    (hbody : ∀ (cdv : Value) (A : Around) (outer : List PySem.Env) (s : Shared) (H : Hp) (E : XK), Room k (A.deeper (envOfC qual (defScope st) s.heap.objs.size f cdv)) → A.guards = some [] →
      PSs (cxOf (L2.CX P w) P w K mg base N qual (defScope st) f cdv A outer s H E) (defBody st) (VS G (fun c d _ H => E c d H) g)) : FnV P w K mg base (k + 1) f fd ps (spV G n (callO N.length g)) := by
  refine fnv_mk F S (spV_len hn) fun cdv A outer s H vs Q E hr hg hsp => ⟨_, hbody cdv A outer s H E hr hg, ?_⟩
  obtain ⟨z, us, τ, hz, c, r, hl, q⟩ := hsp
  subst hz
  refine ⟨z, us.map some ++ List.replicate (N.length - us.length) none, τ, rfl, c, env_start r, ?_⟩
  unfold callO at q
  cases e : g (us.map some ++ List.replicate (N.length - us.length) none) τ with
  | rt u τ' =>
    rw [e] at q
    exact fun z' v f' c' r' => retO_ok c f' c' r' q
  | exc cc fs ρ τ' =>
    rw [e] at q
    exact fun z' dd vs σ' f' c' en' s' r' => q (z'.back τ.length) dd vs (fut_back c f') (cells_back c' _) s' r'
  | nx ρ τ' => rw [e] at q; exact q.elim
  | bk ρ τ' => rw [e] at q; exact q.elim
  | ct ρ τ' => rw [e] at q; exact q.elim
  | bad => rw [e] at q; exact q.elim
end

/-! ### a def by its name -/
structure DefE (P : Program) (w : World) (mg : Str → Option Value) (base : Heap) (G : Gd) (x : Str) (k n : Nat) (ps : List Str) (F : List U → Store → R U) : Prop where
  ex : ∃ f fd, mg x = some (.ref f) ∧ PySem.W.keepIn G.K (.ref f) = true ∧ FnV P w G.K mg base k f fd ps (spV G n F) ∧ Bnd0 fd ps n ∧ (n = 1 → Bnd G.K fd ps 0 ps [] [0])
section
variable {P : Program} {w : World} {mg : Str → Option Value} {base : Heap} {G : Gd}
theorem bnd0_of {x qual : Str} {st : Stmt} {f : Addr} {fd : FuncData} {ps : List Str} {n : Nat} (F : Fun G.K x qual st f fd) (h : ∀ (kV doc pm : Value) (an : Option Addr) (cdv ct : Value) (us : List Value), us.length = n → bindArgs (PySem.W.fnOf x qual (defArgs st) (defBody st) (defScope st) .none kV doc pm an cdv ct) ⟨us, []⟩ = pure (ps.zip us)) : Bnd0 fd ps n := by
  obtain ⟨oc, od, kV, doc, pm, an, cdv, ct, osl, rfl, lk, hcd⟩ := F.ex
  exact ⟨fun s us hl => BindsTo.of_eq (h kV doc pm an cdv ct us hl)⟩
theorem bnd1_of {x qual : Str} {st : Stmt} {f : Addr} {fd : FuncData} {p : Str} (F : Fun G.K x qual st f fd) (h : ∀ (kV doc pm : Value) (an : Option Addr) (cdv ct u : Value), bindArgs (PySem.W.fnOf x qual (defArgs st) (defBody st) (defScope st) .none kV doc pm an cdv ct) ⟨[], [(p, u)]⟩ = pure [(p, u)]) : Bnd G.K fd [p] 0 [p] [] [0] := by
  obtain ⟨oc, od, kV, doc, pm, an, cdv, ct, osl, rfl, lk, hcd⟩ := F.ex
  refine ⟨fun s us ws _ h1 h2 => ?_⟩
  match us, ws, h1, h2 with
  | [], [u], _, _ => exact BindsTo.of_eq (h kV doc pm an cdv ct u)
end
section
variable {X : Cx} {G : Gd} {W : WX} {k j n : Nat} {ps : List Str} {F : List U → Store → R U} {x : Str} {p pos : Pos} {e : Expr} {es : List Expr} {fs : EL}
theorem v_callE (V : DefE X.prog X.w X.mg X.base G x k n ps F) (hK : X.K = G.K) (hr : Room j X.A) (hj : k ≤ j) (hgd : X.A.guards = some []) (tk : Takes X W) (ha : PA X (e :: es) (VA G W fs)) (hg : Gl X x)
    (hdb : (x == ("__debug__" : Str)) = false := by decide) (he : starEach (e :: es) X.env = (false, eval e X.env) :: starEach es X.env := by rfl) (hpl : (backTo pos (starEach es X.env)).any (·.1) = false := by rfl) :
    PE X (.Call (.Name x p) (e :: es) [] pos) (VE G W (eCall n F fs)) := by
  obtain ⟨f, fd, h1, h2, h3, h4, _⟩ := V.ex
  rw [← hK] at h2 h3
  exact v_call h3 (hr.mono hj) hgd tk h1 h2 h4 ha hg hdb he hpl
/-- f(p=e) -/
theorem v_callKE {q : Str} {kpos : Pos} {f0 : EV} (V : DefE X.prog X.w X.mg X.base G x k 1 [q] F) (hK : X.K = G.K) (hr : Room j X.A) (hj : k ≤ j) (hgd : X.A.guards = some []) (tk : Takes X W) (ha : PE X e (VE G W f0)) (hg : Gl X x)
    (hall : (backToKw pos (keywordEach [⟨some q, e, kpos⟩] X.env)).all (·.1.isSome) = true := by rfl) (hks : (backToKw pos (keywordEach [⟨some q, e, kpos⟩] X.env)).filterMap (·.1) = [q] := by rfl)
    (hdb : (x == ("__debug__" : Str)) = false := by decide) (hpl : ((backTo pos (starEach [] X.env)).any (·.1) || (backToKw pos (keywordEach [⟨some q, e, kpos⟩] X.env)).any (·.1.isNone)) = false := by rfl) :
    PE X (.Call (.Name x p) [] [⟨some q, e, kpos⟩] pos) (VE G W (eCallK 0 1 [0] [] F elNil (elCons f0 elNil))) := by
  obtain ⟨f, fd, h1, h2, h3, _, h5⟩ := V.ex
  have h5 := h5 rfl
  rw [← hK] at h2 h3 h5
  refine v_callK0 (n := 1) (vds := []) h3 (hr.mono hj) hgd tk h1 h2 h5 .nil (fun _ => .nil) rfl rfl (fun l hl => ?_) (vp_cons ha vp_nil) hg hall hks hdb hpl
  match l, hl with
  | [u], _ => rfl
theorem v_globE {d : D} {v : V} (h : ∃ u, X.mg x = some u ∧ RelV v u) (hg : Gl X x) (r : ∀ S, Rep G S d v) (hd : (x == ("__debug__" : Str)) = false := by decide) : PE X (.Name x pos) (VE G W (eC d)) := by
  obtain ⟨u, h1, h2⟩ := h
  exact v_glob hg h1 h2 r hd
end

/-! ### several targets -/
def setN : List Nat → List U → Env → Option Env
  | [], [], ρ => some ρ
  | i :: is, u :: us, ρ => setN is us (ρ.set i (some u))
  | _, _, _ => none
/-- a, b, c = e, f, g: each name its own -/
def gParN (is : List Nat) (fs : EL) : GS := fun ρ τ => liftE (fs ρ τ) ρ fun us τ1 => match setN is us ρ with
  | some ρ' => .nx ρ' τ1
  | none => .bad
def gConsN : List Nat → TGs
  | [] => L2.gNil
  | i :: is => gCons (gName i) (gConsN is)
theorem setN_ok {G : Gd} {z : Z} : ∀ {is : List Nat} {us : List U} {vs : List V} {ρ ρ' : Env} {σ : L2.St} {Q : L2.St → Hp → Prop}, RepUs G z us vs → EnvR G z ρ σ → setN is us ρ = some ρ' → (∀ σ', EnvR G z ρ' σ' → Q σ' z.H) → gConsN is vs σ z.H Q ∧ vs.length = is.length
  | [], _, _, _, _, _, _, .nil, en, e, k => by cases e; exact ⟨⟨rfl, k _ en⟩, rfl⟩
  | [], _, _, _, _, _, _, .cons _ _, en, e, k => by cases e
  | i :: is, _, _, _, _, _, _, .nil, en, e, k => by cases e
  | i :: is, _, _, _, _, _, _, .cons r t, en, e, k => by
    obtain ⟨h1, h2⟩ := setN_ok (is := is) t (en.set (i := i) r) e k
    exact ⟨⟨_, _, rfl, h1⟩, by simp [h2]⟩
theorem s_parN {X : Cx} {G : Gd} {W : WX} {is : List Nat} {ts es : List Expr} {fs : EL} {kt k2 : Nat} {pt pt2 pos : Pos} (hc : X.calm = true) (ha : PA X es (VA G W fs)) (ht : PGs X ts (gConsN is))
    (hn : (assignEach ts X.env).length = is.length := by rfl) (hst : (assignEach ts X.env).findIdx? (·.1) = none := by rfl) (hs : swapsWithSole [.Tuple ts kt pt] (.Tuple es k2 pt2) pos.line X.env = pure false := by rfl) (hw : swappedStores [.Tuple ts kt pt] (.Tuple es k2 pt2) X.env = pure none := by rfl)
    (h1 : (assignEach [.Tuple ts kt pt] X.env).map (·.2) = [assign (.Tuple ts kt pt) X.env] := by rfl) (hz : is.length ≤ 1000 := by decide) :
    PS X (.Assign [.Tuple ts kt pt] (.Tuple es k2 pt2) pos) (VS G W (gParN is fs)) :=
  ps_weak (ps_asg (pe_tup ha) (pg_tup hc ht hn hst) hs hw h1) fun D σ H ⟨z, ρ, τ, hz', c, en, q⟩ => ⟨z, ρ, τ, hz', c, en, (RunS.lift (rep := RepUs G) en q).imp fun vs H1 ⟨z1, us, τ1, e1, f, c1, r1, q1⟩ => by
    subst e1
    cases e2 : setN is us ρ with
    | none => rw [e2] at q1; exact q1.elim
    | some ρ' =>
      rw [e2] at q1
      have len : vs.length = is.length := (setN_ok (Q := fun _ _ => True) r1 (en.fut f) e2 fun _ _ => trivial).2
      have small : is.length ≤ sizeLine := by rw [sizeLine_eq]; omega
      refine ⟨by rw [len]; exact small, fun p hp => ?_⟩
      have ff : Fut z1 ⟨upd z1.S p (.tup vs), upd z1.H p (.tup vs), z1.ms⟩ := fut_sh (c1.none_ hp) hp
      have cc : Cells G ⟨upd z1.S p (.tup vs), upd z1.H p (.tup vs), z1.ms⟩ τ1 := cells_sh c1 hp
      refine ⟨p, vs, rfl, SqT.of upd_same, by rw [len], ?_⟩
      exact (setN_ok (z := ⟨upd z1.S p (.tup vs), upd z1.H p (.tup vs), z1.ms⟩) (r1.fut ff) (en.fut (f.trans ff)) e2 fun σ' en' => RunS.nx_ (RunS.pre q1 ff) cc en').1⟩
/-- a, b, c = e, f, g, plain local names -/
def gPar3 (i j l : Nat) (fs : EL) : GS := fun ρ τ => liftE (fs ρ τ) ρ fun us τ1 => match us with
  | [u, v, w] => .nx (((ρ.set i (some u)).set j (some v)).set l (some w)) τ1
  | _ => .bad
theorem s_par3 {X : Cx} {G : Gd} {W : WX} {i j l : Nat} {x y z : Str} {a b c : Expr} {fs : EL} {px py pz pt pos : Pos} {kt k2 pt2} (hc : X.calm = true) (hN : X.N.Nodup) (hi : X.N[i]? = some x) (hj : X.N[j]? = some y) (hl : X.N[l]? = some z) (hij : i ≠ j) (hil : i ≠ l) (hjl : j ≠ l)
    (hx : X.env.scope.names.lookup x = some .local) (hy : X.env.scope.names.lookup y = some .local) (hz : X.env.scope.names.lookup z = some .local) (ha : PA X [a, b, c] (VA G W fs))
    (hw : swappedStores [.Tuple [.Name x px, .Name y py, .Name z pz] kt pt] (.Tuple [a, b, c] k2 pt2) X.env = pure (some [x, y, z]))
    (hs : swapsWithSole [.Tuple [.Name x px, .Name y py, .Name z pz] kt pt] (.Tuple [a, b, c] k2 pt2) pos.line X.env = pure false := by rfl) :
    PS X (.Assign [.Tuple [.Name x px, .Name y py, .Name z pz] kt pt] (.Tuple [a, b, c] k2 pt2) pos) (VS G W (gPar3 i j l fs)) :=
  ps_weak (ps_par3 hc hN hi hj hl hij hil hjl hx hy hz ha hw hs) fun D σ H ⟨zz, ρ, τ, hz, cc, en, q⟩ => ⟨zz, ρ, τ, hz, cc, en, (RunS.lift (rep := RepUs G) en q).imp fun vs H1 ⟨z1, us, τ1, e1, f, c1, r1, q1⟩ => by
    subst e1
    match us, r1, q1 with
    | [u, v, w], .cons ru (.cons rv (.cons rw' .nil)), q1 => exact ⟨_, _, _, rfl, RunS.nx_ q1 c1 ((((en.fut f).set ru).set rv).set rw')⟩
    | [], _, q1 => exact q1.elim
    | [_], _, q1 => exact q1.elim
    | [_, _], _, q1 => exact q1.elim
    | _ :: _ :: _ :: _ :: _, _, q1 => exact q1.elim⟩

/-! ### split into a list to be changed, an empty dict -/
def mSplitO : D → List D → Store → R U
  | .str a, [.str b], τ => if b ≠ [] ∧ b.all (· < 256) = true ∧ a.length + 2 ≤ sizeLine then .ok (.loc τ.length) (τ ++ [.lst ((TL.spl b 0 [] a).map .str)]) else .bad
  | _, _, _ => .bad
section
variable {X : Cx} {G : Gd} {W : WX} {e o : Expr} {fo : EV} {fs : EL} {pos p p2 apos cpos : Pos}
theorem m_splitO : MtS G "str" mSplitO (fun x xs H Q => ∃ a b, x = .str a ∧ xs = [.str b] ∧ (b.length == 0) = false ∧ a.length + 2 ≤ sizeLine ∧ rNewStrs (Txt.split a b) H Q) := by
  intro z d ds τ v vs W Q c r rs q
  match d, ds, r, rs, q with
  | .str a, [.str b], r, rs, q =>
    obtain ⟨w, rfl, rw'⟩ := hs1 rs rfl
    rw [r.str_, rw'.str_]
    have q : Run G (RepU G) (if b ≠ [] ∧ b.all (· < 256) = true ∧ a.length + 2 ≤ sizeLine then .ok (.loc τ.length) (τ ++ [.lst ((TL.spl b 0 [] a).map .str)]) else .bad) W z Q := q
    by_cases h : b ≠ [] ∧ b.all (· < 256) = true ∧ a.length + 2 ≤ sizeLine
    · rw [if_pos h] at q
      refine ⟨_, _, rfl, rfl, ?_, by rw [T.len]; exact h.2.2, fun p hp => ?_⟩
      · rw [T.len]
        cases b with
        | nil => exact absurd rfl h.1
        | cons _ _ => rfl
      · rw [split_s h.1 h.2.1]
        exact alloc_lst (own := true) c hp (reps_strs _) q
    · rw [if_neg h] at q; exact q.elim
theorem v_splitO (hK : X.K = G.K) (ho : PE X o (VE G W fo)) (ha : PA X [e] (VA G W fs)) (hbase : attributeBase o "split" X.env (eval o X.env) = eval o X.env := by rfl)
    (hfew : ((backTo cpos (starEach [e] X.env)).all (fun x => !x.1) && (backToKw cpos (keywordEach [] X.env)).all (fun x => x.1.isSome)
      && decide ([e].length + ([] : List Keyword).length + (if ([] : List Keyword).isEmpty then 0 else 1) < 30)) = true := by rfl)
    (hline : (apos.endLine == cpos.line) = true := by rfl) (h1 : starEach [e] X.env = (false, eval e X.env) :: starEach [] X.env := by rfl) (hpl : (backTo cpos (starEach [] X.env)).any (·.1) = false := by rfl) :
    PE X (.Call (.Attribute o "split" apos) [e] [] cpos) (VE G W (eMt "str" mSplitO fo fs)) := v_mt F.plainAttrs_str F.slot_str_split F.type_str_split hK mt_split m_splitO ho ha hbase hfew hline h1 hpl
def eLk (f : EV) : EV := fun ρ τ => (f ρ τ).bind fun u τ1 => match u with
  | .loc n => match τ1[n]? with
    | some (.dct kvs) => .ok (.d (.dct kvs)) (τ1.set n .dead)
    | some (.dcx kvs x) => .ok (.d (.dcx kvs x)) (τ1.set n .dead)
    | _ => .bad
  | _ => .bad
end
/-! ### a walk over a list or a tuple -/
def gItS (u : U) (τ : Store) : R (List D) := match u with
  | .d (.lst ds) => .ok ds τ
  | .d (.fl ds) => .ok ds τ
  | .d (.tup ds) => .ok ds τ
  | _ => .bad
def dSeq (f : EV) : ED := fun ρ τ => (f ρ τ).bind gItS
theorem vi_seq {X : Cx} {G : Gd} {W : WX} {tg e : Expr} {f : EV} (hK : X.K = G.K) (he : PE X e (VE G W f)) : PI X tg e (VI G W (dSeq f)) := by
  have hl := vi_list (tg := tg) hK he
  have ht := vi_tup (tg := tg) hK he
  refine ⟨fun pins s σ H Rr I ⟨z, ρ, τ, hz, c, en, q⟩ => ?_⟩
  unfold dSeq at q
  cases e1 : f ρ τ with
  | bad => rw [e1] at q; exact q.elim
  | exc c1 fs τ1 => exact hl.run pins s σ H Rr I ⟨z, ρ, τ, hz, c, en, by unfold dList; rw [e1] at q ⊢; exact q⟩
  | ok u τ1 =>
    rw [e1] at q
    match u, e1, q with
    | .d (.lst ds), e1, q => exact hl.run pins s σ H Rr I ⟨z, ρ, τ, hz, c, en, by unfold dList; rw [e1]; exact q⟩
    | .d (.fl ds), e1, q => exact hl.run pins s σ H Rr I ⟨z, ρ, τ, hz, c, en, by unfold dList; rw [e1]; exact q⟩
    | .d (.tup ds), e1, q => exact ht.run pins s σ H Rr I ⟨z, ρ, τ, hz, c, en, by unfold dTup; rw [e1]; exact q⟩
    | .loc n, e1, q => exact q.elim
    | .d .non, e1, q => exact q.elim
    | .d (.bl _), e1, q => exact q.elim
    | .d (.int _), e1, q => exact q.elim
    | .d (.str _), e1, q => exact q.elim
    | .d (.dct _), e1, q => exact q.elim
    | .d (.dcu _), e1, q => exact q.elim
    | .d (.ins _ _), e1, q => exact q.elim
    | .d (.cls _), e1, q => exact q.elim
    | .d (.exn _ _), e1, q => exact q.elim
/-! ### a def whose code object is known; told by name -/
theorem fn_bodyC {P : Program} {w : World} {K : PySem.W.Frag} {mg : Str → Option Value} {base : Heap} {G : Gd} {x qual : Str} {st : Stmt} {f : Addr} {fd : FuncData} {N ps : List Str} {k n : Nat} {g : GS} (F : Fun K x qual st f fd) (S : FnScope N ps (defScope st)) (hn : ps.length = n)
    (hbody : ∀ (cdv : Value) (hc : fd.code = cdv) (A : Around) (outer : List PySem.Env) (s : Shared) (H : Hp) (E : XK), Room k (A.deeper (envOfC qual (defScope st) s.heap.objs.size f cdv)) → A.guards = some [] →
      PSs (cxOf (L2.CX P w) P w K mg base N qual (defScope st) f cdv A outer s H E) (defBody st) (VS G (fun c d _ H => E c d H) g)) : FnV P w K mg base (k + 1) f fd ps (spV G n (callD N.length g)) := by
  obtain ⟨oc, od, kV, doc, pm, an, cdv, ct, osl, e, lk, hcd⟩ := F.ex
  refine ⟨spV_len hn, fun A outer s H args us vs Q E hr hg e0 hb r hsp => ?_⟩
  have hcode : fd.code = cdv := by rw [e]
  rw [e] at lk hb
  refine run_ofS lk hcd S hr e0 hb r (spV_len hn _ _ _ _ hsp) fun hr' => ⟨_, hbody cdv hcode A outer s H E hr' hg, ?_⟩
  obtain ⟨z, us', τ, hz, c, r', hl, q⟩ := hsp
  subst hz
  refine ⟨z, us'.map some ++ List.replicate (N.length - us'.length) none, τ, rfl, c, env_start r', ?_⟩
  unfold callD at q
  cases e1 : g (us'.map some ++ List.replicate (N.length - us'.length) none) τ with
  | nx ρ τ' =>
    rw [e1] at q
    exact fun z' σ' f' c' en' => ret_ok (u := .d .non) (v := .non) c f' c' (.d .non) q
  | rt u τ' =>
    rw [e1] at q
    exact fun z' v f' c' r' => ret_ok c f' c' r' q
  | exc cc fs ρ τ' =>
    rw [e1] at q
    exact fun z' dd vs σ' f' c' en' s' r' => q (z'.back τ.length) dd vs (fut_back c f') (cells_back c' _) s' r'
  | bk ρ τ' => rw [e1] at q; exact q.elim
  | ct ρ τ' => rw [e1] at q; exact q.elim
  | bad => rw [e1] at q; exact q.elim
/-- what the error's class is known by, where it is caught -/
structure Caught (K : PySem.W.Frag) (mg : Str → Option Value) (y : Str) (C : Addr) (a1 a2 : Str) : Prop where
  g : mg y = some (.ref C)
  te : PySem.W.exmOne K (.ref C) (.ref C) = some true
  xf : XfC K C
  n1 : PySem.W.findIn K (.ref C) a1 = some none
  n2 : PySem.W.findIn K (.ref C) a2 = some none
/-- the maker's code object and its table -/
structure Maker (base : Heap) (mg : Str → Option Value) (T : List (Addr × Str)) (fd : FuncData) (q : Str) (cO Pt : Addr) : Prop where
  tb : TabB base mg cO Pt
  code : fd.code = .ref cO
  mem : (Pt, q) ∈ T
  un : ∀ p ∈ T, p.1 = Pt → p.2 = q
end VL

/-! The value layer, J: dicts with int and text keys. -/
namespace VL
open PySem PySem.Spec PyProof.Rows L2 LamX
section
variable {G : Gd} {z : Z} {τ : Store}
theorem fut_lk {a : Addr} {o o' : HO} (h : z.H a = some o) (hs : z.S a = none) (m : a ∈ z.ms) (p' : pln o') : Fut z ⟨upd z.S a o', upd z.H a o', z.ms⟩ :=
  (fut_set h m p').trans (fut_frz (z := ⟨z.S, upd z.H a o', z.ms⟩) hs m)
theorem cells_lk (c : Cells G z τ) {n : Nat} {a : Addr} {o o' : HO} (hm : z.ms[n]? = some a) (h : z.H a = some o) (hs : z.S a = none) (p' : pln o') : Cells G ⟨upd z.S a o', upd z.H a o', z.ms⟩ (τ.set n .dead) := by
  have c1 := cells_set (cl := .dead) c hm h hs p' trivial
  have c2 := cells_frz c1 hm upd_same hs
  rwa [List.set_set] at c2
end
section
variable {X : Cx} {G : Gd} {W : WX} {e o i : Expr} {f fo fi : EV} {pos p2 : Pos}
/-- a dict is let go: it is locked from now on -/
theorem v_lk (he : PE X e (VE G W f)) : PE X e (VE G W (eLk f)) := by
  refine ⟨fun pins s σ H Q I ⟨z, ρ, τ, hz, c, en, q⟩ => ?_⟩
  refine thn (he.run pins s σ H _ I ⟨z, ρ, τ, hz, c, en, Run.bind q⟩) fun v s1 ⟨x, H1, I1, rx, z1, u, τ1, e1, f1, c1, r1, q1⟩ => ?_
  subst e1
  cases r1 with
  | d h => exact q1.elim
  | fn => exact q1.elim
  | loc h =>
    rename_i n a
    simp only at q1
    cases e2 : τ1[n]? with
    | none => rw [e2] at q1; exact q1.elim
    | some cl =>
      have w := c1.at_ n a cl h e2
      rw [e2] at q1
      cases cl with
      | dct kvs =>
        obtain ⟨hs, ps, h1, h2⟩ := w
        obtain ⟨od, I2⟩ := I1.lock h1 trivial
        refine ⟨.ref a, _, I2, rx, ?_⟩
        exact q1 ⟨upd z1.S a (.frz od (.dK ps)), upd z1.H a (.frz od (.dK ps)), z1.ms⟩ (.ref a) (fut_lk h1 hs (List.mem_of_getElem? h) trivial) (cells_lk c1 h h1 hs trivial) (.d (.dct upd_same (RepK.mono (same_upd hs) _ _ h2)))
      | dcx kvs x0 =>
        obtain ⟨hs, o, ps, y, h1, h2, h3⟩ := w
        exact ⟨.ref a, _, I1, rx, q1 ⟨upd z1.S a (.frz o (oddO G.w a ps y)), z1.H, z1.ms⟩ (.ref a) (fut_frz hs (List.mem_of_getElem? h)) (cells_frz c1 h h1 hs) (.d (.dcx upd_same (RepK.mono (same_upd hs) _ _ h2) (Rep.mono (same_upd hs) _ _ h3)))⟩
      | _ => exact q1.elim
/-- {}, a cell -/
def eDN : EV := fun _ τ => allocD [] τ
theorem v_dN : PE X (.Dict [] [] pos) (VE G W eDN) := pe_weak pe_dnewK fun σ H Q ⟨z, ρ, τ, hz, c, en, q⟩ => by
  subst hz
  exact fun p hp => alloc_dct c hp .nil q
/-- {}, let go -/
def eD0 : EV := eLk eDN
theorem v_d0 : PE X (.Dict [] [] pos) (VE G W eD0) := v_lk v_dN
end
/-! ### what a dict holds -/
def D.ky : D → Option Ky
  | .int i => some (.inl i)
  | .str t => some (.inr t)
  | _ => none
def dget (kvs : List (Ky × D)) (k : Ky) : Option D := (kvs.find? fun p => decide (p.1 = k)).map (·.2)
def dput (kvs : List (Ky × D)) (k : Ky) (x : D) : List (Ky × D) := if kvs.any fun p => decide (p.1 = k) then kvs.map fun p => if p.1 = k then (p.1, x) else p else kvs ++ [(k, x)]
section
variable {G : Gd} {S : Hp}
theorem ky_dec (a b : Ky) : decide (a = b) = decide (a.k = b.k) := by
  by_cases h : a = b
  · rw [h]; simp
  · rw [decide_eq_false h, decide_eq_false fun q => h (Ky.inj q)]
theorem RepK.get {k : Ky} {d : D} : ∀ {kvs : List (Ky × D)} {ps : List (Key × V)}, RepK G S kvs ps → dget kvs k = some d → ∃ v, valV ps k.k = some v ∧ Rep G S d v
  | [], _, h, e => by cases e
  | (k', x) :: kvs, _, h, e => by
    cases h with
    | cons h1 h2 =>
      by_cases q : k' = k
      · subst q
        have e' : some x = some d := by rw [← e]; simp [dget]
        cases e'
        exact ⟨_, valV_pos rfl, h1⟩
      · obtain ⟨v, q1, q2⟩ := RepK.get (k := k) (d := d) h2 (by rw [← e]; simp [dget, q])
        exact ⟨v, by rw [valV_neg fun z => q (Ky.inj z)]; exact q1, q2⟩
theorem RepK.any {k : Ky} : ∀ {kvs : List (Ky × D)} {ps : List (Key × V)}, RepK G S kvs ps → (kvs.any fun p => decide (p.1 = k)) = ps.any fun p => decide (p.1 = k.k)
  | [], _, h => by cases h; rfl
  | (k', x) :: kvs, _, h => by
    cases h with
    | cons h1 h2 => rw [List.any_cons, List.any_cons, RepK.any h2, ky_dec]
theorem RepK.put {k : Ky} {x : D} {v : V} (r : Rep G S x v) {kvs : List (Ky × D)} {ps : List (Key × V)} (h : RepK G S kvs ps) : RepK G S (dput kvs k x) (putK ps k.k v) := by
  have hm : ∀ {kvs : List (Ky × D)} {ps : List (Key × V)}, RepK G S kvs ps → RepK G S (kvs.map fun p => if p.1 = k then (p.1, x) else p) (ps.map fun p => if p.1 = k.k then (p.1, v) else p) := by
    intro kvs
    induction kvs with
    | nil => intro ps h; cases h; exact .nil
    | cons p kvs ih =>
      intro ps h
      cases h with
      | cons h1 h2 =>
        rename_i k' d' v' vs'
        rw [List.map_cons, List.map_cons]
        by_cases q : k' = k
        · subst q
          rw [if_pos rfl, if_pos rfl]
          exact .cons r (ih h2)
        · rw [if_neg q, if_neg fun z => q (Ky.inj z)]
          exact .cons h1 (ih h2)
  have ha : ∀ {kvs : List (Ky × D)} {ps : List (Key × V)}, RepK G S kvs ps → RepK G S (kvs ++ [(k, x)]) (ps ++ [(k.k, v)]) := by
    intro kvs
    induction kvs with
    | nil => intro ps h; cases h; exact .cons r .nil
    | cons p kvs ih =>
      intro ps h
      cases h with
      | cons h1 h2 => exact .cons h1 (ih h2)
  unfold dput putK
  rw [h.any]
  by_cases q : (ps.any fun p => decide (p.1 = k.k)) = true
  · rw [if_pos q, if_pos q]; exact hm h
  · rw [if_neg q, if_neg q]; exact ha h
theorem rep_ky {d : D} {k : Ky} {v : V} (e : d.ky = some k) (r : Rep G S d v) : v = kV k.k := by
  cases d with
  | int i => cases e; cases r; rfl
  | str t => cases e; cases r; rfl
  | _ => cases e
theorem rep_ofky (k : Ky) : Rep G S k.d (kV k.k) := by
  cases k with
  | inl i => exact .int i
  | inr t => exact .str t
end
/-- d[k] -/
def gDGet (u w : U) (τ : Store) : R U := match vw τ u, w with
  | some (.dct kvs), .d y => match y.ky with
    | some k => match dget kvs k with
      | some x => .ok (.d x) τ
      | none => .bad
    | none => .bad
  | _, _ => .bad
def eDGet (fo fi : EV) : EV := fun ρ τ => (fo ρ τ).bind fun u τ1 => (fi ρ τ1).bind fun w τ2 => gDGet u w τ2
/-- len(d) too -/
def fLenD : D → Store → R U
  | .dct kvs, τ => .ok (.d (.int kvs.length)) τ
  | d, τ => fLen d τ
/-- d[k] = e -/
def putAt (x : D) (o i : U) (ρ : Env) (τ : Store) : RS := match o, i with
  | .loc n, .d y => match τ[n]?, y.ky with
    | some (.dct kvs), some k => if kvs.length < sizeLine then .nx ρ (τ.set n (.dct (dput kvs k x))) else .bad
    | _, _ => .bad
  | _, _ => .bad
def gPutK (fo fi f : EV) : GS := fun ρ τ => liftE (f ρ τ) ρ fun u τ1 => match frz τ1 u with
  | some (x, τ2) => liftE (fo ρ τ2) ρ fun o τ3 => liftE (fi ρ τ3) ρ fun i τ4 => putAt x o i ρ τ4
  | none => .bad
/-- for k in d -/
def gKeys (u : U) (τ : Store) : R (List D) := match u with
  | .d (.dct kvs) => .ok (kvs.map fun p => p.1.d) τ
  | _ => .bad
def dKeys (f : EV) : ED := fun ρ τ => (f ρ τ).bind gKeys
section
variable {X : Cx} {G : Gd} {W : WX} {tg e o i : Expr} {f fo fi : EV} {pos p2 : Pos}
theorem v_dget (hu : X.A.units + 1 < cLine) (ho : PE X o (VE G W fo)) (hi : PE X i (VE G W fi)) (hs : NoSl i) : PE X (.Subscript o i pos) (VE G W (eDGet fo fi)) :=
  ve_step2 (pe_dget hu ho hi hs) (r := fun x y H Q => ∃ a v, x = .ref a ∧ DGet H a y (some v) ∧ Q v H) (fun _ _ _ h => h) fun z u w τ x y W Q c r1 r2 q => by
    unfold gDGet at q
    cases e1 : vw τ u with
    | none => rw [e1] at q; exact q.elim
    | some d =>
      rw [e1] at q
      have rh := vw_rep c r1 e1
      cases r2 with
      | loc h2 => cases d <;> exact q.elim
      | fn => cases d <;> exact q.elim
      | d r2 =>
        rename_i y'
        cases d with
        | dct kvs =>
          simp only at q
          cases e2 : y'.ky with
          | none => rw [e2] at q; exact q.elim
          | some k =>
            rw [e2] at q
            simp only at q
            cases e3 : dget kvs k with
            | none => rw [e3] at q; exact q.elim
            | some x0 =>
              rw [e3] at q
              obtain ⟨a, ps, rfl, h1, h2⟩ := rh.dct_ c
              obtain ⟨v, h3, h4⟩ := h2.get e3
              exact ⟨a, v, rfl, .inl ⟨ps, k.k, h1, rep_ky e2 r2, h3.symm⟩, Run.ok (rep := RepU G) q c (.d h4)⟩
        | _ => exact q.elim
def rLenD (K : PySem.W.Frag) : List V → Hp → VK → Prop := fun xs H Q => rLen K xs H Q ∨ ∃ a kvs, xs = [V.ref a] ∧ Rd H a (.dK kvs) ∧ Q (.int kvs.length) H
theorem call_lenR : CallR X (.builtin "len") (fun xs H Q => ∃ a kvs, xs = [V.ref a] ∧ Rd H a (.dK kvs) ∧ Q (.int kvs.length) H) := by
  intro pins s σ H xs us Q I r h
  obtain ⟨a, kvs, rfl, hd, q⟩ := h
  obtain ⟨u, rfl, ru⟩ := vals1 r
  cases ru
  exact d_len I hd fun t s' I' => ⟨.int kvs.length, H, I', ⟨t, rfl⟩, q⟩
theorem call_lenX : CallR X (.builtin "len") (rLenD X.K) := CallR.or call_len' call_lenR
theorem c_lenD : CallS G (c1 fLenD) (rLenD G.K) := c1_s fun z d τ v W Q c rh q => by
  have gen : Run G (RepU G) (fLen d τ) W z Q → rLenD G.K [v] z.H Q := fun q => .inl (c_len z [d] τ [v] W Q c (.cons rh .nil) q)
  cases d with
  | dct kvs =>
    obtain ⟨a, ps, rfl, h1, h2⟩ := rh.dct_ c
    exact .inr ⟨a, ps, rfl, h1, by rw [← h2.length]; exact Run.ok (rep := RepU G) q c (.d (.int _))⟩
  | _ => exact gen q
theorem s_putK (hu : X.A.units + 1 < cLine) (he : PE X e (VE G W f)) (ho : PE X o (VE G W fo)) (hi : PE X i (VE G W fi)) (hs : swapsWith e (some (.Subscript o i p2)) pos.line X.env = pure false := by rfl) :
    PS X (.Assign [.Subscript o i p2] e pos) (VS G W (gPutK fo fi f)) :=
  ps_weak (ps_dput hu ho hi he hs) fun D σ H ⟨z, ρ, τ, hz, c, en, q⟩ => ⟨z, ρ, τ, hz, c, en, (RunS.lift (rep := RepU G) en q).imp fun v H1 ⟨z1, u, τ1, e1, f1, c1, r1, q1⟩ => by
    subst e1
    cases e2 : frz τ1 u with
    | none => rw [e2] at q1; exact q1.elim
    | some pr =>
      obtain ⟨x, τ2⟩ := pr
      rw [e2] at q1
      simp only at q1
      obtain ⟨z2, h2, f2, c2, rx, m2⟩ := frz_ok c1 r1 e2
      have en2 := en.fut (f1.trans f2)
      rw [← h2]
      refine ⟨z2, ρ, τ2, rfl, c2, en2, (RunS.lift (rep := RepU G) en2 (RunS.pre q1 f2)).imp fun vo H3 ⟨z3, uo, τ3, e3, f3, c3, r3, q3⟩ => ?_⟩
      subst e3
      have en3 := en2.fut f3
      refine ⟨z3, ρ, τ3, rfl, c3, en3, (RunS.lift (rep := RepU G) en3 q3).imp fun vi H4 ⟨z4, ui, τ4, e4, f4, c4, r4, q4⟩ => ?_⟩
      subst e4
      have r3 := r3.fut f4
      have en4 := en3.fut f4
      match uo, ui, r3, r4, q4 with
      | .loc n, .d y, @RepU.loc _ _ _ a hm, @RepU.d _ _ _ _ hk, q4 =>
        simp only [putAt] at q4
        cases e5 : τ4[n]? with
        | none => rw [e5] at q4; exact q4.elim
        | some cl =>
          rw [e5] at q4
          cases cl with
          | dct kvs =>
            cases e6 : y.ky with
            | none => rw [e6] at q4; exact q4.elim
            | some k =>
              rw [e6] at q4
              simp only at q4
              by_cases hl : kvs.length < sizeLine
              · rw [if_pos hl] at q4
                obtain ⟨s5, ws, t5, t6⟩ := c4.at_ n _ _ hm e5
                have rx4 := Rep.mono (f3.trans f4).ss _ _ rx
                refine ⟨a, _, rfl, .inl ⟨ws, k.k, t5, rep_ky e6 hk, by rw [← t6.length]; exact hl, rfl⟩, ?_⟩
                have ff := fut_set (o' := .dK (putK ws k.k v)) t5 (List.mem_of_getElem? hm) trivial
                exact q4 _ σ ff (cells_set c4 hm t5 s5 trivial ⟨s5, _, upd_same, t6.put rx4⟩) (en4.fut ff)
              · rw [if_neg hl] at q4; exact q4.elim
          | _ => exact q4.elim⟩
theorem reps_keys {S : Hp} : ∀ {kvs : List (Ky × D)} {ps : List (Key × V)}, RepK G S kvs ps → Reps G S (kvs.map fun p => p.1.d) (ps.map fun p => kV p.1)
  | [], _, h => by cases h; exact .nil
  | (k, x) :: kvs, _, h => by
    cases h with
    | cons h1 h2 => exact .cons (rep_ofky k) (reps_keys h2)
theorem vi_keys (he : PE X e (VE G W f)) : PI X tg e (VI G W (dKeys f)) :=
  pi_weak (pi_keys he) fun σ H Rr ⟨z, ρ, τ, hz, c, en, q⟩ => ⟨z, ρ, τ, hz, c, en, (Run.bind q).imp fun v H1 ⟨z1, u, τ1, e1, f, c1, r1, q1⟩ => by
    subst e1
    cases u with
    | loc n => exact q1.elim
    | fn => exact q1.elim
    | d x =>
      cases x with
      | dct kvs =>
        cases r1 with
        | d r1 =>
          cases r1 with
          | @dct a o ps _ h1 h2 =>
            refine ⟨a, o, rfl, .inl ⟨ps, c1.sub _ _ h1, Run.ok (rep := fun z' ds J => ItOk G z' ds J) q1 c1 ?_⟩⟩
            have w := walk_keys (d := a) (o := o) (kvs := ps)
            have rk := reps_keys h2
            have hl : (kvs.map fun p => p.1.d).length = ps.length := by rw [rk.length, List.length_map]
            refine ⟨fun i z2 τ f c hi => w.goes i z2.H (by rw [← hl]; exact hi) (c.sub _ _ (f.ss _ _ h1)), fun z2 τ f c => by rw [hl]; exact w.stops z2.H (c.sub _ _ (f.ss _ _ h1)), fun i z2 τ x H' f c hi y => ?_⟩
            obtain ⟨e1, k, v, e2, e3⟩ := w.yields i z2.H x H' (by rw [← hl]; exact hi) (c.sub _ _ (f.ss _ _ h1)) y
            subst e1
            obtain ⟨d, q2, q3⟩ := rk.get' (i := i) (v := kV k) (by rw [List.getElem?_map, e2]; rfl)
            exact ⟨z2, d, rfl, Fut.refl _, c, rfl, q2, by rw [e3]; exact Rep.mono f.ss _ _ q3⟩
      | _ => exact q1.elim⟩
end
end VL

/-! The value layer, K: instances: fields read and set, instances made. -/
namespace VL
open PySem PySem.Spec PyProof.Rows L2 LamX
def fput (f : T) (x : D) : List (T × D) → List (T × D)
  | [] => [(f, x)]
  | (g, y) :: r => if g = f then (f, x) :: r else (g, y) :: fput f x r
theorem fput_len (f : T) (x : D) : ∀ r : List (T × D), (fput f x r).length ≤ r.length + 1
  | [] => by simp [fput]
  | (g, y) :: r => by
    unfold fput
    split
    · simp
    · have := fput_len f x r
      simp; omega
theorem RepF.put {G : Gd} {S : Hp} {f : T} {x : D} {v : V} (r : Rep G S x v) : ∀ {fs : List (T × D)} {ps : List (Str × V)}, RepF G S fs ps → RepF G S (fput f x fs) (putF f.s v ps)
  | [], _, h => by cases h; exact .cons r .nil
  | (g, y) :: fs, _, h => by
    cases h with
    | cons h1 h2 =>
      unfold fput putF
      by_cases q : g = f
      · subst q
        first
        | rw [if_pos rfl, if_pos rfl]; exact .cons r h2
        | (simp; exact .cons r h2)
      · have q' : ¬ g.s = f.s := fun z => q (T.inj z)
        first
        | rw [if_neg q, if_neg q']; exact .cons h1 (RepF.put r h2)
        | (simp [q, q']; exact .cons h1 (RepF.put r h2))
/-- e.f -/
def gFld (c : Nat) (f : T) (u : U) (τ : Store) : R U := match vw τ u with
  | some (.ins c' fs) => if c' = c then match fs.lookup f with
    | some x => .ok (.d x) τ
    | none => .bad
    else .bad
  | _ => .bad
def eFld (c : Nat) (f : T) (fo : EV) : EV := fun ρ τ => (fo ρ τ).bind (gFld c f)
/-- o.f = e -/
def fldAt (c : Nat) (f : T) (x : D) (o : U) (ρ : Env) (τ : Store) : RS := match o with
  | .loc n => match τ[n]? with
    | some (.ins c' fs) => if c' = c ∧ fs.length < 1000 then .nx ρ (τ.set n (.ins c (fput f x fs))) else .bad
    | _ => .bad
  | _ => .bad
def gSetF (c : Nat) (f : T) (fo fe : EV) : GS := fun ρ τ => liftE (fe ρ τ) ρ fun u τ1 => match frz τ1 u with
  | some (x, τ2) => liftE (fo ρ τ2) ρ fun o τ3 => fldAt c f x o ρ τ3
  | none => .bad
section
variable {X : Cx} {G : Gd} {W : WX} {e o : Expr} {fo fe : EV} {pos p2 : Pos} {c : Nat} {f : Str} {ft : T}
theorem v_fld (hK : X.K = G.K) (hc : Cls G.K (G.ca c)) (hn : NoAttr G.K (G.ca c) f) (hf : f = ft.s) (he : PE X e (VE G W fo)) (hb : attributeBase e f X.env (eval e X.env) = eval e X.env := by rfl) : PE X (.Attribute e f pos) (VE G W (eFld c ft fo)) :=
  ve_step1 (pe_fld he hb) (r := fun x H Q => ∃ a C dx fs v, x = .ref a ∧ H a = some (.ins C dx fs) ∧ Cls X.K C ∧ NoAttr X.K C f ∧ fs.lookup f = some v ∧ Q v H) (fun _ _ _ h => h) fun z u τ v W Q cc r q => by
    unfold gFld at q
    cases e1 : vw τ u with
    | none => rw [e1] at q; exact q.elim
    | some d =>
      rw [e1] at q
      have rh := vw_rep cc r e1
      cases d with
      | ins c' fs =>
        simp only at q
        by_cases h : c' = c
        · rw [if_pos h] at q
          subst h
          cases e2 : fs.lookup ft with
          | none => rw [e2] at q; exact q.elim
          | some x =>
            rw [e2] at q
            obtain ⟨a, dx, ps, rfl, h1, h2⟩ := rh.ins_ cc
            obtain ⟨v, h3, h4⟩ := h2.look e2
            exact ⟨a, _, dx, ps, v, rfl, h1, by rw [hK]; exact hc, by rw [hK]; exact hn, by rw [hf]; exact h3, Run.ok (rep := RepU G) q cc (.d h4)⟩
        · rw [if_neg h] at q; exact q.elim
      | _ => exact q.elim
theorem s_setF (hK : X.K = G.K) (hc : Cls G.K (G.ca c)) (hn : NoAttr G.K (G.ca c) f) (hf : f = ft.s) (he : PE X e (VE G W fe)) (ho : PE X o (VE G W fo)) (hs : swapsWith e (some (.Attribute o f p2)) pos.line X.env = pure false := by rfl) :
    PS X (.Assign [.Attribute o f p2] e pos) (VS G W (gSetF c ft fo fe)) :=
  ps_weak (ps_fld ho he hs) fun D σ H ⟨z, ρ, τ, hz, cc, en, q⟩ => ⟨z, ρ, τ, hz, cc, en, (RunS.lift (rep := RepU G) en q).imp fun v H1 ⟨z1, u, τ1, e1, f1, c1, r1, q1⟩ => by
    subst e1
    cases e2 : frz τ1 u with
    | none => rw [e2] at q1; exact q1.elim
    | some pr =>
      obtain ⟨x, τ2⟩ := pr
      rw [e2] at q1
      simp only at q1
      obtain ⟨z2, h2, f2, c2, rx, m2⟩ := frz_ok c1 r1 e2
      have en2 := en.fut (f1.trans f2)
      rw [← h2]
      refine ⟨z2, ρ, τ2, rfl, c2, en2, (RunS.lift (rep := RepU G) en2 (RunS.pre q1 f2)).imp fun vo H3 ⟨z3, uo, τ3, e3, f3, c3, r3, q3⟩ => ?_⟩
      subst e3
      have en3 := en2.fut f3
      match uo, r3, q3 with
      | .loc n, @RepU.loc _ _ _ a hm, q3 =>
        simp only [fldAt] at q3
        cases e5 : τ3[n]? with
        | none => rw [e5] at q3; exact q3.elim
        | some cl =>
          rw [e5] at q3
          cases cl with
          | ins c' fs =>
            simp only at q3
            by_cases h : c' = c ∧ fs.length < 1000
            · rw [if_pos h] at q3
              obtain ⟨h, hl⟩ := h
              subst h
              obtain ⟨s5, dx, ps, t5, t6⟩ := c3.at_ n _ _ hm e5
              have rx3 := Rep.mono f3.ss _ _ rx
              refine ⟨a, _, dx, ps, rfl, t5, by rw [hK]; exact hc, by rw [hK]; exact hn, by rw [← t6.length]; exact hl, ?_⟩
              have ff := fut_set (o' := .ins (G.ca c') dx (putF f v ps)) t5 (List.mem_of_getElem? hm) trivial
              exact q3 _ σ ff (cells_set c3 hm t5 s5 trivial ⟨s5, dx, _, upd_same, by rw [hf]; exact t6.put rx3⟩) (en3.fut ff)
            · rw [if_neg h] at q3; exact q3.elim
          | _ => exact q3.elim⟩
end
/-- C(..): a new instance, then __init__ -/
def gMake (c : Nat) (F : List U → Store → R U) (os : List Nat) (us ws : List U) (τ : Store) : R U := match F (pickL os ((.loc τ.length :: us) ++ ws)) (τ ++ [.ins c []]) with
  | .ok (.d .non) τ1 => match τ1[τ.length]? with
    | some (.ins c' fs) => .ok (.d (.ins c' fs)) (τ1.take τ.length)
    | _ => .bad
  | .exc e fs τ1 => .exc e fs (τ1.take τ.length)
  | _ => .bad
def eMake (c n m : Nat) (F : List U → Store → R U) (os : List Nat) (fs fk : EL) : EV := fun ρ τ => (fs ρ τ).bind fun us τ1 => (fk ρ τ1).bind fun ws τ2 => if us.length = n ∧ ws.length = m then gMake c F os us ws τ2 else .bad
theorem make_guards {A : Around} {C : Addr} {us : List Value} {kw : List (Str × Value)} (h : A.guards = some []) : (A.under (.builtin "type.__call__" ⟨.ref C :: us, kw⟩)).guards = some [] := by
  first | exact h | (simp [Around.under, Code.isGuard, guardIds, h])
section
variable {X : Cx} {G : Gd} {W : WX} {k n : Nat} {f : Addr} {fd : FuncData} {ps ks : List Str} {F : List U → Store → R U} {os : List Nat} {c : Nat}
theorem make_run {m a : Nat} {kw : List Str} {pins : List (Addr × Obj)} {σ : L2.St} {s : Shared} {Q : VK} {us ws : List Value} {vs xs : List V} {z : Z} {uu wu : List U} {τ : Store} (M : Mk X.K (G.ca c) f) (Vf : FnV X.prog X.w X.K X.mg X.base k f fd ps (spV G n F)) (hr : Room (k + 1) X.A) (hgd : X.A.guards = some []) (tk : Takes X W)
    (hb : Bnd X.K fd ps (a + 1) kw [] os) (I : Inv X pins σ z.H s) (r : Vals vs us) (r' : Vals xs ws) (cc : Cells G z τ) (ru : RepUs G z uu vs) (rw' : RepUs G z wu xs) (hps : ps.length = n) (hmk : kw.length = m) (hos : ∀ l : List U, l.length = a + 1 + m → (pickL os l).length = n)
    (q : Run G (RepU G) (if uu.length = a ∧ wu.length = m then gMake c F os uu wu τ else .bad) (fun c d H' => W c d σ H') z Q) : wpAny (model X.prog X.w) X.A (call (.ref (G.ca c)) us (kw.zip ws)) (EP X pins σ Q) X.xe s := by
  by_cases hl : uu.length = a ∧ wu.length = m
  · rw [if_pos hl] at q
    have hx : z.H (s.heap.objs.size + 1) = none := I.hok.fresh (Nat.le_succ _)
    have hdx : z.H s.heap.objs.size = none := I.hok.fresh (Nat.le_refl _)
    have hne : s.heap.objs.size + 1 ≠ s.heap.objs.size := Nat.succ_ne_self _
    generalize hX : s.heap.objs.size + 1 = x at hx hne
    generalize hD : s.heap.objs.size = dx at hdx hne
    have c1 := cells_sh (o := .own x) cc hdx
    have f1 := fut_sh (o := .own x) (cc.none_ hdx) hdx
    have hx1 : upd z.H dx (.own x) x = none := (upd_ne hne).trans hx
    have sx1 : upd z.S dx (.own x) x = none := (upd_ne hne).trans (cc.none_ hx)
    have c2 := cells_own (o := .ins (G.ca c) dx []) (cl := .ins c []) c1 hx1 trivial ⟨sx1, dx, [], upd_same, .nil⟩
    have f2 := fut_own (z := ⟨upd z.S dx (.own x), upd z.H dx (.own x), z.ms⟩) (o := .ins (G.ca c) dx []) hx1
    have ff := f1.trans f2
    have hix : (z.ms ++ [x])[τ.length]? = some x := by rw [← cc.len, List.getElem?_append_right (Nat.le_refl _)]; simp
    have I2 := Inv.made (C := G.ca c) I
    have r1 : Vals (V.ref x :: vs) (Value.ref x :: us) := .cons rfl r
    have hh := hos ((.loc τ.length :: uu) ++ wu) (by simp only [List.length_append, List.length_cons, hl.1, hl.2])
    have rall : RepUs G ⟨upd z.S dx (.own x), upd (upd z.H dx (.own x)) x (.ins (G.ca c) dx []), z.ms ++ [x]⟩ ((.loc τ.length :: uu) ++ wu) ((V.ref x :: vs) ++ xs) := (RepUs.cons (.loc hix) (RepUs.fut ff ru)).append (RepUs.fut ff rw')
    have run : Run G (RepU G) (F (pickL os ((.loc τ.length :: uu) ++ wu)) (τ ++ [.ins c []])) (fun c d H' => W c d σ H') ⟨upd z.S dx (.own x), upd (upd z.H dx (.own x)) x (.ins (G.ca c) dx []), z.ms ++ [x]⟩ (fun v H2 => v = .non ∧ Q (.ref x) H2) := by
      unfold gMake at q
      cases eF : F (pickL os ((.loc τ.length :: uu) ++ wu)) (τ ++ [.ins c []]) with
      | bad => rw [eF] at q; exact q.elim
      | exc e fs τ1 =>
        rw [eF] at q
        intro z' dd ws' f' c' s' r'
        exact q (z'.back τ.length) dd ws' (fut_back cc (ff.trans f')) (cells_back c' _) s' r'
      | ok u τ1 =>
        rw [eF] at q
        match u, q with
        | .d .non, q =>
          simp only at q
          intro z' b f' c' rb
          cases rb with
          | d rb =>
            cases rb
            refine ⟨rfl, ?_⟩
            have hix' := pre_get f'.pre hix
            cases e2 : τ1[τ.length]? with
            | none => rw [e2] at q; exact q.elim
            | some cl =>
              rw [e2] at q
              have w := c'.at_ _ _ _ hix' e2
              cases cl with
              | ins c'' fs =>
                obtain ⟨hs, dx2, ps2, h1, h2⟩ := w
                have mem := List.mem_of_getElem? hix'
                have f3 : Fut z' ⟨upd z'.S x (.ins (G.ca c'') dx2 ps2), z'.H, z'.ms⟩ := fut_frz hs mem
                have c3 := cells_frz c' hix' h1 hs
                have ct : (τ1.set τ.length .dead).take τ.length = τ1.take τ.length := by
                  rw [List.take_set, List.set_eq_of_length_le (by rw [List.length_take]; omega)]
                refine q ((⟨upd z'.S x (.ins (G.ca c'') dx2 ps2), z'.H, z'.ms⟩ : Z).back τ.length) (.ref x) (fut_back cc ((ff.trans f').trans f3)) (by rw [← ct]; exact cells_back c3 _) (.d (.ins upd_same (RepF.mono (same_upd hs) _ _ h2)))
              | _ => exact q.elim
        | .loc _, q => exact q.elim
    have hv : spV G n F (pickL os ((V.ref x :: vs) ++ xs)) (upd (upd z.H dx (.own x)) x (.ins (G.ca c) dx [])) (fun v H2 => v = .non ∧ Q (.ref x) H2) (fun c d H' => W c d σ H') :=
      ⟨_, _, _, rfl, c2, pick_reps rall, hh, run⟩
    subst hX hD
    refine wpAny_call (make_map (f := f) I.kIn M.makes M.init (beq_iff_eq.mp M.fn) (codeAny_mono (Vf.run _ X.stack _ _ ⟨Value.ref (s.heap.objs.size + 1) :: us, kw.zip ws⟩ (pickL os ((Value.ref (s.heap.objs.size + 1) :: us) ++ ws ++ [])) _ _ _ (hr.make (G.ca c) us (kw.zip ws))
      (make_guards hgd) (I2.env0.make (G.ca c) us (kw.zip ws)) (hb.to _ (Value.ref (s.heap.objs.size + 1) :: us) ws I2.kIn (by rw [List.length_cons, ← r.length, ← ru.length, hl.1]) (by rw [← r'.length, ← rw'.length, hl.2, hmk])) (by rw [List.append_nil]; exact pick_vals (r1.append r')) hv) fun r s' hq' => ?_))
    cases r with
    | error e => exact passAt tk σ pins _ _ e s' I2 hq'
    | ok fl =>
      cases fl with
      | ret u =>
        obtain ⟨v, H', I3, rv, ev, q3⟩ := I2.after hq'
        subst ev
        exact ⟨rv, ⟨V.ref (s.heap.objs.size + 1), H', I3, rfl, q3⟩⟩
      | next => exact False.elim hq'
      | brk => exact False.elim hq'
      | cont => exact False.elim hq'
  · rw [if_neg hl] at q; exact q.elim
theorem v_make {m a : Nat} {x : Str} {p pos : Pos} {e : Expr} {es : List Expr} {kws : List Keyword} {fs fk : EL} (M : Mk X.K (G.ca c) f) (Vf : FnV X.prog X.w X.K X.mg X.base k f fd ps (spV G n F)) (hr : Room (k + 1) X.A) (hgd : X.A.guards = some []) (tk : Takes X W) (hm : X.mg x = some (.ref (G.ca c)))
    (hb : Bnd X.K fd ps (a + 1) ks [] os) (hps : ps.length = n) (hmk : ks.length = m) (hos : ∀ l : List U, l.length = a + 1 + m → (pickL os l).length = n)
    (ha : PA X (e :: es) (VA G W fs)) (hkw : PK X kws (VA G W fk)) (hg : Gl X x) (hall : (backToKw pos (keywordEach kws X.env)).all (·.1.isSome) = true := by rfl) (hks : (backToKw pos (keywordEach kws X.env)).filterMap (·.1) = ks := by rfl)
    (hdb : (x == ("__debug__" : Str)) = false := by decide) (he : starEach (e :: es) X.env = (false, eval e X.env) :: starEach es X.env := by rfl)
    (hpl : ((backTo pos (starEach (e :: es) X.env)).any (·.1) || (backToKw pos (keywordEach kws X.env)).any (·.1.isNone)) = false := by rfl) : PE X (.Call (.Name x p) (e :: es) kws pos) (VE G W (eMake c a m F os fs fk)) := by
  refine ⟨fun pins s σ H Q I ⟨z, ρ, τ, hz, cc, en, q⟩ => ?_⟩
  refine wpAny_Call_Name_kw (ld_glob I hg hm ?_ hdb)
  have h1 := ha.run pos pins s σ H _ I ⟨z, ρ, τ, hz, cc, en, Run.bind q⟩
  refine PySem.W.callWith_KW (h₀ := X.base) I.ok.mod.kin M.kp hall (thn h1 fun us s1 hq => ?_) hpl he
  obtain ⟨vs, H1, I1, r, z1, uu, τ1, e1, f1, c1, r1, q1⟩ := hq
  subst e1
  have h2 := hkw.run pos pins s1 σ z1.H _ I1 ⟨z1, ρ, τ1, rfl, c1, en.fut f1, Run.bind q1⟩
  refine thn h2 fun ws s2 hq2 => ?_
  obtain ⟨xs, H2, I2, r', z2, wu, τ2, e2, f2, c2, r2, q2⟩ := hq2
  subst e2
  refine ⟨I2.kIn, ?_⟩
  rw [hks]
  exact make_run M Vf hr hgd tk hb I2 r r' c2 (r1.fut f2) r2 hps hmk hos q2
end
end VL

/-! The value layer, M: str(x), x == y by own defs. -/
namespace VL
open PySem PySem.Spec PyProof.Rows L2 LamX
theorem in1_guards {A : Around} : A.in1.guards = A.guards := by
  first | rfl | simp [Around.in1]
section
variable {X : Cx} {G : Gd}
/-- a def of the text called anywhere beneath, nothing raised -/
theorem run_sub {A : Around} {k n : Nat} {f : Addr} {fd : FuncData} {ps : List Str} {F : List U → Store → R U} {pins : List (Addr × Obj)} {σ : L2.St} {H : Hp} {s : Shared} {Q : VK} {us : List Value} {vs : List V} {Ex : Value → Shared → Prop}
    (Vf : FnV X.prog X.w X.K X.mg X.base k f fd ps (spV G n F)) (hr : Room k A) (hf : A.frames = X.A.frames) (hg : A.guards = some []) (I : Inv X pins σ H s) (hb : BindsTo s fd ⟨us, []⟩ (ps.zip us)) (r : Vals vs us)
    (h : spV G n F vs H Q (fun _ _ _ => False)) : wpAny (model X.prog X.w) A (call (.ref f) us) (EP X pins σ Q) Ex s := by
  have e0 : Env0 X.prog X.w X.K X.mg X.base A X.stack s H := by
    have e := I.env0
    exact ⟨by rw [hf]; exact e.frames, e.mod, e.bs, e.bsz, e.funs, e.frf, e.hok, e.bare⟩
  refine wpAny_call (codeAny_mono (Vf.run A X.stack s H ⟨us, []⟩ us vs Q (fun _ _ _ => False) hr hg e0 hb r h) fun res s' hq => ?_)
  match res, hq with
  | .error e, hq =>
    obtain ⟨a, B, H', cls, d, ea, fl, hok, ub, na, os, ag, he⟩ := hq
    exact he.elim
  | .ok (.ret u), hq => exact I.after hq
end
/-- str(x), x an instance -/
def gStrI (c : Nat) (F : List U → Store → R U) (u : U) (τ : Store) : R U := match u with
  | .d (.ins c' fs) => if c' = c then match F [.d (.ins c' fs)] τ with
    | .ok (.d (.str t)) τ1 => .ok (.d (.str t)) τ1
    | _ => .bad
    else .bad
  | _ => .bad
/-- what an own class must have for str(x) -/
structure StrI (K : PySem.W.Frag) (C f : Addr) : Prop where
  at_ : PySem.W.findIn K (.ref C) "__str__" = some (some (.ref f))
  fn : PySem.W.isFn K (.ref f) = true
section
variable {X : Cx} {G : Gd} {W : WX} {e a b : Expr} {fe fa fb : EV} {pos p : Pos} {c k : Nat} {f : Addr} {fd : FuncData} {ps : List Str} {F : List U → Store → R U}
def rStrI (X : Cx) (G : Gd) (c : Nat) (F : List U → Store → R U) : List V → Hp → VK → Prop := fun xs H Q => ∃ z fs v τ, z.H = H ∧ Cells G z τ ∧ Rep G z.S (.ins c fs) v ∧ xs = [v] ∧
  Run G (RepU G) (gStrI c F (.d (.ins c fs)) τ) (fun _ _ _ => False) z Q
theorem ins_inst {pins : List (Addr × Obj)} {σ : L2.St} {H : Hp} {s : Shared} {x C dx : Addr} {fs : List (Str × V)} (I : Inv X pins σ H s) (h : H x = some (.ins C dx fs)) : ∃ ox od, PySem.W.InstAt s.heap x ox C od := by
  obtain ⟨mA, J, _⟩ := ins_get I.hok h
  obtain ⟨od, J, _⟩ := J.look
  exact ⟨_, _, J⟩
theorem call_strI (S : StrI X.K (G.ca c) f) (Vf : FnV X.prog X.w X.K X.mg X.base k f fd ps (spV G 1 F)) (hb : Bnd0 fd ps 1) (hr : Room (k + 2) X.A) (hgd : X.A.guards = some []) : CallR X (.type "str") (rStrI X G c F) := by
  intro pins s σ H xs us Q I r h
  obtain ⟨z, fs, v, τ, hz, cc, rv, rfl, q⟩ := h
  subst hz
  cases rv with
  | ins h1 h2 =>
    rename_i x dx ps2
    have hx := cc.sub _ _ h1
    obtain ⟨ox, od, J⟩ := ins_inst I hx
    obtain ⟨u, rfl, ru⟩ := vals1 r
    cases ru
    unfold gStrI at q
    simp only [if_true] at q
    cases eF : F [.d (.ins c fs)] τ with
    | bad => rw [eF] at q; exact q.elim
    | exc _ _ _ => rw [eF] at q; exact q.elim
    | ok uo τ1 =>
      rw [eF] at q
      match uo, eF, q with
      | .d (.str t), eF, q =>
        refine PySem.W.kso_call hr.in1.in1.units0 I.kIn J S.at_ S.fn ?_
        refine wpAny_mono (run_sub (Q := fun v H' => v = .str t.s ∧ Q (.str t.s) H') Vf hr.in1.in1 rfl (by rw [in1_guards, in1_guards]; exact hgd) I (hb.to s [.ref x] rfl) (vs := [.ref x]) (.cons rfl .nil) ⟨z, [.d (.ins c fs)], τ, rfl, cc, .cons (.d (.ins h1 h2)) .nil, rfl, ?_⟩) (fun w s' hq => ?_) fun _ _ y => y
        · rw [eF]
          intro z' b f' c' rb
          cases rb with
          | d rb => cases rb; exact ⟨rfl, q z' _ f' c' (.d (.str t))⟩
        · obtain ⟨v, H', I', rw', ev, q'⟩ := hq
          subst ev
          obtain ⟨tk, rfl⟩ := (show ∃ tk, w = Value.str t.s tk from rw')
          exact ⟨.str t.s, H', I', ⟨tk, rfl⟩, q'⟩
      | .loc _, eF, q => exact q.elim
def eStrI (c : Nat) (F : List U → Store → R U) (fe : EV) : EV := fun ρ τ => (fe ρ τ).bind fun u τ1 => gStrI c F u τ1
/-- x == y by the own __eq__ -/
def gEqI (c : Nat) (F : List U → Store → R U) (u w : U) (τ : Store) : R U := match u, w with
  | .d (.ins c1 fs), .d (.ins c2 gs) => if c1 = c ∧ c2 = c then match F [.d (.ins c1 fs), .d (.ins c2 gs)] τ with
    | .ok (.d (.bl b)) τ1 => .ok (.d (.bl b)) τ1
    | _ => .bad
    else .bad
  | _, _ => .bad
def eEqI (c : Nat) (F : List U → Store → R U) (fa fb : EV) : EV := fun ρ τ => (fa ρ τ).bind fun u τ1 => (fb ρ τ1).bind fun w τ2 => gEqI c F u w τ2
structure EqI (K : PySem.W.Frag) (C f : Addr) : Prop where
  at_ : PySem.W.findIn K (.ref C) "__eq__" = some (some (.ref f))
  fn : PySem.W.isFn K (.ref f) = true
def rEqI (G : Gd) (c : Nat) (F : List U → Store → R U) : R2 := fun x y H Q => ∃ z u w τ, z.H = H ∧ Cells G z τ ∧ RepU G z u x ∧ RepU G z w y ∧ Run G (RepU G) (gEqI c F u w τ) (fun _ _ _ => False) z Q
theorem op_eqI (S : EqI X.K (G.ca c) f) (Vf : FnV X.prog X.w X.K X.mg X.base k f fd ps (spV G 2 F)) (hb : Bnd0 fd ps 2) (hr : Room k X.A) (hgd : X.A.guards = some []) : OpR X (compareOp .Eq) (rEqI G c F) := by
  intro pins s σ H x y vx vy Q I rx ry h
  obtain ⟨z, u, w, τ, hz, cc, r1, r2, q⟩ := h
  subst hz
  match u, w, r1, r2, q with
  | .d (.ins c1 fs), .d (.ins c2 gs), .d (.ins (a := x) (ps := p1) h1 h2), .d (.ins (a := y) (ps := p2) h3 h4), w0 =>
    unfold gEqI at w0
    by_cases hc : c1 = c ∧ c2 = c
    · simp only at w0
      rw [if_pos hc] at w0
      obtain ⟨rfl, rfl⟩ := hc
      cases rx
      cases ry
      have hx := cc.sub _ _ h1
      have hy := cc.sub _ _ h3
      obtain ⟨ox, od, J⟩ := ins_inst I hx
      obtain ⟨oy, od', J'⟩ := ins_inst I hy
      obtain ⟨m, hF⟩ := I.fr
      cases eF : F [.d (.ins c2 fs), .d (.ins c2 gs)] τ with
      | bad => rw [eF] at w0; exact w0.elim
      | exc _ _ _ => rw [eF] at w0; exact w0.elim
      | ok uo τ1 =>
        rw [eF] at w0
        match uo, eF, w0 with
        | .d (.bl b), eF, w1 =>
          show wpAny (model X.prog X.w) X.A (richCompare .Eq (.ref x) (.ref y)) (EP X pins σ Q) X.xe s
          refine PySem.W.cmp_K (op := .Eq) (tb := .ref (G.ca c2)) hr.units0 hF I.ok.mod.kin J J'.type (by simp [PySem.W.notFirst]) S.at_ S.fn ?_
          refine wpAny_mono (run_sub (Q := fun v H' => v = .bl b ∧ Q (.bl b) H') Vf hr rfl hgd I (hb.to s [.ref x, .ref y] rfl) (vs := [.ref x, .ref y]) (.cons rfl (.cons rfl .nil)) ⟨z, [.d (.ins c2 fs), .d (.ins c2 gs)], τ, rfl, cc, .cons (.d (.ins h1 h2)) (.cons (.d (.ins h3 h4)) .nil), rfl, ?_⟩) (fun w s' hq => ?_) fun _ _ y => y
          · rw [eF]
            intro z' b f' c' rb
            cases rb with
            | d rb => cases rb; exact ⟨rfl, w1 z' _ f' c' (.d (.bl _))⟩
          · obtain ⟨v, H', I', rw', ev, q'⟩ := hq
            subst ev
            obtain rfl : w = Value.bool b := rw'
            exact ⟨.bl b, H', I', rfl, q'⟩
        | .loc _, eF, w1 => exact w1.elim
    · simp only at w0
      rw [if_neg hc] at w0
      exact w0.elim
end
end VL

/-! The value layer, N: isinstance(x, C), C an own class. -/
namespace VL
open PySem PySem.Spec PyProof.Rows L2 LamX C8
def gIsC (c : Nat) (u : U) (τ : Store) : R U := match u with
  | .d (.ins c' _) => if c' = c then .ok (.d (.bl true)) τ else .bad
  | _ => .bad
def eIsC (c : Nat) (f : EV) : EV := fun ρ τ => (f ρ τ).bind fun u τ1 => gIsC c u τ1
section
variable {X : Cx} {G : Gd} {W : WX} {e : Expr} {f : EV} {pos p p2 : Pos} {c : Nat} {y : Str}
theorem v_isC (hK : X.K = G.K) (C : InsC X.K (G.ca c)) (hg : Gl X "isinstance") (hm : X.mg "isinstance" = none) (hg2 : Gl X y) (hm2 : X.mg y = some (.ref (G.ca c))) (he : PE X e (VE G W f)) (hdb : (y == ("__debug__" : Str)) = false := by decide)
    (h1 : starEach [e, .Name y p2] X.env = (false, eval e X.env) :: starEach [.Name y p2] X.env := by rfl) (h2 : starEach [.Name y p2] X.env = (false, eval (.Name y p2) X.env) :: starEach [] X.env := by rfl) (hpl : (backTo pos (starEach [.Name y p2] X.env)).any (·.1) = false := by rfl) :
    PE X (.Call (.Name "isinstance" p) [e, .Name y p2] [] pos) (VE G W (eIsC c f)) := by
  have hy2 : PE X (.Name y p2) (tC (.ref (G.ca c))) := pe_glob hg2 hm2 rfl hdb
  refine pe_weak (pe_callB (call_isC C) hg hm rfl (pa_cons he (pa_cons hy2 pa_nil h2) h1) (by decide) (by decide) h1 hpl) fun σ H Q ⟨z, ρ, τ, hz, cc, en, q⟩ => ⟨z, ρ, τ, hz, cc, en, (Run.bind q).imp fun v H1 ⟨z1, u, τ1, e1, f1, c1, r1, q1⟩ => ?_⟩
  subst e1
  match u, r1, q1 with
  | .d (.ins c' fs), .d (.ins (a := a) (dx := dx) (ps := ps) h3 h4), w0 =>
    unfold gIsC at w0
    by_cases h : c' = c
    · simp only at w0
      rw [if_pos h] at w0
      subst h
      exact ⟨a, dx, ps, rfl, c1.sub _ _ h3, Run.ok (rep := RepU G) w0 c1 (.d (.bl _))⟩
    · simp only at w0
      rw [if_neg h] at w0
      exact w0.elim
end
end VL

/-! The value layer, O: classmethods read off a class. -/
namespace VL
open PySem PySem.Spec PyProof.Rows L2 LamX ClX
section
variable {X : Cx} {G : Gd} {W : WX} {k n c : Nat} {g p : Addr} {mc : Value} {fd : FuncData} {ps : List Str} {F : List U → Store → R U}
theorem run_cmV {q : Addr} {pins : List (Addr × Obj)} {σ : L2.St} {H : Hp} {s : Shared} {Q : VK} {us : List Value} {vs : List V} {E : XK} (Vf : FnV X.prog X.w X.K X.mg X.base k g fd ps (spV G n F)) (hr : Room k X.A) (hgd : X.A.guards = some [])
    (I : Inv X ((q, PySem.W.methodObj (.ref g) (.ref (G.ca c))) :: pins) σ H s) (hx : ∀ e s', L2.CX X.prog X.w X.stack H s E e s' → X.xe e s') (hb : BindsTo s fd ⟨.ref (G.ca c) :: us, []⟩ (ps.zip (.ref (G.ca c) :: us))) (r : Vals vs us) (h : spV G n F (.ref (G.ca c) :: vs) H Q E) :
    wpAny (model X.prog X.w) X.A (call (.ref q) us) (EP X pins σ Q) X.xe s := by
  have z : wpAny (model X.prog X.w) X.A (call (.ref q) us) (EP X ((q, PySem.W.methodObj (.ref g) (.ref (G.ca c))) :: pins) σ Q) X.xe s := by
    refine wpAny_call (PySem.W.method_call (pin_at I) (codeAny_mono (Vf.run X.A X.stack s H ⟨.ref (G.ca c) :: us, []⟩ (.ref (G.ca c) :: us) (.ref (G.ca c) :: vs) Q E hr hgd I.env0 hb (.cons rfl r) h) fun res s' hq => ?_))
    match res, hq with
    | .error e, hq => exact hx e s' hq
    | .ok (.ret u), hq => exact I.after hq
  exact thn z fun _ _ y => unpinE y
/-- C.m(e, ..), m a classmethod -/
def eCM (c n : Nat) (F : List U → Store → R U) (fs : EL) : EV := fun ρ τ => (fs ρ τ).bind fun us τ1 => if us.length + 1 = n then F (.d (.cls c) :: us) τ1 else .bad
theorem v_cm {y m : Str} {e : Expr} {es : List Expr} {fs : EL} {pos apos p2 : Pos} {pl : Sem Bool} (Vf : FnV X.prog X.w X.K X.mg X.base k g fd ps (spV G n F)) (hr : Room k X.A) (hgd : X.A.guards = some []) (tk : Takes X W) (hg : Gl X y) (hm : X.mg y = some (.ref (G.ca c))) (rd : CRead X.K (G.ca c) mc) (cm : CMet X.K (G.ca c) mc m p g)
    (hb : Bnd0 fd ps n) (ha : PA X (e :: es) (VA G W fs)) (hdb : (y == ("__debug__" : Str)) = false := by decide)
    (hst : starEach (e :: es) X.env = (false, eval e X.env) :: starEach es X.env := by rfl) (hpl : (backTo pos (starEach es X.env)).any (·.1) = false := by rfl)
    (ht : eval (.Call (.Attribute (.Name y p2) m apos) (e :: es) [] pos) X.env = (do
      let ov ← eval (.Name y p2) X.env
      standAt apos.atName
      let (f, first) ← holding [ov] (getMethod ov m pl)
      callWith pos f first (backTo pos (starEach (e :: es) X.env)) (backToKw pos (keywordEach [] X.env))) := by rfl) :
    PE X (.Call (.Attribute (.Name y p2) m apos) (e :: es) [] pos) (VE G W (eCM c n F fs)) := by
  refine ⟨fun pins s σ H Q I ⟨z, ρ, τ, hz, cc, en, q⟩ => ?_⟩
  refine PySem.W.methodCall_KW (pl := pl) (ld_glob I hg hm ?_ hdb) ht
  refine getmethcm_ok I rd cm fun s2 I2 => ?_
  have h1 := ha.run pos _ s2 σ H _ I2 ⟨z, ρ, τ, hz, cc, en, Run.bind q⟩
  refine callwith_cm I2 (base_none I (Nat.le_refl _)) cm.fi (thn h1 fun us s3 hq => ?_) hst hpl
  obtain ⟨vs, H2, I3, rv, z1, uu, τ1, e1, f1, c1, r1, q1⟩ := hq
  subst e1
  refine ⟨⟨pin_at I3, I3.kIn⟩, ?_⟩
  by_cases hl : uu.length + 1 = n
  · rw [if_pos hl] at q1
    refine run_cmV Vf hr hgd I3 (passAt tk σ _ _ _ · · I3) (hb.to s3 (.ref (G.ca c) :: us) (by rw [List.length_cons, ← rv.length, ← r1.length, hl])) rv ⟨z1, .d (.cls c) :: uu, τ1, rfl, c1, .cons (.d (.cls c)) r1, by simpa using hl, q1⟩
  · rw [if_neg hl] at q1; exact q1.elim
/-- C.m(q = e) -/
theorem run_cmK {q : Addr} {nm : Str} {pins : List (Addr × Obj)} {σ : L2.St} {H : Hp} {s : Shared} {Q : VK} {u : Value} {v : V} {E : XK} (Vf : FnV X.prog X.w X.K X.mg X.base k g fd ps (spV G n F)) (hr : Room k X.A) (hgd : X.A.guards = some [])
    (I : Inv X ((q, PySem.W.methodObj (.ref g) (.ref (G.ca c))) :: pins) σ H s) (hx : ∀ e s', L2.CX X.prog X.w X.stack H s E e s' → X.xe e s') (hb : BindsTo s fd ⟨[.ref (G.ca c)], [(nm, u)]⟩ (ps.zip [.ref (G.ca c), u])) (r : RelV v u) (h : spV G n F [.ref (G.ca c), v] H Q E) :
    wpAny (model X.prog X.w) X.A (call (.ref q) [] [(nm, u)]) (EP X pins σ Q) X.xe s := by
  have z : wpAny (model X.prog X.w) X.A (call (.ref q) [] [(nm, u)]) (EP X ((q, PySem.W.methodObj (.ref g) (.ref (G.ca c))) :: pins) σ Q) X.xe s := by
    refine wpAny_call (PySem.W.method_call (pin_at I) (codeAny_mono (Vf.run X.A X.stack s H ⟨[.ref (G.ca c)], [(nm, u)]⟩ [.ref (G.ca c), u] [.ref (G.ca c), v] Q E hr hgd I.env0 hb (.cons rfl (.cons r .nil)) h) fun res s' hq => ?_))
    match res, hq with
    | .error e, hq => exact hx e s' hq
    | .ok (.ret u), hq => exact I.after hq
  exact thn z fun _ _ y => unpinE y
def eCMK (c : Nat) (F : List U → Store → R U) (f : EV) : EV := fun ρ τ => (f ρ τ).bind fun u τ1 => F [.d (.cls c), u] τ1
theorem v_cmK {y m nm : Str} {e : Expr} {f : EV} {pos apos p2 kpos : Pos} {pl : Sem Bool} (Vf : FnV X.prog X.w X.K X.mg X.base k g fd ps (spV G 2 F)) (hr : Room k X.A) (hgd : X.A.guards = some []) (tk : Takes X W) (hg : Gl X y) (hm : X.mg y = some (.ref (G.ca c))) (rd : CRead X.K (G.ca c) mc) (cm : CMet X.K (G.ca c) mc m p g)
    (hb : ∀ (s : Shared) (a b : Value), BindsTo s fd ⟨[a], [(nm, b)]⟩ (ps.zip [a, b])) (ha : PE X e (VE G W f)) (hdb : (y == ("__debug__" : Str)) = false := by decide)
    (hall : (backToKw pos (keywordEach [⟨some nm, e, kpos⟩] X.env)).all (·.1.isSome) = true := by rfl) (hks : (backToKw pos (keywordEach [⟨some nm, e, kpos⟩] X.env)).filterMap (·.1) = [nm] := by rfl)
    (hpl : ((backTo pos (starEach [] X.env)).any (·.1) || (backToKw pos (keywordEach [⟨some nm, e, kpos⟩] X.env)).any (·.1.isNone)) = false := by rfl)
    (ht : eval (.Call (.Attribute (.Name y p2) m apos) [] [⟨some nm, e, kpos⟩] pos) X.env = (do
      let ov ← eval (.Name y p2) X.env
      standAt apos.atName
      let (f, first) ← holding [ov] (getMethod ov m pl)
      callWith pos f first (backTo pos (starEach [] X.env)) (backToKw pos (keywordEach [⟨some nm, e, kpos⟩] X.env))) := by rfl) :
    PE X (.Call (.Attribute (.Name y p2) m apos) [] [⟨some nm, e, kpos⟩] pos) (VE G W (eCMK c F f)) := by
  refine ⟨fun pins s σ H Q I ⟨z, ρ, τ, hz, cc, en, q⟩ => ?_⟩
  refine PySem.W.methodCall_KW (pl := pl) (ld_glob I hg hm ?_ hdb) ht
  refine getmethcm_ok I rd cm fun s2 I2 => ?_
  have h1 := (vp_cons (nm := some nm) (kpos := kpos) ha vp_nil).run pos _ s2 σ H (fun vs H1 => ∃ v z1 u τ1, vs = [v] ∧ z1.H = H1 ∧ Cells G z1 τ1 ∧ RepU G z1 u v ∧ Run G (RepU G) (F [.d (.cls c), u] τ1) (fun c d H' => W c d σ H') z1 Q) I2 ⟨z, ρ, τ, hz, cc, en, by
    show Run G (RepUs G) ((elCons f elNil) ρ τ) _ z _
    unfold elCons elNil
    unfold eCMK at q
    cases ef : f ρ τ with
    | bad => rw [ef] at q; exact q.elim
    | exc e1 fs τ1 => rw [ef] at q; exact q
    | ok u τ1 =>
      rw [ef] at q
      intro z' b f' c' rb
      cases rb with
      | cons r1 rr =>
        cases rr
        exact ⟨_, z', u, τ1, rfl, rfl, c', r1, Run.pre q f'⟩⟩
  refine PySem.W.callWith_of hpl (PySem.W.keeps_M (q := s.heap.objs.size) (f := g) (self := .ref (G.ca c)) cm.fi) (evalArgs_kw2_nil hall (thn h1 fun us s3 hq => ?_))
  obtain ⟨vs, H2, I3, rv, v, z1, u, τ1, e1, e2, c1, r1, q1⟩ := hq
  subst e1
  subst e2
  cases rv with
  | cons ru rr =>
    cases rr
    refine ⟨⟨pin_at I3, I3.kIn⟩, ?_⟩
    rw [hks]
    exact run_cmK Vf hr hgd I3 (passAt tk σ _ _ _ · · I3) (hb s3 _ _) ru ⟨z1, [.d (.cls c), u], τ1, rfl, c1, .cons (.d (.cls c)) (.cons r1 .nil), rfl, q1⟩
end
end VL

/-! The value layer, P: a local name that holds a class, called. -/
namespace VL
open PySem PySem.Spec PyProof.Rows L2 LamX
def eMakeL (i c n m : Nat) (F : List U → Store → R U) (os : List Nat) (fs fk : EL) : EV := fun ρ τ => match ρ[i]? with
  | some (some (.d (.cls c'))) => if c' = c then eMake c n m F os fs fk ρ τ else .bad
  | _ => .bad
section
variable {X : Cx} {G : Gd} {W : WX} {k n : Nat} {f : Addr} {fd : FuncData} {ps ks : List Str} {F : List U → Store → R U} {os : List Nat} {c : Nat}
theorem v_makeL {i m a : Nat} {x : Str} {p pos : Pos} {e : Expr} {es : List Expr} {kws : List Keyword} {fs fk : EL} (M : Mk X.K (G.ca c) f) (V : FnV X.prog X.w X.K X.mg X.base k f fd ps (spV G n F)) (hr : Room (k + 1) X.A) (hgd : X.A.guards = some []) (tk : Takes X W) (hN : X.N[i]? = some x) (hv : Vis X.env.scope x)
    (hb : Bnd X.K fd ps (a + 1) ks [] os) (hps : ps.length = n) (hmk : ks.length = m) (hos : ∀ l : List U, l.length = a + 1 + m → (pickL os l).length = n)
    (ha : PA X (e :: es) (VA G W fs)) (hkw : PK X kws (VA G W fk)) (hall : (backToKw pos (keywordEach kws X.env)).all (·.1.isSome) = true := by rfl) (hks : (backToKw pos (keywordEach kws X.env)).filterMap (·.1) = ks := by rfl)
    (hdb : (x == ("__debug__" : Str)) = false := by decide) (hcd : (x == ("__classdict__" : Str)) = false := by decide) (he : starEach (e :: es) X.env = (false, eval e X.env) :: starEach es X.env := by rfl)
    (hpl : ((backTo pos (starEach (e :: es) X.env)).any (·.1) || (backToKw pos (keywordEach kws X.env)).any (·.1.isNone)) = false := by rfl) : PE X (.Call (.Name x p) (e :: es) kws pos) (VE G W (eMakeL i c a m F os fs fk)) := by
  refine ⟨fun pins s σ H Q I ⟨z, ρ, τ, hz, cc, en, q⟩ => ?_⟩
  unfold eMakeL at q
  cases e0 : ρ[i]? with
  | none => rw [e0] at q; exact q.elim
  | some o =>
    match o, e0, q with
    | none, e0, q => rw [e0] at q; exact q.elim
    | some (.loc _), e0, q => rw [e0] at q; exact q.elim
    | some .fn, e0, q => rw [e0] at q; exact q.elim
    | some (.d d), e0, q =>
      cases d with
      | cls c' =>
        rw [e0] at q
        simp only at q
        by_cases hc : c' = c
        · rw [if_pos hc] at q
          subst hc
          obtain ⟨v, hs, rv⟩ := en.at_ i _ e0
          have ev : v = .ref (G.ca c') := by
            cases rv with
            | d rv => cases rv; rfl
          subst ev
          refine wpAny_Call_Name_kw (thn ((pe_var (pos := p) hN hv hdb hcd).run pins s σ H (fun v H1 => v = .ref (G.ca c') ∧ H1 = H) I ⟨_, hs, rfl, rfl⟩) fun u s1 ⟨v, H1, I1, r1, q1⟩ => ?_)
          obtain ⟨rfl, rfl⟩ := q1
          cases r1
          have h1 := ha.run pos pins s1 σ H1 _ I1 ⟨z, ρ, τ, hz, cc, en, Run.bind q⟩
          refine PySem.W.callWith_KW (h₀ := X.base) I1.ok.mod.kin M.kp hall (thn h1 fun us s2 hq => ?_) hpl he
          obtain ⟨vs, H2, I2, r, z1, uu, τ1, e1, f1, c1, r1, q1⟩ := hq
          subst e1
          have h2 := hkw.run pos pins s2 σ z1.H _ I2 ⟨z1, ρ, τ1, rfl, c1, en.fut f1, Run.bind q1⟩
          refine thn h2 fun ws s3 hq2 => ?_
          obtain ⟨xs, H3, I3, r', z2, wu, τ2, e2, f2, c2, r2, q2⟩ := hq2
          subst e2
          refine ⟨I3.kIn, ?_⟩
          rw [hks]
          exact make_run M V hr hgd tk hb I3 r r' c2 (r1.fut f2) r2 hps hmk hos q2
        · rw [if_neg hc] at q; exact q.elim
      | _ => rw [e0] at q; exact q.elim
end
end VL

/-! The value layer, Q: x != y by the own __eq__. -/
namespace VX
open PySem PySem.W PySem.Calls PyProof.Rows
open Sem (wp)
section
variable {prog : Program} {w : World} {A : Around} {E : Value → Shared → Prop} {s : Shared} {K : Frag} {C x y f : Addr} {ox oy : Obj} {od od' : Option Obj}
theorem ne_entry (hu : A.units < cLine) (X : K.In s.heap) (I : InstAt s.heap x ox C od) (hs : findIn K (.ref C) "__eq__" = some (some (.ref f))) (hf : isFn K (.ref f) = true) {Q : Fin → Shared → Prop}
    (hcall : wpAny (model prog w) A (call (.ref f) [.ref x, .ref y]) (fun v s' => ∃ b, v = .bool b ∧ Q (.done (.ret (.bool (!b)))) s') E s) :
    wpAny (model prog w) A (Builtin.«object.__ne__» ⟨[.ref x, .ref y], []⟩) Q E s := by
  obtain ⟨h, g, d, t, os⟩ := s
  unfold Builtin.«object.__ne__»
  repeat (first
    | with_reducible refine wpAny_cRoomFor hu ?_
    | (refine wpAny_bind (m := callSpecialIfBound? (.ref x) (Str.ofString "__eq__") [.ref y])
        (ifBound_K X I hs hf (wpAny_mono hcall (fun r s' hr => by
          obtain ⟨b, rfl, hq⟩ := hr
          repeat (first | exact hq | exact wpAny_pure hq | exact wpAny_truthy_bool hq | (refine wpAny_bind (m := truthy (.bool _)) (wpAny_truthy_bool ?_)) | wp_step)) fun _ _ e => e)))
    | wp_step)
theorem ne_K (hu : A.units + 1 < cLine) (X : K.In s.heap) (I : InstAt s.heap x ox C od) (I' : InstAt s.heap y oy C od') (hn : findIn K (.ref C) "__ne__" = some (some (.builtin "object.__ne__"))) (hm : mroIn K C (.type "object") = some true)
    (hs : findIn K (.ref C) "__eq__" = some (some (.ref f))) (hf : isFn K (.ref f) = true) {Q : Value → Shared → Prop}
    (hcall : wpAny (model prog w) A.in1 (call (.ref f) [.ref x, .ref y]) (fun v s' => ∃ b, v = .bool b ∧ Q (.bool (!b)) s') E s) : wpAny (model prog w) A (richCompare .NotEq (.ref x) (.ref y)) Q E s := by
  have one : wpAny (model prog w) A (tryCompare (.ref x) "__ne__" (.ref y)) (fun r s' => ∃ v, r = some v ∧ Q v s') E s := by
    unfold tryCompare
    have sp : Looks (model prog w) s.heap (specialOf (.ref x) "__ne__") (some (.builtin "object.__ne__")) := I.type.andThen (looks_findIn X hn)
    have iv : Looks (model prog w) s.heap (isInstance (.ref x) (.type "object")) true := I.type.andThen (looks_mroIn X hm)
    refine wpAny_bind (NtL.csib sp (PySem.F.cmp_object.ne.bind _) (wpAny_call (codeAny_call_builtin PySem.F.cmp_object.ne.plain PySem.F.cmpEntry_ne (@check_slot (model prog w) _ _ _ "object.__ne__" "object" "__ne__" (.ref x) [.ref y] [] _ PySem.F.cmpKind_ne PySem.F.cmpSplit_ne iv (PySem.F.cmpArgs_ne _ _) ?_))))
    refine ne_entry (A := A.in1) hu X I hs hf (wpAny_mono hcall (fun v s' hv => ?_) fun _ _ e => e)
    obtain ⟨b, rfl, hq⟩ := hv
    first | exact ⟨b, rfl, wpAny_pure ⟨_, rfl, hq⟩⟩ | exact ⟨b, rfl, wpAny_pure (wpAny_pure ⟨_, rfl, hq⟩)⟩ | exact ⟨b, rfl, _, rfl, hq⟩
  unfold richCompare
  simp only [oneThing_ref]
  refine wpAny_holding (wpAny_bind (wpAny_cRoomFor (Nat.lt_of_succ_lt hu) ?_))
  rw [cmpInfo_NotEq]
  dsimp only
  refine wpAny_bind (I.type.here (wpAny_bind (I'.type.here ?_)))
  rw [show (Value.ref C != Value.ref C) = false from by simp]
  simp only [Bool.false_eq_true, if_false]
  refine wpAny_bind (wpAny_pure ?_)
  simp only [Bool.false_eq_true, if_false]
  refine wpAny_bind (wpAny_mono one (fun v s' hv => ?_) fun _ _ e => e)
  obtain ⟨v, rfl, hq⟩ := hv
  first | exact wpAny_pure hq | exact wpAny_pure (wpAny_pure hq)
end
end VX
namespace VL
open PySem PySem.Spec PyProof.Rows L2 LamX
/-- x != y by the own __eq__ -/
def gNeI (c : Nat) (F : List U → Store → R U) (u w : U) (τ : Store) : R U := match u, w with
  | .d (.ins c1 fs), .d (.ins c2 gs) => if c1 = c ∧ c2 = c then match F [.d (.ins c1 fs), .d (.ins c2 gs)] τ with
    | .ok (.d (.bl b)) τ1 => .ok (.d (.bl (!b))) τ1
    | _ => .bad
    else .bad
  | _, _ => .bad
def eNeI (c : Nat) (F : List U → Store → R U) (fa fb : EV) : EV := fun ρ τ => (fa ρ τ).bind fun u τ1 => (fb ρ τ1).bind fun w τ2 => gNeI c F u w τ2
structure NeI (K : PySem.W.Frag) (C f : Addr) : Prop where
  at_ : PySem.W.findIn K (.ref C) "__eq__" = some (some (.ref f))
  fn : PySem.W.isFn K (.ref f) = true
  ne : PySem.W.findIn K (.ref C) "__ne__" = some (some (.builtin "object.__ne__"))
  hm : PySem.W.mroIn K C (.type "object") = some true
def rNeI (G : Gd) (c : Nat) (F : List U → Store → R U) : R2 := fun x y H Q => ∃ z u w τ, z.H = H ∧ Cells G z τ ∧ RepU G z u x ∧ RepU G z w y ∧ Run G (RepU G) (gNeI c F u w τ) (fun _ _ _ => False) z Q
section
variable {X : Cx} {G : Gd} {W : WX} {a b : Expr} {fa fb : EV} {pos : Pos} {c k : Nat} {f : Addr} {fd : FuncData} {ps : List Str} {F : List U → Store → R U}
theorem op_neI (S : NeI X.K (G.ca c) f) (Vf : FnV X.prog X.w X.K X.mg X.base k f fd ps (spV G 2 F)) (hb : Bnd0 fd ps 2) (hr : Room (k + 1) X.A) (hgd : X.A.guards = some []) : OpR X (compareOp .NotEq) (rNeI G c F) := by
  intro pins s σ H x y vx vy Q I rx ry h
  obtain ⟨z, u, w, τ, hz, cc, r1, r2, q⟩ := h
  subst hz
  match u, w, r1, r2, q with
  | .d (.ins c1 fs), .d (.ins c2 gs), .d (.ins (a := x) (ps := p1) h1 h2), .d (.ins (a := y) (ps := p2) h3 h4), w0 =>
    unfold gNeI at w0
    by_cases hc : c1 = c ∧ c2 = c
    · simp only at w0
      rw [if_pos hc] at w0
      obtain ⟨rfl, rfl⟩ := hc
      cases rx
      cases ry
      have hx := cc.sub _ _ h1
      have hy := cc.sub _ _ h3
      obtain ⟨ox, od, J⟩ := ins_inst I hx
      obtain ⟨oy, od', J'⟩ := ins_inst I hy
      cases eF : F [.d (.ins c2 fs), .d (.ins c2 gs)] τ with
      | bad => rw [eF] at w0; exact w0.elim
      | exc _ _ _ => rw [eF] at w0; exact w0.elim
      | ok uo τ1 =>
        rw [eF] at w0
        match uo, eF, w0 with
        | .d (.bl b), eF, w1 =>
          show wpAny (model X.prog X.w) X.A (richCompare .NotEq (.ref x) (.ref y)) (EP X pins σ Q) X.xe s
          refine VX.ne_K (by have := hr.units; omega) I.kIn J J' S.ne S.hm S.at_ S.fn ?_
          refine wpAny_mono (run_sub (Q := fun v H' => v = .bl b ∧ Q (.bl (!b)) H') Vf hr.in1 rfl (by rw [in1_guards]; exact hgd) I (hb.to s [.ref x, .ref y] rfl) (vs := [.ref x, .ref y]) (.cons rfl (.cons rfl .nil)) ⟨z, [.d (.ins c2 fs), .d (.ins c2 gs)], τ, rfl, cc, .cons (.d (.ins h1 h2)) (.cons (.d (.ins h3 h4)) .nil), rfl, ?_⟩) (fun w s' hq => ?_) fun _ _ y => y
          · rw [eF]
            intro z' b f' c' rb
            cases rb with
            | d rb => cases rb; exact ⟨rfl, w1 z' _ f' c' (.d (.bl _))⟩
          · obtain ⟨v, H', I', rw', ev, q'⟩ := hq
            subst ev
            obtain rfl : w = Value.bool b := rw'
            exact ⟨b, rfl, .bl (!b), H', I', rfl, q'⟩
        | .loc _, eF, w1 => exact w1.elim
    · simp only at w0
      rw [if_neg hc] at w0
      exact w0.elim
theorem v_eqI (S : EqI X.K (G.ca c) f) (Vf : FnV X.prog X.w X.K X.mg X.base k f fd ps (spV G 2 F)) (hb : Bnd0 fd ps 2) (hr : Room k X.A) (hgd : X.A.guards = some []) (ha : PE X a (VE G W fa)) (hbb : PE X b (VE G W fb)) (hm : behindInMarks .Eq b = false := by rfl) :
    PE X (.Compare a [.Eq] [b] pos) (VE G W (eEqI c F fa fb)) :=
  ve_step2 (pe_cmpR (op_eqI S Vf hb hr hgd) ha hbb hm) (r := rEqI G c F) (fun _ _ _ h => h) fun z u w τ x y W Q cc r1 r2 q => ⟨z, u, w, τ, rfl, cc, r1, r2, by
    unfold gEqI at q ⊢
    split at q
    · split at q
      · rename_i h
        rw [if_pos h]
        split at q
        · exact q
        · exact q.elim
      · exact q.elim
    · exact q.elim⟩
theorem v_neI (S : NeI X.K (G.ca c) f) (Vf : FnV X.prog X.w X.K X.mg X.base k f fd ps (spV G 2 F)) (hb : Bnd0 fd ps 2) (hr : Room (k + 1) X.A) (hgd : X.A.guards = some []) (ha : PE X a (VE G W fa)) (hbb : PE X b (VE G W fb)) (hm : behindInMarks .NotEq b = false := by rfl) :
    PE X (.Compare a [.NotEq] [b] pos) (VE G W (eNeI c F fa fb)) :=
  ve_step2 (pe_cmpR (op_neI S Vf hb hr hgd) ha hbb hm) (r := rNeI G c F) (fun _ _ _ h => h) fun z u w τ x y W Q cc r1 r2 q => ⟨z, u, w, τ, rfl, cc, r1, r2, by
    unfold gNeI at q ⊢
    split at q
    · split at q
      · rename_i h
        rw [if_pos h]
        split at q
        · exact q
        · exact q.elim
      · exact q.elim
    · exact q.elim⟩
end
end VL

/-! The value layer, R: str(x). -/
namespace VL
open PySem PySem.Spec PyProof.Rows L2 LamX
section
variable {X : Cx} {G : Gd} {W : WX} {e : Expr} {fe : EV} {pos p : Pos} {c k : Nat} {f : Addr} {fd : FuncData} {ps : List Str} {F : List U → Store → R U}
theorem v_strI (S : StrI X.K (G.ca c) f) (Vf : FnV X.prog X.w X.K X.mg X.base k f fd ps (spV G 1 F)) (hb : Bnd0 fd ps 1) (hr : Room (k + 2) X.A) (hgd : X.A.guards = some []) (hg : Gl X "str") (hm : X.mg "str" = none) (he : PE X e (VE G W fe))
    (h1 : starEach [e] X.env = (false, eval e X.env) :: starEach [] X.env := by rfl) (hpl : (backTo pos (starEach [] X.env)).any (·.1) = false := by rfl) : PE X (.Call (.Name "str" p) [e] [] pos) (VE G W (eStrI c F fe)) := by
  refine pe_weak (pe_callTy (call_strI S Vf hb hr hgd) hg hm rfl (pa_cons he pa_nil h1) (by decide) (by decide) h1 hpl) fun σ H Q ⟨z, ρ, τ, hz, cc, en, q⟩ => ⟨z, ρ, τ, hz, cc, en, (Run.bind q).imp fun v H1 ⟨z1, u, τ1, e1, f1, c1, r1, q1⟩ => ?_⟩
  subst e1
  match u, r1, q1 with
  | .d (.ins c' fs), .d rv, w0 =>
    by_cases h : c' = c
    · subst h
      refine ⟨z1, fs, v, τ1, rfl, c1, rv, rfl, ?_⟩
      unfold gStrI at w0 ⊢
      simp only [if_true] at w0 ⊢
      split at w0
      · exact w0
      · exact w0.elim
    · unfold gStrI at w0
      simp only at w0
      rw [if_neg h] at w0
      exact w0.elim
end
end VL

/-! The value layer, S: str(i), int(text), f-strings. -/
namespace VL
open PySem PySem.Spec PyProof.Rows L2 LamX
/-- an int's text -/
def itx (i : Int) : T := (PySem.Str.ofString (toString i)).cps.toList
theorem itx_s (i : Int) : T.s (itx i) = PySem.Str.ofString (toString i) := T.of _
def fStr : D → Store → R U
  | .int i, τ => if i.natAbs.log2 < 1920 then .ok (.d (.str (itx i))) τ else .bad
  | .str t, τ => .ok (.d (.str t)) τ
  | _, _ => .bad
section
variable {X : Cx} {G : Gd} {W : WX} {e : Expr} {es : List Expr} {f : EV} {pos : Pos}
def rStr : List V → Hp → VK → Prop := fun xs H Q => (∃ i : Int, xs = [.int i] ∧ i.natAbs.log2 < 1920 ∧ Q (.str (PySem.Str.ofString (toString i))) H) ∨ ∃ a, xs = [.str a] ∧ Q (.str a) H
theorem call_strB : CallR X (.type "str") rStr := CallR.or call_str_int SkE.call_str_str
theorem c_str : CallS G (c1 fStr) rStr := c1_s fun z d τ v W Q c rh q => by
  cases d with
  | int i =>
    rw [rh.int_]
    have q : Run G (RepU G) (if i.natAbs.log2 < 1920 then .ok (.d (.str (itx i))) τ else .bad) W z Q := q
    by_cases h : i.natAbs.log2 < 1920
    · rw [if_pos h] at q
      exact .inl ⟨i, rfl, h, Run.ok (rep := RepU G) q c (.d (by rw [← itx_s]; exact .str _))⟩
    · rw [if_neg h] at q; exact q.elim
  | str t =>
    rw [rh.str_]
    exact .inr ⟨_, rfl, Run.ok (rep := RepU G) q c (.d (.str _))⟩
  | _ => exact q.elim
def fIntT : D → Store → R U
  | .str t, τ => match PySem.intText? t.s with
    | some n => if t.length ≤ 640 then .ok (.d (.int n)) τ else .bad
    | none => .bad
  | d, τ => fInt d τ
def rInt : List V → Hp → VK → Prop := fun xs H Q => ((∃ i, xs = [.int i] ∧ Q (.int i) H) ∨ ∃ k, xs = [.bl k] ∧ Q (.int (if k then 1 else 0)) H) ∨ ∃ a n, xs = [.str a] ∧ PySem.intText? a = some n ∧ a.length ≤ 640 ∧ Q (.int n) H
theorem call_intB : CallR X (.type "int") rInt := CallR.or call_int1 call_int_str
theorem c_intT : CallS G (c1 fIntT) rInt := c1_s fun z d τ v W Q c rh q => by
  have gen : Run G (RepU G) (fInt d τ) W z Q → rInt [v] z.H Q := fun q => .inl (c_int z [d] τ [v] W Q c (.cons rh .nil) q)
  cases d with
  | str t =>
    rw [rh.str_]
    have q : Run G (RepU G) (match PySem.intText? t.s with
      | some n => if t.length ≤ 640 then .ok (.d (.int n)) τ else .bad
      | none => .bad) W z Q := q
    cases e : PySem.intText? t.s with
    | none => rw [e] at q; exact q.elim
    | some n =>
      rw [e] at q
      simp only at q
      by_cases h : t.length ≤ 640
      · rw [if_pos h] at q
        exact .inr ⟨_, n, rfl, e, by rw [T.len]; exact h, Run.ok (rep := RepU G) q c (.d (.int _))⟩
      · rw [if_neg h] at q; exact q.elim
  | _ => exact gen q
/-- f'..{x}..' -/
def gFmt (u : U) (τ : Store) : R U := match u with
  | .d (.int i) => if i.natAbs.log2 < 1920 then .ok (.d (.str (itx i))) τ else .bad
  | .d (.str t) => if t.length ≤ sizeLine then .ok (.d (.str t)) τ else .bad
  | _ => .bad
def eFmt (f : EV) : EV := fun ρ τ => (f ρ τ).bind gFmt
theorem v_fmt (he : PE X e (VE G W f)) : PE X (.FormattedValue e (-1) none pos) (VE G W (eFmt f)) :=
  ve_step1 (pe_fmt he) (r := fun x H Q => (∃ y : Str, x = .str y ∧ y.length ≤ sizeLine ∧ Q (.str y) H) ∨ ∃ i : Int, x = .int i ∧ i.natAbs.log2 < 1920 ∧ Q (.str (PySem.Str.ofString (toString i))) H) (fun _ _ _ h => h) fun z u τ v W Q c r q => by
    match u, r, q with
    | .d (.int i), .d r, q =>
      cases r
      unfold gFmt at q
      simp only at q
      by_cases h : i.natAbs.log2 < 1920
      · rw [if_pos h] at q
        exact .inr ⟨i, rfl, h, Run.ok (rep := RepU G) q c (.d (by rw [← itx_s]; exact .str _))⟩
      · rw [if_neg h] at q; exact q.elim
    | .d (.str t), .d r, q =>
      cases r
      unfold gFmt at q
      simp only at q
      by_cases h : t.length ≤ sizeLine
      · rw [if_pos h] at q
        exact .inl ⟨_, rfl, by rw [T.len]; exact h, Run.ok (rep := RepU G) q c (.d (.str _))⟩
      · rw [if_neg h] at q; exact q.elim
/-- the parts' texts one behind the other -/
def jsGo : List EV → T → Env → Store → R U
  | [], acc, _, τ => .ok (.d (.str acc)) τ
  | f :: fs, acc, ρ, τ => (f ρ τ).bind fun u τ1 => match u with
    | .d (.str t) => if (acc ++ t).length ≤ sizeLine then jsGo fs (acc ++ t) ρ τ1 else .bad
    | _ => .bad
def eJs (fs : List EV) : EV := fun ρ τ => jsGo fs [] ρ τ
inductive VJ (X : Cx) (G : Gd) (W : WX) : List Expr → List EV → Prop
  | nil : VJ X G W [] []
  | cons {e : Expr} {f : EV} {es : List Expr} {fs : List EV} (h : PE X e (VE G W f)) (r : VJ X G W es fs) : VJ X G W (e :: es) (f :: fs)
theorem VJ.pj {fs : List EV} (h : VJ X G W es fs) : PJ X es (fs.map fun f => VE G W f) := by
  induction h with
  | nil => exact .nil
  | cons h r ih => exact .cons h ih
theorem T.app (a b : T) : T.s a ++ T.s b = T.s (a ++ b) := by
  first
  | rfl
  | (show (⟨_⟩ : Str) = ⟨_⟩; simp [T.s])
theorem js_run : ∀ (fs : List EV) (acc : T) {σ : L2.St} {z : Z} {ρ : Env} {τ : Store} {Q : VK}, Cells G z τ → EnvR G z ρ σ → Run G (RepU G) (jsGo fs acc ρ τ) (fun c d H' => W c d σ H') z Q →
    tJs (fs.map fun f => VE G W f) acc.s σ z.H (fun out H1 => Q (.str out) H1)
  | [], acc, σ, z, ρ, τ, Q, c, en, q => Run.ok (rep := RepU G) q c (.d (.str _))
  | f :: fs, acc, σ, z, ρ, τ, Q, c, en, q => by
    refine ⟨z, ρ, τ, rfl, c, en, (Run.bind q).imp fun v H1 ⟨z1, u, τ1, e1, f1, c1, r1, q1⟩ => ?_⟩
    subst e1
    match u, r1, q1 with
    | .d (.str t), .d r, q1 =>
      cases r
      simp only at q1
      by_cases h : (acc ++ t).length ≤ sizeLine
      · rw [if_pos h] at q1
        refine ⟨_, rfl, by rw [T.app, T.len]; exact h, ?_⟩
        rw [T.app]
        exact js_run fs (acc ++ t) c1 (en.fut f1) q1
      · rw [if_neg h] at q1; exact q1.elim
theorem v_js {v1 v2 : Expr} {rest : List Expr} {fs : List EV} (h : VJ X G W (v1 :: v2 :: rest) fs) : PE X (.JoinedStr (v1 :: v2 :: rest) pos) (VE G W (eJs fs)) :=
  pe_weak (pe_joined h.pj) fun σ H Q ⟨z, ρ, τ, hz, c, en, q⟩ => by
    subst hz
    exact js_run fs [] c en q
end
end VL

/-! The value layer, T: try .. except X as n: y = n; the error is kept. -/
namespace VL
open PySem PySem.Spec PyProof.Rows L2 LamX
section
variable {X : Cx} {pins : List (Addr × Obj)} {σ : L2.St} {H : Hp} {s : Shared}
/-- a pinned error is tracked -/
theorem keep_exn {a C dd : Addr} {oe : Obj} {vs : Array Value} (I : Inv X ((a, oe) :: pins) σ H s) (hc : oe.cls = .ref C) (hd : oe.dict = some dd) (hf : oe.data = .fields vs) (new0 : ∀ o, X.s_0.heap.get? a ≠ some o) (np : ∀ p ∈ X.pn ++ pins, p.1 ≠ a) :
    Inv X pins σ (upd H a (exnO C a dd)) s := by
  obtain ⟨ha, hn, nL, nF, ncell⟩ := I.pin (a, oe) (List.mem_append_right _ List.mem_cons_self)
  have ne : ∀ b o, H b = some o → b ≠ a := fun b o e q => by rw [q, hn] at e; cases e
  refine ⟨I.ok, I.os, I.bare, ⟨I.base.keep, I.base.slot, fun b o e n hx => ?_, I.base.there, fun b xs e => ?_, fun b o u e => ?_, fun b qs e => ?_⟩, I.loc, I.cell, ?_, fun y c e => ?_, fun p hp => ?_, fun b o e => ?_, I.len⟩
  · rw [upd_ne fun q => new0 o (by rw [← q]; exact e)]
    exact I.base.free b o e n hx
  · have q := I.base.tups b xs e
    exact (upd_ne (ne b _ q)).trans q
  · have q := I.base.frzs b o u e
    exact (upd_ne (ne b _ q)).trans q
  · obtain ⟨m, q⟩ := I.base.tbls b qs e
    exact ⟨m, (upd_ne (ne b _ q)).trans q⟩
  · exact (upd_ne (Ne.symm nL)).trans I.free
  · refine (upd_ne fun q => ?_).trans (I.freeC y c e)
    obtain ⟨v, w⟩ := I.cell y c e
    rw [q] at w
    obtain ⟨o, h1, h2⟩ := w
    have h3 : some oe = some o := ha.symm.trans h1
    cases h3
    exact ncell v h2
  · obtain ⟨e1, e2, e3⟩ := I.pin p (by
      rcases List.mem_append.mp hp with m | m
      · exact List.mem_append_left _ m
      · exact List.mem_append_right _ (List.mem_cons_of_mem _ m))
    exact ⟨e1, (upd_ne (np p hp)).trans e2, e3⟩
  · by_cases hb : b = a
    · rw [hb, upd_same] at e
      cases e
      rw [hb]
      exact ⟨⟨oe, vs, ha, hc, hd, hf⟩, ⟨oe, ha⟩, fun h1 h2 ⟨o1, v1, q1, q2⟩ k => ⟨o1, v1, k _ q1, q2⟩⟩
    · rw [upd_ne hb] at e
      refine (I.hok b o e).stay (fun c w hcc q => q) (fun c q => ?_) fun c xs q => ?_
      · exact (upd_ne (ne c _ q)).trans q
      · exact (upd_ne (ne c _ q)).trans q
end
/-- what the clause wishes: the suite ends, and the error stays -/
def wKeep (K : PySem.W.Frag) (cl : Value) (i : Nat) (ts : Addr → Value → Option Addr → TS) (Wo : WX) (D : Ends) : WX := fun cls d σ H =>
  ∃ b, PySem.W.exmOne K cls cl = some b ∧ (b = false → Wo cls d σ H) ∧
    (b = true → ∃ C dd, cls = .ref C ∧ d = some dd ∧ ∀ a, H a = none → ts a cls d { nx := fun σ1 H1 => D.nx (σ1.set i none) (upd H1 a (exnO C a dd)), rt := fun _ _ => False, bk := fun _ _ => False, ct := fun _ _ => False } (σ.set i (some (.ref a))) H)
section
variable {X : Cx} {x n : Str} {cl : Value} {i : Nat} {body sui : List Stmt} {b0 : Stmt} {np pos pos1 : Pos} {tb : WX → TS} {ts : Addr → Value → Option Addr → TS} {Wo : WX}
theorem ps_try_keep (hex : X.ex = []) (hs : X.stack = X.env :: X.outer) (hf : X.env.frame = some X.env.locals) (hN : X.N.Nodup) (hi : X.N[i]? = some n) (hln : X.env.kindOf n = some .local) (hc : Names X x cl) (tk : Takes X Wo)
    (hb : ∀ (W : WX) (pn : List (Addr × Obj)) (xe : Value → Shared → Prop), Takes (X.tr pn xe) W → PassesOwn (model X.prog X.w) X.A X.env xe → PSs (X.tr pn xe) body (tb W))
    (hsu : ∀ (a : Addr) (oe : Obj) (cls : Value) (d : Option Addr) (pn : List (Addr × Obj)), Zc cls d oe → (∃ vs, oe.data = .fields vs) → PSs (X.suite a ((a, oe) :: pn)) (b0 :: sui) (ts a cls d)) :
    PS X (.Try body [.ExceptHandler (some (.Name x np)) (some n) (b0 :: sui) pos1] [] [] pos) (fun D σ H => tb (wKeep X.K cl i ts Wo D) D σ H) := by
  refine ⟨fun pins s σ H D I hw => ?_⟩
  have okX := I.ok
  have frX : X.A.frames = some (X.env :: X.outer) := by rw [okX.frames, hs]
  have locN : Loc X.env.scope n := .inl hln
  refine wpAny_Try_except ?_
  refine wpAny_mono ((hb (wKeep X.K cl i ts Wo D) (X.pn ++ pins) (fun ev sv => wpAny (model X.prog X.w) X.A (noteFrame ev X.env) (fun _ sw => wpAny (model X.prog X.w) X.A (setFlight ev none) (fun _ sx => wpAny (model X.prog X.w) X.A (handleBy ev X.env [.ExceptHandler (some (.Name x np)) (some n) (b0 :: sui) pos1]) (SP X pins D) X.xe sx) X.xe sw) X.xe sv) (fun u sv xx => ?_) PassesOwn.looking).run [] s σ H D (I.toTry _) hw) (fun fl sv hsp => ?_) (fun ev sv he => he)
  · obtain ⟨a, B, sI, pins', σ1, H1, cls, d, rfl, J0, nb, up, sky, na, hos, hag, b, hb1, hno, hyes⟩ := xx
    have J : Inv X pins σ1 H1 sI := J0.ofTry okX
    have skyX : Sky B (X.env :: X.outer) a (Zc cls d) X.env.locals sv.heap := by rw [← hs]; exact sky
    show wpAny (model X.prog X.w) X.A (noteFrame (.ref a) X.env) _ _ _
    refine Sky.land Zc.steady frX hf skyX fun h3 fl3 up3 => ?_
    have J3 : Inv X pins σ1 H1 { sv with heap := h3 } := J.landed nb fl3.1 (up.trans up3) hos hag
    obtain ⟨oe3, vs3, he3, hz3, hd3⟩ := fl3.there
    have nfr : a ∉ frs (X.env :: X.outer) := fun hm => by
      obtain ⟨_, o2, e2, hnf⟩ := fl3.2.2.1.mem hm
      rw [he3] at e2
      cases e2
      exact hnf _ hd3
    have nL : a ≠ X.env.locals := fun z => nfr (List.mem_filterMap.mpr ⟨X.env, List.mem_cons_self, by rw [hf, z]⟩)
    have nF : a ∉ X.fs := fun hm => by
      obtain ⟨ev, hev, q⟩ := List.mem_filterMap.mp hm
      exact nfr (List.mem_filterMap.mpr ⟨ev, List.mem_cons_of_mem _ hev, q⟩)
    have newI : ∀ o, sI.heap.get? a ≠ some o := fun o e => by
      have q := nb a o e (by rw [hs]; exact nfr)
      rw [fl3.2.1] at q
      cases q
    have S3 := J3.suite he3 hd3 na nL nF
    refine wpAny_handleBy_cons (codeAny_handlers_test ?_) (by intro q; cases q)
    have LT : PySem.W.Looks (model X.prog X.w) h3 (typeOf (.ref a)) cls := fun A Q E s k q => wpAny_typeOf_ref (k _ _ he3) (by rw [hz3.1]; exact q)
    have LM := PySem.W.exm_one (M := model X.prog X.w) (J3.kIn) LT hb1
    have named : ∀ {Q E : Value → Shared → Prop}, Q cl { sv with heap := h3 } → wpAny (model X.prog X.w) (X.A.mark (some (.ref a))) (eval (.Name x np) X.env) Q E { sv with heap := h3 } := fun {Q E} q => by
      obtain ⟨hg, hdbg, hm | ⟨hm, hv, hnn⟩⟩ := hc
      · exact ld_glob (X := X.suite a ((a, oe3) :: (X.pn ++ pins))) S3 hg hm q hdbg
      · exact ld_blt (X := X.suite a ((a, oe3) :: (X.pn ++ pins))) S3 hg hm hv q hnn hdbg
    refine named (LM.here ?_)
    cases b with
    | true =>
      obtain ⟨C, dd, eC, ed, hts⟩ := hyes rfl
      refine codeAny_handlers_suite_as ?_
      refine HandSPX.lands_againZ fl3 fun h4 fl4 up4 => ?_
      have J4 : Inv X pins σ1 H1 { sv with heap := h4 } := J.landed nb fl4.1 ((up.trans up3).trans up4) hos hag
      obtain ⟨oe4, vs4, he4, hz4, hd4⟩ := fl4.there
      have S4 := J4.suite he4 hd4 na nL nF
      refine store_ok (X := X.suite a ((a, oe4) :: (X.pn ++ pins))) (v := .ref a) S4 hN hi locN rfl (fun s5 S5 => ?_) (.inr hln)
      refine wpAny_mono ((hsu a oe4 cls d (X.pn ++ pins) hz4 ⟨_, hd4⟩).run [] s5 _ H1 _ S5 (hts a na)) (fun fl s6 hsp => ?_) (fun _ _ z => False.elim z)
      cases fl with
      | next =>
        obtain ⟨σ6, H6, S6, q6⟩ := hsp
        have T6 : Inv X ((a, oe4) :: pins) σ6 H6 s6 := by
          refine ⟨okX, S6.os, S6.bare, S6.base, S6.loc, S6.cell, S6.free, S6.freeC, fun p hp => S6.pin p ?_, S6.hok, S6.len⟩
          refine List.mem_append_left _ ?_
          rcases List.mem_append.mp hp with m | m
          · exact List.mem_cons_of_mem _ (List.mem_append_left _ m)
          · rcases List.mem_cons.mp m with m | m
            · rw [m]; exact List.mem_cons_self
            · exact List.mem_cons_of_mem _ (List.mem_append_right _ m)
        refine gone_ok T6 hN hi hln fun s7 J7 => ⟨_, _, keep_exn J7 (by rw [← eC]; exact hz4.1) (by rw [← ed]; exact hz4.2) hd4 (fun o e => ?_) (fun p hp z => ?_), q6⟩
        · obtain ⟨o2, q2⟩ := J.base.there a o e (fun m => by rw [hex] at m; cases m)
          exact newI _ q2
        · exact newI _ (by rw [← z]; exact (J.pin p hp).1)
      | brk =>
        obtain ⟨σ6, H6, S6, q6⟩ := hsp
        exact q6.elim
      | cont =>
        obtain ⟨σ6, H6, S6, q6⟩ := hsp
        exact q6.elim
      | ret u =>
        obtain ⟨v6, σ6, H6, S6, r6, q6⟩ := hsp
        exact q6.elim
    | false =>
      show wpAny _ X.A (handleBy (.ref a) X.env []) _ _ _
      refine wpAny_handleBy_nil ?_
      obtain ⟨k1, k2, k3, oeF, vsF, TF, oTF, tsF, heF, hzF, hdF, h1F, hrF⟩ := id fl3
      unfold PySem.passOn
      refine wpAny_bind (wpAny_field heF hdF h1F ?_)
      rw [if_neg (show ¬ ((Value.ref TF == Value.none) = true) from by simp)]
      have goOn : wpAny (model X.prog X.w) X.A (setFlight (.ref a) X.env.frame) (fun _ s4 => wpAny (model X.prog X.w) X.A (throw (.ref a) : Sem Flow) (SP X pins D) X.xe s4) X.xe { sv with heap := h3 } := by
        rw [hf]
        refine HandSPX.setFlight_upZ fl3 fun h4 hh4 up4 => wpAny_throw (tk _ _ ?_)
        exact ⟨a, B, sI, pins, σ1, H1, cls, d, rfl, J, nb, (up.trans up3).trans up4, .inr (.inr (by rw [hs]; exact hh4)), na, hos, hag, hno rfl⟩
      first
      | exact wpAny_bind (wpAny_pure (wpAny_bind goOn))
      | exact wpAny_bind goOn
  · cases fl with
    | next =>
      obtain ⟨σ2, H2, J2, q⟩ := hsp
      exact wpAny_execs_nil ⟨σ2, H2, J2.ofTry okX, q⟩
    | brk =>
      obtain ⟨σ2, H2, J2, q⟩ := hsp
      exact ⟨σ2, H2, J2.ofTry okX, q⟩
    | cont =>
      obtain ⟨σ2, H2, J2, q⟩ := hsp
      exact ⟨σ2, H2, J2.ofTry okX, q⟩
    | ret u =>
      obtain ⟨v, σ2, H2, J2, r, q⟩ := hsp
      exact ⟨v, σ2, H2, J2.ofTry okX, r, q⟩
end
end VL

/-! The value layer, U: errors kept: try .. except X as n: y = n; y.f; isinstance(y, X); y = (n.f, n.g). -/
namespace VL
open PySem PySem.Spec PyProof.Rows L2 LamX
/-- try: body / except X as n: y = n, all errors of the body are caught -/
def gTryK (c i j : Nat) (g : GS) : GS := fun ρ τ => match g ρ τ with
  | .exc c' fs ρ1 τ1 => if c' = c ∧ i < ρ1.length then .nx ((ρ1.set j (some (.d (.exn c fs)))).set i none) τ1 else .bad
  | r => r
/-- try: body / except X as n: y = (n.f, n.g) -/
def gTryT (c i j : Nat) (f1 f2 : T) (g : GS) : GS := fun ρ τ => match g ρ τ with
  | .exc c' fs ρ1 τ1 => match fs.lookup f1, fs.lookup f2 with
    | some d1, some d2 => if c' = c ∧ i < ρ1.length then .nx ((ρ1.set j (some (.d (.tup [d1, d2])))).set i none) τ1 else .bad
    | _, _ => .bad
  | r => r
theorem nt_exn {C a dd : Addr} : notTbl (exnO C a dd) := fun ps e => by unfold exnO at e; cases e
section
variable {X : Cx} {G : Gd} {W : WX} {x n y : Str} {cl : Value} {c i j : Nat} {g : GS} {body : List Stmt} {np pos pos' p1 p2 p3 : Pos}
theorem s_tryK (hex : X.ex = []) (hs : X.stack = X.env :: X.outer) (hf : X.env.frame = some X.env.locals) (hN : X.N.Nodup) (hi : X.N[i]? = some n) (hj : X.N[j]? = some y) (hij : i ≠ j) (hln : X.env.kindOf n = some .local) (hly : X.env.scope.names.lookup y = some .local)
    (hv : Vis X.env.scope n) (hc : Names X x cl) (tk : Takes X W) (te : PySem.W.exmOne X.K (.ref (G.ca c)) cl = some true)
    (hb : ∀ (W : WX) (pn : List (Addr × Obj)) (xe : Value → Shared → Prop), Takes (X.tr pn xe) W → PassesOwn (model X.prog X.w) X.A X.env xe → PSs (X.tr pn xe) body (VS G W g))
    (hdb : (n == ("__debug__" : Str)) = false := by decide) (hcd : (n == ("__classdict__" : Str)) = false := by decide) (hsw : swapsWith (.Name n p1) (some (.Name y p2)) p3.line X.env = pure false := by rfl) :
    PS X (.Try body [.ExceptHandler (some (.Name x np)) (some n) [.Assign [.Name y p2] (.Name n p1) p3] pos'] [] [] pos) (VS G W (gTryK c i j g)) := by
  refine ps_weak (ps_try_keep (tb := fun W' => VS G W' g) (ts := fun a cls d => tAsg (tVar i) (gName j)) (Wo := W) hex hs hf hN hi hln hc tk hb fun a oe cls d pn hz hd => ?_) ?_
  · exact pss_one (ps_set (X := X.suite a ((a, oe) :: pn)) hN hj (.inl hly) (pe_var (X := X.suite a ((a, oe) :: pn)) hi hv hdb hcd) hsw (.inr hly))
  · intro D σ H ⟨z, ρ, τ, hz, cc, en, q⟩
    refine ⟨z, ρ, τ, hz, cc, en, ?_⟩
    unfold gTryK at q
    cases e : g ρ τ with
    | nx ρ' τ' => rw [e] at q; exact q
    | rt u τ' => rw [e] at q; exact q
    | bk ρ' τ' => rw [e] at q; exact q
    | ct ρ' τ' => rw [e] at q; exact q
    | bad => rw [e] at q; exact q
    | exc c' fs ρ1 τ1 =>
      rw [e] at q
      simp only at q
      by_cases h : c' = c ∧ i < ρ1.length
      · rw [if_pos h] at q
        obtain ⟨rfl, hl⟩ := h
        intro z' dd vs σ' ff c1 en' s' r'
        refine ⟨true, te, (fun z => Bool.noConfusion z), fun _ => ⟨_, dd, rfl, rfl, fun a ha => ?_⟩⟩
        have hsl : (σ'.set i (some (.ref a)))[i]? = some (some (V.ref a)) := List.getElem?_set_self (by rw [en'.len]; exact hl)
        refine ⟨_, hsl, ?_⟩
        show D.nx (((σ'.set i (some (V.ref a))).set j (some (V.ref a))).set i none) (upd z'.H a (exnO (G.ca c') a dd))
        rw [List.set_comm _ _ hij, List.set_set]
        have f2 : Fut z' ⟨upd z'.S a (exnO (G.ca c') a dd), upd z'.H a (exnO (G.ca c') a dd), z'.ms⟩ := fut_sh (c1.none_ ha) ha
        have c2 := cells_sh (o := exnO (G.ca c') a dd) c1 ha nt_exn
        refine q _ _ (ff.trans f2) c2 (EnvR.unset (EnvR.set (en'.fut f2) (.d (.exn upd_same (f2.ss _ _ s') (RepF.mono f2.ss _ _ r')))))
      · rw [if_neg h] at q; exact q.elim
theorem s_tryT {f1 f2 : T} {a1 a2 : Str} {pt q1 q2 q3 q4 : Pos} {k : Nat} (e1 : a1 = f1.s) (e2 : a2 = f2.s) (hs : X.stack = X.env :: X.outer) (hf : X.env.frame = some X.env.locals) (hN : X.N.Nodup) (hi : X.N[i]? = some n) (hj : X.N[j]? = some y) (hij : i ≠ j) (hln : X.env.kindOf n = some .local) (hly : X.env.scope.names.lookup y = some .local)
    (hv : Vis X.env.scope n) (hc : Names X x cl) (tk : Takes X W) (te : PySem.W.exmOne X.K (.ref (G.ca c)) cl = some true) (xf : XfC X.K (G.ca c)) (hn1 : PySem.W.findIn X.K (.ref (G.ca c)) a1 = some none) (hn2 : PySem.W.findIn X.K (.ref (G.ca c)) a2 = some none)
    (hb : ∀ (W : WX) (pn : List (Addr × Obj)) (xe : Value → Shared → Prop), Takes (X.tr pn xe) W → PassesOwn (model X.prog X.w) X.A X.env xe → PSs (X.tr pn xe) body (VS G W g))
    (hdb : (n == ("__debug__" : Str)) = false := by decide) (hcd : (n == ("__classdict__" : Str)) = false := by decide)
    (hb1 : attributeBase (.Name n q1) a1 X.env (eval (.Name n q1) X.env) = eval (.Name n q1) X.env := by rfl) (hb2 : attributeBase (.Name n q3) a2 X.env (eval (.Name n q3) X.env) = eval (.Name n q3) X.env := by rfl)
    (hs1 : starEach [.Attribute (.Name n q1) a1 q2, .Attribute (.Name n q3) a2 q4] X.env = (false, eval (.Attribute (.Name n q1) a1 q2) X.env) :: starEach [.Attribute (.Name n q3) a2 q4] X.env := by rfl) (hs2 : starEach [.Attribute (.Name n q3) a2 q4] X.env = (false, eval (.Attribute (.Name n q3) a2 q4) X.env) :: starEach [] X.env := by rfl)
    (hsw : swapsWith (.Tuple [.Attribute (.Name n q1) a1 q2, .Attribute (.Name n q3) a2 q4] k pt) (some (.Name y p2)) p3.line X.env = pure false := by rfl) :
    PS X (.Try body [.ExceptHandler (some (.Name x np)) (some n) [.Assign [.Name y p2] (.Tuple [.Attribute (.Name n q1) a1 q2, .Attribute (.Name n q3) a2 q4] k pt) p3] pos'] [] [] pos) (VS G W (gTryT c i j f1 f2 g)) := by
  refine ps_weak (ps_try_as (tb := fun W' => VS G W' g) (ts := fun a cls d => tAsg (tTup (tCons (tXf a cls d (G.ca c) a1 (tVar i)) (tCons (tXf a cls d (G.ca c) a2 (tVar i)) tNil))) (gName j)) (Wout := W) hs hf hN hi hln hc tk hb fun a oe cls d pn hz hd => ?_) ?_
  · have pv : ∀ q, PE (X.suite a ((a, oe) :: pn)) (.Name n q) (tVar i) := fun q => pe_var (X := X.suite a ((a, oe) :: pn)) hi hv hdb hcd
    exact pss_one (ps_set (X := X.suite a ((a, oe) :: pn)) hN hj (.inl hly) (pe_tup (pa_cons (pe_xf xf hn1 hz hd (pv _) hb1) (pa_cons (pe_xf xf hn2 hz hd (pv _) hb2) pa_nil hs2) hs1)) hsw (.inr hly))
  · intro D σ H ⟨z, ρ, τ, hz, cc, en, q⟩
    refine ⟨z, ρ, τ, hz, cc, en, ?_⟩
    unfold gTryT at q
    cases e : g ρ τ with
    | nx ρ' τ' => rw [e] at q; exact q
    | rt u τ' => rw [e] at q; exact q
    | bk ρ' τ' => rw [e] at q; exact q
    | ct ρ' τ' => rw [e] at q; exact q
    | bad => rw [e] at q; exact q
    | exc c' fs ρ1 τ1 =>
      rw [e] at q
      simp only at q
      cases l1 : fs.lookup f1 with
      | none => rw [l1] at q; exact q.elim
      | some d1 =>
        cases l2 : fs.lookup f2 with
        | none => rw [l1, l2] at q; exact q.elim
        | some d2 =>
          rw [l1, l2] at q
          simp only at q
          by_cases h : c' = c ∧ i < ρ1.length
          · rw [if_pos h] at q
            obtain ⟨rfl, hl⟩ := h
            intro z' dd vs σ' ff c' en' s' r'
            refine ⟨true, te, fun _ a ha => ?_, fun z => Bool.noConfusion z⟩
            have hx : z'.H dd = some (.xd vs) := c'.sub _ _ s'
            obtain ⟨v1, m1, r1⟩ := r'.look l1
            obtain ⟨v2, m2, r2⟩ := r'.look l2
            have hsl : (σ'.set i (some (.ref a)))[i]? = some (some (V.ref a)) := List.getElem?_set_self (by rw [en'.len]; exact hl)
            rw [← e1] at m1
            rw [← e2] at m2
            refine ⟨_, hsl, rfl, rfl, dd, vs, v1, rfl, hx, m1, _, hsl, rfl, rfl, dd, vs, v2, rfl, hx, m2, ?_⟩
            refine ⟨by show 2 ≤ sizeLine; decide, fun p hp => ?_⟩
            show D.nx (((σ'.set i (some (V.ref a))).set j (some (V.ref p))).set i none) _
            rw [List.set_comm _ _ hij, List.set_set]
            have f2 : Fut z' ⟨upd z'.S p (.tup [v1, v2]), upd z'.H p (.tup [v1, v2]), z'.ms⟩ := fut_sh (c'.none_ hp) hp
            have c2 := cells_sh (o := .tup [v1, v2]) c' hp
            exact q _ _ (ff.trans f2) c2 (EnvR.unset (EnvR.set (en'.fut f2) (.d (.tup (SqT.of upd_same) (.cons (Rep.mono f2.ss _ _ r1) (.cons (Rep.mono f2.ss _ _ r2) .nil))))))
          · rw [if_neg h] at q; exact q.elim
end
/-! ### y.f and isinstance(y, X), y an error kept -/
def gExF (c : Nat) (f : T) (u : U) (τ : Store) : R U := match u with
  | .d (.exn c' fs) => if c' = c then match fs.lookup f with
    | some x => .ok (.d x) τ
    | none => .bad
    else .bad
  | _ => .bad
def eExF (c : Nat) (f : T) (fo : EV) : EV := fun ρ τ => (fo ρ τ).bind (gExF c f)
section
variable {X : Cx} {G : Gd} {W : WX} {e : Expr} {fo : EV} {pos p p2 : Pos} {c : Nat} {f y : Str} {ft : T}
def tExF (te : TE) (C : Addr) (f : Str) : TE := fun σ H Q => te σ H fun x H1 => ∃ a dd ps v, x = .ref a ∧ H1 a = some (exnO C a dd) ∧ H1 dd = some (.xd ps) ∧ ps.lookup f = some v ∧ Q v H1
theorem pe_exF {C : Addr} {te : TE} (T : XfC X.K C) (hno : PySem.W.findIn X.K (.ref C) f = some none) (he : PE X e te) (hb : attributeBase e f X.env (eval e X.env) = eval e X.env := by rfl) : PE X (.Attribute e f pos) (tExF te C f) := by
  refine ⟨fun pins s σ H Q I h => ?_⟩
  refine attr_of hb (thn (he.run pins s σ H _ I h) fun u s1 hh => ?_)
  obtain ⟨x, H1, I1, rx, a, dd, ps, v, ex, ha, hd, l, q⟩ := hh
  subst ex
  obtain rfl : u = Value.ref a := rx
  obtain ⟨⟨oe, vs, g1, g2, g3, g4⟩, _⟩ := I1.hok a _ ha
  obtain ⟨mA, hns, hr⟩ := I1.hok dd _ hd
  obtain ⟨od, ho, hl⟩ := lookIn_ns hns
  obtain ⟨w, hu, ru⟩ := RelO.some_of (v := v) (o := mA f) (by rw [← l]; exact hr f)
  have J : PySem.W.InstAt s1.heap a oe C (some od) := ⟨g1, g2, by unfold PySem.W.notCls; rw [g4] <;> rfl, by rw [g3]; exact ho⟩
  exact HandSPX.exc_get I1.kIn J T.ga T.gg T.exC (PySem.W.findObj_own T.hdC hno rfl (by rw [hl, hu])) (handed_of ru) ⟨v, H1, I1.tok _, ru, q⟩
theorem v_exF (hK : X.K = G.K) (T : XfC G.K (G.ca c)) (hno : PySem.W.findIn G.K (.ref (G.ca c)) f = some none) (hf : f = ft.s) (he : PE X e (VE G W fo)) (hb : attributeBase e f X.env (eval e X.env) = eval e X.env := by rfl) : PE X (.Attribute e f pos) (VE G W (eExF c ft fo)) :=
  ve_step1 (pe_exF (by rw [hK]; exact T) (by rw [hK]; exact hno) he hb) (r := fun x H Q => ∃ a dd ps v, x = .ref a ∧ H a = some (exnO (G.ca c) a dd) ∧ H dd = some (.xd ps) ∧ ps.lookup f = some v ∧ Q v H) (fun _ _ _ h => h) fun z u τ v W Q cc r q => by
    match u, r, q with
    | .d (.exn c' fs), .d (.exn (a := a) (dd := dd) (ps := ps) h1 h2 h3), w0 =>
      unfold gExF at w0
      by_cases h : c' = c
      · simp only at w0
        rw [if_pos h] at w0
        subst h
        cases e2 : fs.lookup ft with
        | none => rw [e2] at w0; exact w0.elim
        | some x =>
          rw [e2] at w0
          obtain ⟨v, h4, h5⟩ := h3.look e2
          exact ⟨a, dd, ps, v, rfl, cc.sub _ _ h1, cc.sub _ _ h2, by rw [hf]; exact h4, Run.ok (rep := RepU G) w0 cc (.d h5)⟩
      · simp only at w0
        rw [if_neg h] at w0; exact w0.elim
def gIsX (c : Nat) (u : U) (τ : Store) : R U := match u with
  | .d (.exn c' _) => if c' = c then .ok (.d (.bl true)) τ else .bad
  | _ => .bad
def eIsX (c : Nat) (f : EV) : EV := fun ρ τ => (f ρ τ).bind (gIsX c)
/-- what isinstance asks of an own class of errors -/
structure InsX (K : PySem.W.Frag) (C : Addr) : Prop where
  xf : XfC K C
  ha : PySem.W.findIn K (.ref C) "__class__" = some (some (.builtin "object.__class__"))
  hn : PySem.W.specialIn K (.builtin "object.__class__") "__get__" = some (some (.builtin "getset_descriptor.__get__"))
  htk : PySem.W.takesIn K (.builtin "object.__class__") = some true
  hm : PySem.W.mroIn K C (.type "object") = some true
  cl : (PySem.W.clsIn K C).isSome = true
  me : PySem.W.kitOne K (.ref C) (.ref C) = some true
theorem call_isX {C : Addr} (c : InsX X.K C) : CallR X (.builtin "isinstance") (fun xs H Q => ∃ a dd ps, xs = [.ref a, .ref C] ∧ H a = some (exnO C a dd) ∧ H dd = some (.xd ps) ∧ Q (.bl true) H) := by
  intro pins s σ H xs us Q I r h
  obtain ⟨a, dd, ps, rfl, ha, hd, q⟩ := h
  obtain ⟨u, w', rfl, ru, rw'⟩ := vals2 r
  cases rw'
  obtain rfl : u = Value.ref a := ru
  obtain ⟨⟨oe, vs, g1, g2, g3, g4⟩, _⟩ := I.hok a _ ha
  obtain ⟨mA, hns, hr⟩ := I.hok dd _ hd
  obtain ⟨od, ho, hl⟩ := lookIn_ns hns
  have J : PySem.W.InstAt s.heap a oe C (some od) := ⟨g1, g2, by unfold PySem.W.notCls; rw [g4] <;> rfl, by rw [g3]; exact ho⟩
  exact PySem.W.kia_one (PySem.W.kitx_exc c.cl c.xf.ga c.xf.gg c.xf.exC c.ha c.hn c.htk c.hm) I.kIn J c.me (fun z => nomatch z) fun tk => ⟨.bl true, H, I.kept (t' := tk) fun _ _ z => z, rfl, q⟩
theorem v_isX (hK : X.K = G.K) (C : InsX X.K (G.ca c)) (hg : Gl X "isinstance") (hm : X.mg "isinstance" = none) (hg2 : Gl X y) (hm2 : X.mg y = some (.ref (G.ca c))) (he : PE X e (VE G W fo)) (hdb : (y == ("__debug__" : Str)) = false := by decide)
    (h1 : starEach [e, .Name y p2] X.env = (false, eval e X.env) :: starEach [.Name y p2] X.env := by rfl) (h2 : starEach [.Name y p2] X.env = (false, eval (.Name y p2) X.env) :: starEach [] X.env := by rfl) (hpl : (backTo pos (starEach [.Name y p2] X.env)).any (·.1) = false := by rfl) :
    PE X (.Call (.Name "isinstance" p) [e, .Name y p2] [] pos) (VE G W (eIsX c fo)) := by
  have hy2 : PE X (.Name y p2) (tC (.ref (G.ca c))) := pe_glob hg2 hm2 rfl hdb
  refine pe_weak (pe_callB (call_isX C) hg hm rfl (pa_cons he (pa_cons hy2 pa_nil h2) h1) (by decide) (by decide) h1 hpl) fun σ H Q ⟨z, ρ, τ, hz, cc, en, q⟩ => ⟨z, ρ, τ, hz, cc, en, (Run.bind q).imp fun v H1 ⟨z1, u, τ1, e1, f1, c1, r1, q1⟩ => ?_⟩
  subst e1
  match u, r1, q1 with
  | .d (.exn c' fs), .d (.exn (a := a) (dd := dd) (ps := ps) h3 h4 h5), w0 =>
    unfold gIsX at w0
    by_cases h : c' = c
    · simp only at w0
      rw [if_pos h] at w0
      subst h
      exact ⟨a, dd, ps, rfl, c1.sub _ _ h3, c1.sub _ _ h4, Run.ok (rep := RepU G) w0 c1 (.d (.bl _))⟩
    · simp only at w0
      rw [if_neg h] at w0
      exact w0.elim
/-! ### isinstance(x, T), x an instance too -/
def eIsiI (T : String) (c : Nat) (f : EV) : EV := fun ρ τ => (f ρ τ).bind fun u τ1 => match vw τ1 u with
  | some (.ins c' fs) => if c' = c then .ok (.d (.bl false)) τ1 else .bad
  | some d => match d.ty with
    | some a => .ok (.d (.bl (isTy a T))) τ1
    | none => .bad
  | none => .bad
theorem v_isiI {T : String} (hT : KitT T) (hK : X.K = G.K) (C : C8.InsC G.K (G.ca c)) (no : PySem.W.kitOne G.K (.ref (G.ca c)) (.type T) = some false) (hg : Gl X "isinstance") (hm : X.mg "isinstance" = none) (hg2 : Gl X y) (hm2 : X.mg y = none) (hy : bootBuiltins y = some (.type T)) (he : PE X e (VE G W fo)) (hn : y ≠ "__name__" := by decide) (hdb : (y == ("__debug__" : Str)) = false := by decide)
    (h1 : starEach (e :: [.Name y p2]) X.env = (false, eval e X.env) :: starEach [.Name y p2] X.env := by rfl) (hpl : (backTo pos (starEach [.Name y p2] X.env)).any (·.1) = false := by rfl) (h2 : starEach [.Name y p2] X.env = (false, eval (.Name y p2) X.env) :: starEach [] X.env := by rfl) :
    PE X (.Call (.Name "isinstance" p) [e, .Name y p2] [] pos) (VE G W (eIsiI T c fo)) := by
  have hy2 : PE X (.Name y p2) (tC (.ty T)) := pe_bty hg2 hm2 hy hn hdb
  refine pe_weak (pe_callB (r := rIsiY X.K) call_isiY hg hm rfl (pa_cons he (pa_cons hy2 pa_nil h2) h1) (by decide) (by decide) h1 hpl) fun σ H Q ⟨z, ρ, τ, hz, cc, en, q⟩ => ⟨z, ρ, τ, hz, cc, en, (Run.bind q).imp fun v H1 ⟨z1, u, τ1, e1, f1, c1, r1, q1⟩ => ?_⟩
  subst e1
  have gen : ∀ (d : D) (a : String), vw τ1 u = some d → d.ty = some a → Run G (RepU G) (.ok (.d (.bl (isTy a T))) τ1) (fun c d H' => W c d σ H') z1 Q → rIsiY X.K [v, .ty T] z1.H Q := fun d a e2 e3 q2 => by
    obtain ⟨t1, t2⟩ := ty_v c1 (vw_rep c1 r1 e2) e3
    exact ⟨v, .ty T, _, _, isTy a T, rfl, .ty T, hK ▸ t1, kit_ty (hT a t2), Run.ok (rep := RepU G) q2 c1 (.d (.bl _))⟩
  cases e2 : vw τ1 u with
  | none => rw [e2] at q1; exact q1.elim
  | some d =>
    rw [e2] at q1
    cases d with
    | ins c' fs =>
      simp only at q1
      by_cases h : c' = c
      · rw [if_pos h] at q1
        subst h
        obtain ⟨a, dx, ps, rfl, h3, h4⟩ := (vw_rep c1 r1 e2).ins_ c1
        exact ⟨_, .ty T, _, _, false, rfl, .ty T, hK ▸ .x (.base (.ins h3 C.cl C.ha C.hn C.htk C.hm)), hK ▸ no, Run.ok (rep := RepU G) q1 c1 (.d (.bl _))⟩
      · rw [if_neg h] at q1; exact q1.elim
    | dcu _ => exact q1.elim
    | dcx _ _ => exact gen _ _ e2 rfl q1
    | cls _ => exact q1.elim
    | exn _ _ => exact q1.elim
    | non => exact gen _ _ e2 rfl q1
    | bl _ => exact gen _ _ e2 rfl q1
    | int _ => exact gen _ _ e2 rfl q1
    | str _ => exact gen _ _ e2 rfl q1
    | tup _ => exact gen _ _ e2 rfl q1
    | tpl _ => exact gen _ _ e2 rfl q1
    | lst _ => exact gen _ _ e2 rfl q1
    | fl _ => exact gen _ _ e2 rfl q1
    | dct _ => exact gen _ _ e2 rfl q1
end
end VL

/-! The value layer, V: min, unpacked lists, [*a, b], o[i], o[j] = x, y, o.pop(i), text * int. -/
namespace VL
open PySem PySem.Spec PyProof.Rows L2 LamX
section
variable {X : Cx} {G : Gd} {W : WX}
def fMin : D → D → Store → R U
  | .int i, .int j, τ => .ok (.d (.int (if j < i then j else i))) τ
  | _, _, _ => .bad
theorem c_min : CallS G (c2 fMin) (fun xs H Q => ∃ i j, xs = [.int i, .int j] ∧ Q (.int (if j < i then j else i)) H) := c2_s fun z d e τ v w W Q c r1 r2 q => by
  match d, e, r1, r2, q with
  | .int i, .int j, r1, r2, q =>
    rw [r1.int_, r2.int_]
    exact ⟨i, j, rfl, Run.ok (rep := RepU G) q c (.d (.int _))⟩
/-- a list's items to names -/
def tLstN (is : List Nat) : TGv := fun x ρ => match x with
  | .lst ds => tNames is ds ρ
  | _ => none
theorem tg_lst {g : TGs} {is : List Nat} (h : TgsS G g is) {n : Nat} (hn : n = is.length) : TgS G (L2.gLst G.K n g) (tLstN is) is := fun z τ x v ρ ρ' σ Q c r en e k => by
  cases x with
  | lst ds =>
    cases r with
    | lst h1 h2 =>
      have e : tNames is ds ρ = some ρ' := e
      exact ⟨_, _, rfl, SqL.of (c.sub _ _ h1), by rw [← h2.length, tNames_len e, hn], h z τ ds _ ρ ρ' σ Q c h2 en e k⟩
  | _ => cases e
/-- *e at the head of a display -/
def elStar (fa : EV) (fr : EL) : EL := fun ρ τ => (fa ρ τ).bind fun u τ1 => match u with
  | .d (.lst ds) => (fr ρ τ1).bind fun us τ2 => .ok (ds.map U.d ++ us) τ2
  | _ => .bad
theorem repUs_map {z : Z} : ∀ {ds : List D} {vs : List V}, Reps G z.S ds vs → RepUs G z (ds.map U.d) vs
  | [], _, h => by cases h; exact .nil
  | d :: ds, _, h => by
    cases h with
    | cons a b => exact .cons (.d a) (repUs_map b)
theorem va_star {e : Expr} {es : List Expr} {fa : EV} {fr : EL} {p : Pos} (hK : X.K = G.K) (ha : PE X e (VE G W fa)) (hr : PA X es (VA G W fr)) (hs : starEach (.Starred e p :: es) X.env = (true, eval e X.env) :: starEach es X.env := by rfl) : PA X (.Starred e p :: es) (VA G W (elStar fa fr)) := by
  refine pa_weak (StX.pa_star ha hr hs) fun σ H Q ⟨z, ρ, τ, hz, c, en, q⟩ => ⟨z, ρ, τ, hz, c, en, (Run.bind q).imp fun v H1 ⟨z1, u, τ1, e1, f1, c1, r1, q1⟩ => ?_⟩
  subst e1
  match u, r1, q1 with
  | .d (.lst ds), .d (.lst (a := a) (vs := vs) h1 h2), q1 =>
    refine ⟨a, vs, rfl, .inr (SqL.of (c1.sub _ _ h1)), z1, ρ, τ1, rfl, c1, en.fut f1, (Run.bind q1).imp fun ws H2 ⟨z2, us, τ2, e2, f2, c2, r2, q2⟩ => ?_⟩
    subst e2
    exact Run.ok (rep := RepUs G) q2 c2 ((repUs_map (h2.mono f2.ss _ _)).append r2)
/-! ### o[i], o[j] = x, y -/
theorem RunS.seqF {D' : Ends} {z : Z} {r : RS} {g : GS} (h : RunS G (r.seq g) W D' z) : RunS G r W { D' with nx := fun σ' H' => ∃ z1 ρ1 τ1, z1.H = H' ∧ Fut z z1 ∧ Cells G z1 τ1 ∧ EnvR G z1 ρ1 σ' ∧ RunS G (g ρ1 τ1) W D' z1 } z := by
  cases r with
  | nx ρ τ => exact fun z' σ' f c en => ⟨z', ρ, τ, rfl, f, c, en, RunS.pre (r := g ρ τ) h f⟩
  | rt u τ => exact h
  | bk ρ τ => exact h
  | ct ρ τ => exact h
  | exc c fs ρ τ => exact h
  | bad => exact h
theorem RunS.nxw {D' : Ends} {z : Z} {r : RS} {Qn : L2.St → Hp → Prop} (h : RunS G r W D' z) (w : ∀ σ' H', D'.nx σ' H' → Qn σ' H') : RunS G r W { D' with nx := Qn } z := by
  cases r with
  | nx ρ τ => exact fun z' σ' f c en => w _ _ (h z' σ' f c en)
  | rt u τ => exact h
  | bk ρ τ => exact h
  | ct ρ τ => exact h
  | exc c fs ρ τ => exact h
  | bad => exact h
section
variable {o i : Expr} {fo fi : EV} {pos p2 : Pos}
theorem sub_read {z : Z} {ρ : Env} {τ : Store} {σ : L2.St} {x : D} {v : V} {D' : Ends} {Qn : L2.St → Hp → Prop} (c : Cells G z τ) (en : EnvR G z ρ σ) (rx : Rep G z.S x v)
    (q : RunS G (liftE (fo ρ τ) ρ fun o τ3 => liftE (fi ρ τ3) ρ fun i τ4 => setAt x o i ρ τ4) W { D' with nx := Qn } z) : gSub (VE G W fo) (VE G W fi) rSetL v σ z.H Qn := by
  refine ⟨z, ρ, τ, rfl, c, en, (RunS.lift (rep := RepU G) en q).imp fun vo H3 ⟨z3, uo, τ3, e3, f3, c3, r3, q3⟩ => ?_⟩
  subst e3
  have en3 := en.fut f3
  refine ⟨z3, ρ, τ3, rfl, c3, en3, (RunS.lift (rep := RepU G) en3 q3).imp fun vi H4 ⟨z4, ui, τ4, e4, f4, c4, r4, q4⟩ => ?_⟩
  subst e4
  have r3 := r3.fut f4
  have en4 := en3.fut f4
  match uo, ui, r3, r4, q4 with
  | .loc n, .d (.int k), .loc hm, .d hk, q4 =>
    rename_i a
    cases hk
    simp only [setAt] at q4
    cases e5 : τ4[n]? with
    | none => rw [e5] at q4; exact q4.elim
    | some cl =>
      rw [e5] at q4
      cases cl with
      | lst ds =>
        simp only at q4
        cases e6 : ixN ds.length k with
        | none => rw [e6] at q4; exact q4.elim
        | some j =>
          rw [e6] at q4
          obtain ⟨s5, ws, t5, t6⟩ := c4.at_ n _ _ hm e5
          have rx4 := Rep.mono (f3.trans f4).ss _ _ rx
          refine ⟨_, ws, k, j, rfl, rfl, t5, by rw [← t6.length]; exact e6, ?_⟩
          have ff := fut_set (o' := .lst (ws.set j v)) t5 (List.mem_of_getElem? hm) trivial
          exact q4 _ σ ff (cells_set c4 hm t5 s5 trivial ⟨s5, _, upd_same, t6.set rx4 j⟩) (en4.fut ff)
      | _ => exact q4.elim
def gSet2 (fo1 fi1 fo2 fi2 : EV) (fs : EL) : GS := fun ρ τ => liftE (fs ρ τ) ρ fun us τ1 => match frzs τ1 us with
  | some ([x, y], τ2) => (liftE (fo1 ρ τ2) ρ fun o τ3 => liftE (fi1 ρ τ3) ρ fun i τ4 => setAt x o i ρ τ4).seq fun ρ2 τ5 => liftE (fo2 ρ2 τ5) ρ2 fun o2 τ6 => liftE (fi2 ρ2 τ6) ρ2 fun i2 τ7 => setAt y o2 i2 ρ2 τ7
  | _ => .bad
theorem s_set2 {o1 i1 o2 i2 : Expr} {es : List Expr} {fo1 fi1 fo2 fi2 : EV} {fs : EL} {q1 q2 pt pt2 : Pos} {kt k2 : Nat} (hc : X.calm = true) (hK : X.K = G.K) (ha : PA X es (VA G W fs)) (ho1 : PE X o1 (VE G W fo1)) (hi1 : PE X i1 (VE G W fi1)) (ho2 : PE X o2 (VE G W fo2)) (hi2 : PE X i2 (VE G W fi2))
    (hn : (assignEach [.Subscript o1 i1 q1, .Subscript o2 i2 q2] X.env).length = 2 := by rfl) (hst : (assignEach [.Subscript o1 i1 q1, .Subscript o2 i2 q2] X.env).findIdx? (·.1) = none := by rfl)
    (hs : swapsWithSole [.Tuple [.Subscript o1 i1 q1, .Subscript o2 i2 q2] kt pt] (.Tuple es k2 pt2) pos.line X.env = pure false := by rfl) (hw : swappedStores [.Tuple [.Subscript o1 i1 q1, .Subscript o2 i2 q2] kt pt] (.Tuple es k2 pt2) X.env = pure none := by rfl)
    (h1 : (assignEach [.Tuple [.Subscript o1 i1 q1, .Subscript o2 i2 q2] kt pt] X.env).map (·.2) = [assign (.Tuple [.Subscript o1 i1 q1, .Subscript o2 i2 q2] kt pt) X.env] := by rfl)
    (hc1 : (assignEach [.Subscript o1 i1 q1, .Subscript o2 i2 q2] X.env).map (·.2) = assign (.Subscript o1 i1 q1) X.env :: (assignEach [.Subscript o2 i2 q2] X.env).map (·.2) := by rfl) (hc2 : (assignEach [.Subscript o2 i2 q2] X.env).map (·.2) = assign (.Subscript o2 i2 q2) X.env :: (assignEach [] X.env).map (·.2) := by rfl)
    (a1 : ∀ v, assign (.Subscript o1 i1 q1) X.env v = (do
      let ov ← holding [v] (eval o1 X.env)
      let iv ← holding [v, ov] (eval i1 X.env)
      standAt q1
      holding [v, ov, iv] (setItem ov iv v)
      release [v, ov, iv] []) := by intro _; rfl) (a2 : ∀ v, assign (.Subscript o2 i2 q2) X.env v = (do
      let ov ← holding [v] (eval o2 X.env)
      let iv ← holding [v, ov] (eval i2 X.env)
      standAt q2
      holding [v, ov, iv] (setItem ov iv v)
      release [v, ov, iv] []) := by intro _; rfl) :
    PS X (.Assign [.Tuple [.Subscript o1 i1 q1, .Subscript o2 i2 q2] kt pt] (.Tuple es k2 pt2) pos) (VS G W (gSet2 fo1 fi1 fo2 fi2 fs)) :=
  ps_weak (ps_asg (pe_tup ha) (pg_tup hc (pgs_cons (pg_sub ho1 hi1 set_list a1) (pgs_cons (pg_sub ho2 hi2 set_list a2) pgs_nil hc2) hc1) hn hst) hs hw h1) fun D' σ H ⟨z, ρ, τ, hz, c, en, q⟩ => ⟨z, ρ, τ, hz, c, en, (RunS.lift (rep := RepUs G) en q).imp fun vs H1 ⟨z1, us, τ1, e1, f1, c1, r1, q1⟩ => by
    subst e1
    cases e2 : frzs τ1 us with
    | none => rw [e2] at q1; exact q1.elim
    | some pr =>
      obtain ⟨xs, τ2⟩ := pr
      rw [e2] at q1
      obtain ⟨z2, h2, f2, c2, rs, m2⟩ := frzs_ok c1 r1 e2
      match xs, rs, q1 with
      | [], _, q1 => exact q1.elim
      | [_], _, q1 => exact q1.elim
      | _ :: _ :: _ :: _, _, q1 => exact q1.elim
      | [x, y], .cons (v := v) rx (.cons (v := w) ry .nil), q1 =>
        refine ⟨by show 2 ≤ sizeLine; decide, fun p hp => ?_⟩
        rw [← h2] at hp ⊢
        have ff : Fut z2 ⟨upd z2.S p (.tup [v, w]), upd z2.H p (.tup [v, w]), z2.ms⟩ := fut_sh (c2.none_ hp) hp
        have c3 := cells_sh (o := .tup [v, w]) c2 hp
        have en3 := en.fut ((f1.trans f2).trans ff)
        refine ⟨p, [v, w], rfl, SqT.of upd_same, rfl, v, [w], rfl, ?_⟩
        have q2 := RunS.seqF (RunS.pre q1 (f2.trans ff))
        refine sub_read (D' := D') c3 en3 (Rep.mono ff.ss _ _ rx) ?_
        have q3 := @RunS.nxw G W _ _ _ (fun σ' H' => gCons (gSub (VE G W fo2) (VE G W fi2) rSetL) L2.gNil [w] σ' H' D'.nx) q2 (fun σ4 H4 h => ?_)
        · exact q3
        obtain ⟨z5, ρ5, τ5, e5, f5, c5, en5, q5⟩ := h
        subst e5
        refine ⟨w, [], rfl, ?_⟩
        have := sub_read (D' := D') (Qn := fun σ' H' => [] = ([] : List V) ∧ D'.nx σ' H') c5 en5 (Rep.mono (ff.trans f5).ss _ _ ry) (RunS.nxw q5 fun σ' H' h => ⟨rfl, h⟩)
        exact this⟩
end
/-! ### o.pop(i) -/
def gPopA (u w : U) (τ : Store) : R U := match u, w with
  | .loc n, .d (.int k) => match τ[n]? with
    | some (.lst ds) => match ixN ds.length k with
      | some j => match ds[j]? with
        | some x => if ds.length ≤ sizeLine then .ok (.d x) (τ.set n (.lst (ds.eraseIdx j))) else .bad
        | none => .bad
      | none => .bad
    | _ => .bad
  | _, _ => .bad
def ePopA (fo fi : EV) : EV := fun ρ τ => (fo ρ τ).bind fun u τ1 => match u with
  | .loc n => match τ1[n]? with
    | some (.lst _) => (fi ρ τ1).bind fun w τ2 => gPopA u w τ2
    | _ => .bad
  | _ => .bad
theorem v_popA {o e : Expr} {fo fi : EV} {apos cpos : Pos} (hK : X.K = G.K) (ho : PE X o (VE G W fo)) (he : PE X e (VE G W fi)) (hbase : attributeBase o "pop" X.env (eval o X.env) = eval o X.env := by rfl)
    (hfew : ((backTo cpos (starEach [e] X.env)).all (fun x => !x.1) && (backToKw cpos (keywordEach [] X.env)).all (fun x => x.1.isSome)
      && decide ([e].length + ([] : List Keyword).length + (if ([] : List Keyword).isEmpty then 0 else 1) < 30)) = true := by rfl)
    (hline : (apos.endLine == cpos.line) = true := by rfl) (h1 : starEach [e] X.env = (false, eval e X.env) :: starEach [] X.env := by rfl) (hpl : (backTo cpos (starEach [] X.env)).any (·.1) = false := by rfl) :
    PE X (.Call (.Attribute o "pop" apos) [e] [] cpos) (VE G W (ePopA fo fi)) := by
  have hm : MtR X "list.pop" rPopAt := fun pins s σ H x xs v us Q I rx rs h => mt_popAt pins s σ H x xs v us Q I rx rs h
  refine pe_weak (pe_bm F.plainAttrs_list F.slot_list_pop F.type_list_pop hm ho (va_cons he va_nil h1) hbase hfew hline h1 hpl) fun σ H Q ⟨z, ρ, τ, hz, c, en, q⟩ => ⟨z, ρ, τ, hz, c, en, (Run.bind q).imp fun v H1 ⟨z1, u, τ1, e1, f1, c1, r1, q1⟩ => ?_⟩
  subst e1
  cases u with
  | d x => exact q1.elim
  | fn => exact q1.elim
  | loc n =>
    cases r1 with
    | @loc _ a hm1 =>
      simp only at q1
      cases e2 : τ1[n]? with
      | none => rw [e2] at q1; exact q1.elim
      | some cl =>
        rw [e2] at q1
        cases cl with
        | lst ds0 =>
          obtain ⟨s0, vs0, t1, t2⟩ := c1.at_ n a _ hm1 e2
          refine ⟨.inl ⟨rfl, vs0, SqL.of t1⟩, z1, ρ, τ1, rfl, c1, en.fut f1, ?_⟩
          have qb := Run.bind (rep := RepU G) q1
          have q2 : Run G (RepUs G) ((elCons fi elNil) ρ τ1) (fun c d H' => W c d σ H') z1 (fun vs H2 => ∃ z2 w τ2 y, vs = [y] ∧ z2.H = H2 ∧ Fut z1 z2 ∧ Cells G z2 τ2 ∧ RepU G z2 w y ∧ Run G (RepU G) (gPopA (.loc n) w τ2) (fun c d H' => W c d σ H') z2 Q) := by
            unfold elCons elNil
            cases ef : fi ρ τ1 with
            | bad => rw [ef] at qb; exact qb.elim
            | exc c' fs' τ' => rw [ef] at qb; exact qb
            | ok w τ' =>
              rw [ef] at qb
              intro z' vs f' c' rs
              cases rs with
              | @cons _ y _ _ ry rn =>
                cases rn
                obtain ⟨z2, w2, τ2, e3, f2, c2, r2, q3⟩ := qb z' y f' c' ry
                rw [ef] at q1
                exact ⟨z', w, τ', y, rfl, rfl, f', c', ry, Run.pre q1 f'⟩
          refine q2.imp fun vs H2 ⟨z2, w, τ2, y, ev, e3, f2, c2, r2, q3⟩ => ?_
          subst ev
          subst e3
          unfold gPopA at q3
          match w, r2, q3 with
          | .loc _, _, q3 => exact q3.elim
          | .d (.int k), .d rk, q3 =>
            cases rk
            simp only at q3
            cases e5 : τ2[n]? with
            | none => rw [e5] at q3; exact q3.elim
            | some cl =>
              rw [e5] at q3
              cases cl with
              | lst ds =>
                simp only at q3
                cases e6 : ixN ds.length k with
                | none => rw [e6] at q3; exact q3.elim
                | some j =>
                  rw [e6] at q3
                  simp only at q3
                  cases e7 : ds[j]? with
                  | none => rw [e7] at q3; exact q3.elim
                  | some x =>
                    rw [e7] at q3
                    simp only at q3
                    by_cases hl : ds.length ≤ sizeLine
                    · rw [if_pos hl] at q3
                      have hm2 : z2.ms[n]? = some a := pre_get f2.pre hm1
                      obtain ⟨s5, ws, t5, t6⟩ := c2.at_ n a _ hm2 e5
                      obtain ⟨y, y1, y2⟩ := t6.get e7
                      obtain ⟨b1, b2, b3, b4⟩ := ixN_seq e6
                      rw [sizeLine_eq] at hl
                      refine ⟨a, ws, k, j, y, rfl, rfl, t5, by omega, by omega, by rw [← t6.length]; exact b1, y1, ?_⟩
                      have ff := fut_set (o' := .lst (ws.eraseIdx j)) t5 (List.mem_of_getElem? hm2) trivial
                      exact Run.ok (rep := RepU G) (Run.pre q3 ff) (cells_set c2 hm2 t5 s5 trivial ⟨s5, _, upd_same, t6.eraseIdx j⟩) (.d (Rep.mono ff.ss _ _ y2))
                    · rw [if_neg hl] at q3; exact q3.elim
              | _ => exact q3.elim
        | _ => exact q1.elim
/-! ### text * int -/
def oRepT : D → D → Store → R U
  | .str t, .int k, τ => if 2 ≤ k ∧ k ≤ 1000 ∧ 1 ≤ t.length ∧ t.length ≤ 1000 then .ok (.d (.str (List.replicate k.toNat t).flatten)) τ else .bad
  | _, _, _ => .bad
def rMulS : R2 := fun x y H Q => ∃ (i : Str) (k : Int), x = .str i ∧ y = .int k ∧ 2 ≤ k ∧ k ≤ 1000 ∧ 1 ≤ i.length ∧ i.length ≤ 1000 ∧ Q (.str ⟨(List.replicate k.toNat i.cps).foldl (· ++ ·) #[]⟩) H
theorem op_mulS : OpR X (binaryOp .Mult) rMulS := by
  intro pins s σ H x y v u Q I rx ry h
  obtain ⟨i, k, rfl, rfl, h1, h2, h3, h4, q⟩ := h
  obtain ⟨t, rfl⟩ : ∃ t, v = Value.str i t := rx
  obtain ⟨t2, rfl⟩ := ry
  have hm : i.length * k.toNat ≤ 1000 * 1000 := Nat.mul_le_mul h4 (by omega)
  have hT : Builtin.Str.tooLong (i.length * k.toNat) = false := by
    unfold Builtin.Str.tooLong
    have := sizeLine_eq
    first
    | (apply decide_eq_false; omega)
    | (simp; omega)
  refine PySem.P.mul_str ?_ (fun _ _ => ?_) (fun _ _ => hT) ?_
  · rw [decide_eq_false (by omega), decide_eq_false (by omega)]; rfl
  · have : (2 ^ 63 - 1) / 1000 ≤ (2 ^ 63 - 1) / k := by
      first
      | exact Int.ediv_le_ediv_left (by omega) (by omega) (by omega)
      | (apply Int.le_ediv_of_mul_le (by omega)
         omega)
    omega
  · rw [if_neg (by omega), if_neg (by simp; omega)]
    refine ⟨fits_reps hT, .str _, H, I.tok _, ⟨_, rfl⟩, q⟩
theorem s_repT : OpS G oRepT rMulS := by
  intro z a b τ x y W Q c ra rb q
  match a, b, ra, rb, q with
  | .str t, .int k, ra, rb, q =>
    rw [ra.str_, rb.int_]
    have q : Run G (RepU G) (if 2 ≤ k ∧ k ≤ 1000 ∧ 1 ≤ t.length ∧ t.length ≤ 1000 then .ok (.d (.str (List.replicate k.toNat t).flatten)) τ else .bad) W z Q := q
    by_cases h : 2 ≤ k ∧ k ≤ 1000 ∧ 1 ≤ t.length ∧ t.length ≤ 1000
    · rw [if_pos h] at q
      refine ⟨t.s, k, rfl, rfl, h.1, h.2.1, by rw [T.len]; exact h.2.2.1, by rw [T.len]; exact h.2.2.2, ?_⟩
      have e : (⟨(List.replicate k.toNat t.s.cps).foldl (· ++ ·) #[]⟩ : Str) = T.s (List.replicate k.toNat t).flatten := by
        have g : ∀ (n : Nat) (acc : T), (List.replicate n (List.toArray t)).foldl (· ++ ·) acc.toArray = (acc ++ (List.replicate n t).flatten).toArray := fun n => by
          induction n with
          | zero => intro acc; simp
          | succ n ih => intro acc; rw [List.replicate_succ, List.foldl_cons, List.replicate_succ, List.flatten_cons, ← List.append_assoc, ← ih (acc ++ t)]; simp
        have := g k.toNat []
        unfold T.s
        simpa using this
      rw [e]
      exact Run.ok (rep := RepU G) q c (.d (.str _))
    · rw [if_neg h] at q; exact q.elim
end
end VL

/-! The value layer, W: sorted(d.items()). -/
namespace VL
open PySem PySem.Spec PyProof.Rows L2 LamX
section
variable {G : Gd} {τ : Store}
theorem cells_putT : ∀ (ts : List Addr) (ps : List (Key × V)) {z : Z}, Cells G z τ → (∀ t ∈ ts, z.H t = none) → ts.Nodup → Cells G ⟨LiI.putT z.S ts ps, LiI.putT z.H ts ps, z.ms⟩ τ ∧ Fut z ⟨LiI.putT z.S ts ps, LiI.putT z.H ts ps, z.ms⟩
  | [], ps, z, c, _, _ => by
    have e : ∀ H : Hp, LiI.putT H [] ps = H := fun H => by unfold LiI.putT; rfl
    rw [e, e]
    exact ⟨c, Fut.refl z⟩
  | t :: ts, [], z, c, _, _ => ⟨c, Fut.refl z⟩
  | t :: ts, p :: ps, z, c, h, nd => by
    have h0 := h t List.mem_cons_self
    have n1 := List.nodup_cons.mp nd
    have c1 := cells_sh (o := .tup [kV p.1, p.2]) c h0
    have f1 := fut_sh (o := .tup [kV p.1, p.2]) (c.none_ h0) h0
    obtain ⟨c2, f2⟩ := cells_putT ts ps (z := ⟨upd z.S t (.tup [kV p.1, p.2]), upd z.H t (.tup [kV p.1, p.2]), z.ms⟩) c1 (fun u hu => (upd_ne fun (e : u = t) => n1.1 (by rw [← e]; exact hu)).trans (h u (List.mem_cons_of_mem _ hu))) n1.2
    exact ⟨c2, f1.trans f2⟩
end
section
variable {X : Cx} {pins : List (Addr × Obj)} {σ : L2.St} {H : Hp} {s : Shared}
theorem tups_laid {h' : Heap} {tk : Nat} {kvs : List (Key × V)} {vs : List (Key × Value)} {ts : List Addr} (I : Inv X pins σ H s) (kv : KV kvs vs) (hk : ∀ b o, s.heap.get? b = some o → h'.get? b = some o) (hl : ts.length = vs.length) (g : PySem.W.KdxG (mixKind X.prog X.w) vs s.heap.objs.size h' ts) :
    (∀ t ∈ ts, H t = none) ∧ ts.Nodup ∧ Paired (fun (t : Addr) (q : Key × V) => LiI.putT H ts kvs t = some (.tup [kV q.1, q.2])) ts kvs ∧ Inv X pins σ (LiI.putT H ts kvs) { s with heap := h', toks := tk } := by
  have lk : kvs.length = vs.length := Paired.length kv
  have nd : ts.Nodup := List.Pairwise.imp (fun {a b} (h : a < b) => Nat.ne_of_lt h) g.rise
  have fresh : ∀ t ∈ ts, H t = none := fun t ht => I.hok.fresh (Nat.le_of_lt (g.above t ht))
  have pr := LiI.putT_at ts kvs H (by omega) nd
  have rest : ∀ b, b ∉ ts → LiI.putT H ts kvs b = H b := fun b hb => LiI.putT_off ts kvs H hb
  have old : ∀ b o, s.heap.get? b = some o → b ∉ ts := fun b o e m => absurd (Heap.lt_size e) (Nat.not_lt.mpr (Nat.le_of_lt (g.above b m)))
  have stay : ∀ b u, H b = some u → LiI.putT H ts kvs b = some u := fun b u e => by
    rw [rest b fun m => by rw [fresh b m] at e; cases e]
    exact e
  refine ⟨fresh, nd, pr, I.call' (ch := []) rfl ⟨fun b o q _ _ _ => hk b o q, fun b o q _ _ _ => ⟨o.slots, hk b o q⟩, fun b o q n _ => (rest b (old b o q)).trans n, fun b o q _ => ⟨o, hk b o q⟩, fun b xs q => stay b _ q, fun b o u q => stay b _ q, fun b ps q => ⟨#[], by rw [stay b _ q]; simp⟩⟩ (fun b u q => ?_) I.bare fun b m => by simp at m⟩
  by_cases hb : b ∈ ts
  · obtain ⟨j, pk, e1, e2, e3⟩ := LiI.paired_ix pr hb
    rw [e3] at q
    cases q
    obtain ⟨key, k, x, f1, f2, f3⟩ := g.pairs j b e1
    obtain ⟨qv, g1, g2, g3⟩ := LiI.paired_get kv e2
    rw [f1] at g1
    cases g1
    have rk : RelV (kV pk.1) key := by
      rw [g2]
      exact relV_key (show keyIs k key = true from f2)
    exact ⟨by show 2 ≤ sizeLine; decide, [key, x], .cons rk (.cons g3 .nil), ⟨_, f3, rfl, _, rfl⟩⟩
  · rw [rest b hb] at q
    exact (I.hok b u q).stay (fun d v _ y => hk d v y) (fun d y => stay d _ y) fun d xs y => stay d _ y
theorem tk_all (I : Inv X pins σ H s) : ∀ {xs : List V} {its : List Value} {ks : List (List Ky)}, Vals xs its → Paired (fun x k => ∃ t, x = V.ref t ∧ SqT X.K H t (k.map fun k => kV k.k)) xs ks →
    (∀ v ∈ its, ∃ k ∈ ks, IsTK s.heap v k) ∧ its.map (fun u => (bkV u, keyAt s.heap u)) = xs.zip ks
  | _, _, _, .nil, .nil => ⟨fun v m => by simp at m, rfl⟩
  | _, _, _, .cons r1 r2, .cons h1 h2 => by
    obtain ⟨t, rfl, ht⟩ := h1
    cases r1
    obtain ⟨i1, i2⟩ := tk_all I r2 h2
    have k1 := tk_of I ht
    refine ⟨fun v m => ?_, ?_⟩
    · rcases List.mem_cons.mp m with e | m
      · exact ⟨_, List.mem_cons_self, e ▸ k1⟩
      · obtain ⟨k, m1, m2⟩ := i1 v m
        exact ⟨k, List.mem_cons_of_mem _ m1, m2⟩
    · rw [List.map_cons, i2, keyAt_eq k1]
      rfl
end
theorem paired_wk {α β : Type} {R R' : α → β → Prop} (w : ∀ x y, R x y → R' x y) : ∀ {xs : List α} {ys : List β}, Paired R xs ys → Paired R' xs ys
  | _, _, .nil => .nil
  | _, _, .cons h t => .cons (w _ _ h) (paired_wk w t)
/-- the rows of a dict with such values -/
def itKs : List (Ky × D) → Option (List (List Ky))
  | [] => some []
  | (k, d) :: r => match d.ky, itKs r with
    | some y, some ks => some ([k, y] :: ks)
    | _, _ => none
def fSortIt (own : Bool) (f : List Bool) (kvs : List (Ky × D)) (τ : Store) : R U := match itKs kvs with
  | some ks => if kvs.length ≤ sizeLine ∧ ks.all (fun k => form k == f) = true then allocL own ((srt ks).map fun k => .tup (k.map Ky.d)) τ else .bad
  | none => .bad
def eSortIt (own : Bool) (f : List Bool) (fe : EV) : EV := fun ρ τ => (fe ρ τ).bind fun u τ1 => match vw τ1 u with
  | some (.dct kvs) => fSortIt own f kvs τ1
  | _ => .bad
section
variable {G : Gd} {z : Z}
theorem itKs_len : ∀ {kvs : List (Ky × D)} {ks : List (List Ky)}, itKs kvs = some ks → ks.length = kvs.length
  | [], _, e => by cases e; rfl
  | (k, d) :: r, ks, e => by
    unfold itKs at e
    cases e1 : d.ky with
    | none => rw [e1] at e; simp at e
    | some y =>
      cases e2 : itKs r with
      | none => rw [e1, e2] at e; cases e
      | some ks' =>
        rw [e1, e2] at e
        cases e
        simp [itKs_len e2]
theorem it_paired {S : Hp} : ∀ {kvs : List (Ky × D)} {ps : List (Key × V)} {ks : List (List Ky)} {ts : List Addr}, RepK G S kvs ps → itKs kvs = some ks → Paired (fun (t : Addr) (q : Key × V) => S t = some (.tup [kV q.1, q.2])) ts ps →
    Paired (fun x k => ∃ t, x = V.ref t ∧ S t = some (.tup (k.map fun k => kV k.k))) (ts.map V.ref) ks
  | _, _, _, _, .nil, e, .nil => by cases e; exact .nil
  | _, _, ks, _, .cons (k := k) (d := d) h1 h2, e, .cons (a := t) g1 g2 => by
    unfold itKs at e
    cases e1 : d.ky with
    | none => rw [e1] at e; simp at e
    | some y =>
      cases e2 : itKs _ with
      | none => rw [e1, e2] at e; cases e
      | some ks' =>
        rw [e1, e2] at e
        cases e
        exact .cons ⟨t, rfl, by rw [g1, rep_ky e1 h1]; rfl⟩ (it_paired h2 e2 g2)
theorem reps_paired {S : Hp} : ∀ {xs : List V} {ks : List (List Ky)}, Paired (fun x k => ∃ t, x = V.ref t ∧ S t = some (.tup (k.map fun k => kV k.k))) xs ks → ∀ x ∈ xs.zip ks, Rep G S (.tup (x.2.map Ky.d)) x.1
  | _, _, .nil, x, m => by simp at m
  | _, _, .cons h t, x, m => by
    rw [List.zip_cons_cons] at m
    rcases List.mem_cons.mp m with e | m
    · obtain ⟨a, e1, e2⟩ := h
      rw [e]
      subst e1
      refine .tup (SqT.of e2) ?_
      have : ∀ k : List Ky, Reps G S (k.map Ky.d) (k.map fun k => kV k.k) := fun k => by
        induction k with
        | nil => exact .nil
        | cons a k ih => exact .cons (rep_ofky a) ih
      exact this _
    · exact reps_paired t x m
end
section
variable {X : Cx} {G : Gd} {W : WX} {e : Expr} {f : EV} {p apos cpos pos : Pos}
theorem v_sortIt {own : Bool} {b : Bool} {fm : List Bool} (hK : X.K = G.K) (hc : X.calm = true) (hg : Gl X "sorted") (hm : X.mg "sorted" = none) (he : PE X e (VE G W f)) (hbase : attributeBase e "items" X.env (eval e X.env) = eval e X.env := by rfl) (hline : (apos.endLine == cpos.line) = true := by rfl) :
    PE X (.Call (.Name "sorted" p) [.Call (.Attribute e "items" apos) [] [] cpos] [] pos) (VE G W (eSortIt own (b :: fm) f)) := by
  refine ⟨fun pins s σ H Q I ⟨z, ρ, τ, hz, c, en, h⟩ => ?_⟩
  refine Call_ (ld_blt I hg hm (u := .builtin "sorted") rfl ?_)
  refine PyProof.Rows.callWith_builtin1 (PyProof.Rows.args_cons ?_ rfl) rfl rfl
  refine wpAny_Call_method (T := "dict") (id := "dict.items") hbase rfl hline F.plainAttrs_dict F.slot_dict_items F.type_dict_items (thn (he.run pins s σ H _ I ⟨z, ρ, τ, hz, c, en, Run.bind h⟩) fun v s1 ⟨x, H1, I1, r1, z1, u, τ1, e1, f1, c1, ru, q1⟩ => ?_)
  subst e1
  cases e2 : vw τ1 u with
  | none => rw [e2] at q1; exact q1.elim
  | some dd =>
    rw [e2] at q1
    cases dd with
    | dct kvs =>
      have q1 : Run G (RepU G) (fSortIt own (b :: fm) kvs τ1) (fun c d H' => W c d σ H') z1 Q := q1
      obtain ⟨d, ps, rfl, hd, hrk⟩ := (vw_rep c1 ru e2).dct_ c1
      obtain rfl : v = Value.ref d := r1
      obtain ⟨hz0, hs0, vs, kv, hdo⟩ := dk_rd I1.hok hd
      obtain ⟨ep, hat⟩ := hdo.dictAt
      have lk : ps.length = vs.length := Paired.length kv
      unfold fSortIt at q1
      cases e3 : itKs kvs with
      | none => rw [e3] at q1; exact q1.elim
      | some ks =>
        rw [e3] at q1
        simp only at q1
        by_cases hl : kvs.length ≤ sizeLine ∧ ks.all (fun k => form k == b :: fm) = true
        · rw [if_pos hl] at q1
          have I2 : Inv X pins σ z1.H { s1 with heap := s1.heap.push { cls := .type "dict_items", data := .fields #[.ref d] } } := I1.kept (t' := s1.toks) fun b ob q => Heap.get?_push_of_some _ q
          refine ⟨hdo.typeIs, hdo.mapOf.noDict, ?_⟩
          show wpAny _ _ (callWith cpos (.builtin "dict.items") [.ref d] [] []) _ X.xe s1
          refine method_meetsIn F.slot_dict_items F.entry_dict_items rfl (PySem.evalArgs_none ⟨rfl, hdo.typeIs, F.args_dict_items_1 _, _, meets_dict_items (mixKind X.prog X.w) d hs0, ⟨vs, hdo⟩, ?_⟩)
          refine PyProof.Rows.args_nil ?_
          refine Calls.call_function_entry kind_sorted plain_sorted entry_sorted (args_sorted1 _) ?_
          unfold Builtin.«sorted»
          refine wpAny_bind (m := checkCount "sorted" 1 1 _) (wpAny_pure (wpAny_bind (PySem.W.kdx_collect (A := X.A.in1) (knd := mixKind X.prog X.w) (kvs := vs) (ep := ep) (I1.ok.hd hc) ⟨_, Heap.get?_push_size _ rfl, rfl, rfl⟩ (hat.push _) (by omega) fun h' tk ts k1 k2 k3 => ?_)))
          obtain ⟨t1, t2, t3, J⟩ := tups_laid (tk := tk) I2 kv k1 k2 k3
          have lts : (ts.map Value.ref).length ≤ sizeLine := by rw [List.length_map, k2]; omega
          refine wpAny_bind (wpAny_newList ?_ lts)
          obtain ⟨c2, f2⟩ := cells_putT ts ps c1 t1 t2
          have at1 : (h'.push (seqObj "list" (ts.map Value.ref).toArray 0)).get? h'.objs.size = some (seqObj "list" (ts.map Value.ref).toArray 0) := Heap.get?_push_size _ rfl
          have J2 : Inv X pins σ (LiI.putT z1.H ts ps) { s1 with heap := h'.push (seqObj "list" (ts.map Value.ref).toArray 0), toks := tk } := J.kept (t' := tk) fun b ob q => Heap.get?_push_of_some _ q
          have prS := LiI.putT_at ts ps z1.S (by rw [k2]; exact lk.symm) t2
          have pk := it_paired (S := LiI.putT z1.S ts ps) (RepK.mono f2.ss _ _ hrk) e3 prS
          have pkH : Paired (fun x k => ∃ t, x = V.ref t ∧ SqT X.K (LiI.putT z1.H ts ps) t (k.map fun k => kV k.k)) (ts.map V.ref) ks := by
            exact paired_wk (fun x k ⟨t, e, ht⟩ => ⟨t, e, SqT.of (c2.sub _ _ ht)⟩) pk
          obtain ⟨a1, a2⟩ := tk_all J2 (LiI.vals_refs ts) pkH
          have hf : ∀ k ∈ ks, form k = b :: fm := fun k m => beq_iff_eq.mp (List.all_eq_true.mp hl.2 k m)
          refine wpAny_bind (wpAny_holding (wpAny_call_entry slot_list_sort ⟨_, at1, rfl⟩ entry_list_sort (SrtO.list_sort_ord (swo_key (h'.push (seqObj "list" (ts.map Value.ref).toArray 0))) at1 lts (fun h2 => ?_) fun out o1 o2 => ⟨_, rfl, ?_⟩) (args_list_sort _)))
          · refine tk_sortable (P := X.prog) (w := X.w) (s := { s1 with heap := h'.push (seqObj "list" (ts.map Value.ref).toArray 0), toks := tk }) (b := b) (f := fm) (by omega) (fun v m => ?_) fun o eo => ?_
            · obtain ⟨k, m1, m2⟩ := a1 v m
              exact ⟨k, m2, hf k m1⟩
            · have e' : some o = some (seqObj "list" (ts.map Value.ref).toArray 0) := eo.symm.trans at1
              cases e'
              exact fun c => absurd (Value.type.inj c) (by decide)
          · obtain ⟨cc, hcc⟩ := sortedHeap_at (vs := ts.map Value.ref) (out := out.toArray) at1
            have refs : ∀ u ∈ out, ∃ t, u = Value.ref t := fun u hu => by
              obtain ⟨k, _, a, _, _, _, e, _⟩ := a1 u (o2.perm.mem_iff.mp hu)
              exact ⟨a, e⟩
            have pz : (out.map fun u => (bkV u, keyAt (h'.push (seqObj "list" (ts.map Value.ref).toArray 0)) u)).Perm ((ts.map V.ref).zip ks) := by
              rw [← a2]
              exact o2.perm.map _
            have hlen : ks.length = (ts.map V.ref).length := (paired_len pkH).symm
            have hz2 : ((ts.map V.ref).zip ks).map (·.2) = ks := by rw [List.map_snd_zip (by omega)]
            have ez : (out.map fun u => (bkV u, keyAt (h'.push (seqObj "list" (ts.map Value.ref).toArray 0)) u)).map (·.2) = srt ks := by
              refine srt_uniq ?_ ?_
              · have := pz.map (·.2)
                rwa [hz2] at this
              · rw [List.map_map]
                exact List.pairwise_map.mpr (o1.imp fun h => of_decide_eq_false h)
            have hn : LiI.putT z1.H ts ps h'.objs.size = none := J.hok.fresh (Nat.le_refl _)
            have few : (out.map bkV).length ≤ sizeLine := by rw [List.length_map, o2.perm.length_eq]; exact lts
            have L := J.laid (a := h'.objs.size) (o := .lst (out.map bkV)) (t' := tk) (h' := sortedHeap (h'.push (seqObj "list" (ts.map Value.ref).toArray 0)) h'.objs.size (ts.map Value.ref) out.toArray) (fun b u q => by
              have lt := Heap.lt_size q
              exact (sortedHeap_old (Nat.ne_of_lt lt) (by rw [size_push']; exact Nat.lt_succ_of_lt lt)).trans (Heap.get?_push_of_some _ q)) (Nat.le_refl _) ⟨few, out, cc, bkV_vals refs, hcc⟩
            refine wpAny_pure ⟨_, rfl, .ref h'.objs.size, _, L, rfl, ?_⟩
            refine alloc_lst (own := own) (z := ⟨LiI.putT z1.S ts ps, LiI.putT z1.H ts ps, z1.ms⟩) c2 hn ?_ (Run.pre q1 f2)
            rw [← ez]
            have := reps_of_zs (G := G) (S := LiI.putT z1.S ts ps) (zs := out.map fun u => (bkV u, keyAt (h'.push (seqObj "list" (ts.map Value.ref).toArray 0)) u)) fun x m => reps_paired pk x (pz.mem_iff.mp m)
            rw [List.map_map (g := fun x : V × List Ky => x.1)] at this
            exact this
        · rw [if_neg hl] at q1; exact q1.elim
    | _ => exact q1.elim
end
end VL

/-! The value layer, X: a class's methods by name; what a head must tell of a class. -/
namespace VL
open PySem PySem.Spec PyProof.Rows L2 LamX
theorem u1 {n : Nat} (h : n + 64 < cLine) : n + 1 < cLine := by omega
/-- an own class by name -/
structure ClsD (mg : Str → Option Value) (G : Gd) (x : Str) (c : Nat) (fs : List Str) : Prop where
  g : mg x = some (.ref (G.ca c))
  cl : Cls G.K (G.ca c)
  no : ∀ f ∈ fs, NoAttr G.K (G.ca c) f
  ins : C8.InsC G.K (G.ca c)
  str : PySem.W.kitOne G.K (.ref (G.ca c)) (.type "str") = some false
structure InitD (P : Program) (w : World) (mg : Str → Option Value) (base : Heap) (G : Gd) (c k n a : Nat) (ps ks : List Str) (os : List Nat) (F : List U → Store → R U) : Prop where
  ex : ∃ f fd, Mk G.K (G.ca c) f ∧ FnV P w G.K mg base k f fd ps (spV G n F) ∧ Bnd G.K fd ps (a + 1) ks [] os
structure StrD (P : Program) (w : World) (mg : Str → Option Value) (base : Heap) (G : Gd) (c k : Nat) (F : List U → Store → R U) : Prop where
  ex : ∃ f fd ps, StrI G.K (G.ca c) f ∧ FnV P w G.K mg base k f fd ps (spV G 1 F) ∧ Bnd0 fd ps 1
structure EqD (P : Program) (w : World) (mg : Str → Option Value) (base : Heap) (G : Gd) (c k : Nat) (F : List U → Store → R U) : Prop where
  ex : ∃ f fd ps, NeI G.K (G.ca c) f ∧ FnV P w G.K mg base k f fd ps (spV G 2 F) ∧ Bnd0 fd ps 2
structure CmD (P : Program) (w : World) (mg : Str → Option Value) (base : Heap) (G : Gd) (c k : Nat) (m nm : Str) (F : List U → Store → R U) : Prop where
  ex : ∃ p g mc fd ps, ClX.CRead G.K (G.ca c) mc ∧ ClX.CMet G.K (G.ca c) mc m p g ∧ FnV P w G.K mg base k g fd ps (spV G 2 F) ∧ Bnd0 fd ps 2 ∧ ∀ (s : Shared) (a b : Value), BindsTo s fd ⟨[a], [(nm, b)]⟩ (ps.zip [a, b])
section
variable {X : Cx} {G : Gd} {W : WX} {c k j n : Nat} {ps ks : List Str} {F : List U → Store → R U} {os : List Nat} {x y m nm : Str} {p pos apos p2 kpos : Pos} {e a b : Expr} {es : List Expr} {kws : List Keyword} {fs fk : EL} {f fe fa fb : EV} {fl : List Str}
theorem v_makeD {a m' : Nat} (V : InitD X.prog X.w X.mg X.base G c k n a ps ks os F) (hK : X.K = G.K) (hr : Room j X.A) (hj : k + 1 ≤ j) (hgd : X.A.guards = some []) (tk : Takes X W) (D : ClsD X.mg G x c fl) (hps : ps.length = n) (hmk : ks.length = m') (hos : ∀ l : List U, l.length = a + 1 + m' → (pickL os l).length = n)
    (ha : PA X (e :: es) (VA G W fs)) (hkw : PK X kws (VA G W fk)) (hg : Gl X x) (hall : (backToKw pos (keywordEach kws X.env)).all (·.1.isSome) = true := by rfl) (hks : (backToKw pos (keywordEach kws X.env)).filterMap (·.1) = ks := by rfl)
    (hdb : (x == ("__debug__" : Str)) = false := by decide) (he : starEach (e :: es) X.env = (false, eval e X.env) :: starEach es X.env := by rfl)
    (hpl : ((backTo pos (starEach (e :: es) X.env)).any (·.1) || (backToKw pos (keywordEach kws X.env)).any (·.1.isNone)) = false := by rfl) : PE X (.Call (.Name x p) (e :: es) kws pos) (VE G W (eMake c a m' F os fs fk)) := by
  obtain ⟨f, fd, h1, h2, h3⟩ := V.ex
  rw [← hK] at h1 h2 h3
  exact v_make h1 h2 (hr.mono hj) hgd tk D.g h3 hps hmk hos ha hkw hg hall hks hdb he hpl
theorem v_makeLD {i a m' : Nat} (V : InitD X.prog X.w X.mg X.base G c k n a ps ks os F) (hK : X.K = G.K) (hr : Room j X.A) (hj : k + 1 ≤ j) (hgd : X.A.guards = some []) (tk : Takes X W) (hN : X.N[i]? = some x) (hv : Vis X.env.scope x) (hps : ps.length = n) (hmk : ks.length = m') (hos : ∀ l : List U, l.length = a + 1 + m' → (pickL os l).length = n)
    (ha : PA X (e :: es) (VA G W fs)) (hkw : PK X kws (VA G W fk)) (hall : (backToKw pos (keywordEach kws X.env)).all (·.1.isSome) = true := by rfl) (hks : (backToKw pos (keywordEach kws X.env)).filterMap (·.1) = ks := by rfl)
    (hdb : (x == ("__debug__" : Str)) = false := by decide) (hcd : (x == ("__classdict__" : Str)) = false := by decide) (he : starEach (e :: es) X.env = (false, eval e X.env) :: starEach es X.env := by rfl)
    (hpl : ((backTo pos (starEach (e :: es) X.env)).any (·.1) || (backToKw pos (keywordEach kws X.env)).any (·.1.isNone)) = false := by rfl) : PE X (.Call (.Name x p) (e :: es) kws pos) (VE G W (eMakeL i c a m' F os fs fk)) := by
  obtain ⟨f, fd, h1, h2, h3⟩ := V.ex
  rw [← hK] at h1 h2 h3
  exact v_makeL h1 h2 (hr.mono hj) hgd tk hN hv h3 hps hmk hos ha hkw hall hks hdb hcd he hpl
theorem v_strD (V : StrD X.prog X.w X.mg X.base G c k F) (hK : X.K = G.K) (hr : Room j X.A) (hj : k + 2 ≤ j) (hgd : X.A.guards = some []) (hm : X.mg "str" = none) (hg : Gl X "str") (he : PE X e (VE G W fe))
    (h1 : starEach [e] X.env = (false, eval e X.env) :: starEach [] X.env := by rfl) (hpl : (backTo pos (starEach [] X.env)).any (·.1) = false := by rfl) : PE X (.Call (.Name "str" p) [e] [] pos) (VE G W (eStrI c F fe)) := by
  obtain ⟨f, fd, ps, q1, q2, q3⟩ := V.ex
  rw [← hK] at q1 q2
  exact v_strI q1 q2 q3 (hr.mono hj) hgd hg hm he h1 hpl
theorem v_eqD (V : EqD X.prog X.w X.mg X.base G c k F) (hK : X.K = G.K) (hr : Room j X.A) (hj : k ≤ j) (hgd : X.A.guards = some []) (ha : PE X a (VE G W fa)) (hbb : PE X b (VE G W fb)) (hm : behindInMarks .Eq b = false := by rfl) :
    PE X (.Compare a [.Eq] [b] pos) (VE G W (eEqI c F fa fb)) := by
  obtain ⟨f, fd, ps, q1, q2, q3⟩ := V.ex
  rw [← hK] at q1 q2
  exact v_eqI ⟨q1.at_, q1.fn⟩ q2 q3 (hr.mono hj) hgd ha hbb hm
theorem v_neD (V : EqD X.prog X.w X.mg X.base G c k F) (hK : X.K = G.K) (hr : Room j X.A) (hj : k + 1 ≤ j) (hgd : X.A.guards = some []) (ha : PE X a (VE G W fa)) (hbb : PE X b (VE G W fb)) (hm : behindInMarks .NotEq b = false := by rfl) :
    PE X (.Compare a [.NotEq] [b] pos) (VE G W (eNeI c F fa fb)) := by
  obtain ⟨f, fd, ps, q1, q2, q3⟩ := V.ex
  rw [← hK] at q1 q2
  exact v_neI q1 q2 q3 (hr.mono hj) hgd ha hbb hm
theorem v_cmD (V : CmD X.prog X.w X.mg X.base G c k m nm F) (hK : X.K = G.K) (hr : Room j X.A) (hj : k ≤ j) (hgd : X.A.guards = some []) (tk : Takes X W) (D : ClsD X.mg G y c fl) (hg : Gl X y) (ha : PA X (e :: es) (VA G W fs))
    (hdb : (y == ("__debug__" : Str)) = false := by decide) (hst : starEach (e :: es) X.env = (false, eval e X.env) :: starEach es X.env := by rfl) (hpl : (backTo pos (starEach es X.env)).any (·.1) = false := by rfl) {pl : Sem Bool}
    (ht : eval (.Call (.Attribute (.Name y p2) m apos) (e :: es) [] pos) X.env = (do
      let ov ← eval (.Name y p2) X.env
      standAt apos.atName
      let (f, first) ← holding [ov] (getMethod ov m pl)
      callWith pos f first (backTo pos (starEach (e :: es) X.env)) (backToKw pos (keywordEach [] X.env))) := by rfl) :
    PE X (.Call (.Attribute (.Name y p2) m apos) (e :: es) [] pos) (VE G W (eCM c 2 F fs)) := by
  obtain ⟨p', g, mc, fd, ps, q1, q2, q3, q4, q5⟩ := V.ex
  rw [← hK] at q1 q2 q3
  exact v_cm (pl := pl) q3 (hr.mono hj) hgd tk hg D.g q1 q2 q4 ha hdb hst hpl ht
theorem v_cmKD (V : CmD X.prog X.w X.mg X.base G c k m nm F) (hK : X.K = G.K) (hr : Room j X.A) (hj : k ≤ j) (hgd : X.A.guards = some []) (tk : Takes X W) (D : ClsD X.mg G y c fl) (hg : Gl X y) (ha : PE X e (VE G W f))
    (hdb : (y == ("__debug__" : Str)) = false := by decide)
    (hall : (backToKw pos (keywordEach [⟨some nm, e, kpos⟩] X.env)).all (·.1.isSome) = true := by rfl) (hks : (backToKw pos (keywordEach [⟨some nm, e, kpos⟩] X.env)).filterMap (·.1) = [nm] := by rfl)
    (hpl : ((backTo pos (starEach [] X.env)).any (·.1) || (backToKw pos (keywordEach [⟨some nm, e, kpos⟩] X.env)).any (·.1.isNone)) = false := by rfl) {pl : Sem Bool}
    (ht : eval (.Call (.Attribute (.Name y p2) m apos) [] [⟨some nm, e, kpos⟩] pos) X.env = (do
      let ov ← eval (.Name y p2) X.env
      standAt apos.atName
      let (f, first) ← holding [ov] (getMethod ov m pl)
      callWith pos f first (backTo pos (starEach [] X.env)) (backToKw pos (keywordEach [⟨some nm, e, kpos⟩] X.env))) := by rfl) :
    PE X (.Call (.Attribute (.Name y p2) m apos) [] [⟨some nm, e, kpos⟩] pos) (VE G W (eCMK c F f)) := by
  obtain ⟨p', g, mc, fd, ps, q1, q2, q3, q4, q5⟩ := V.ex
  rw [← hK] at q1 q2 q3
  exact v_cmK (pl := pl) q3 (hr.mono hj) hgd tk hg D.g q1 q2 q5 ha hdb hall hks hpl ht
theorem v_fldD (hK : X.K = G.K) (D : ClsD X.mg G x c fl) {f : Str} {ft : T} (hf : f ∈ fl) (hft : f = ft.s) {fo : EV} (he : PE X e (VE G W fo)) (hb : attributeBase e f X.env (eval e X.env) = eval e X.env := by rfl) : PE X (.Attribute e f pos) (VE G W (eFld c ft fo)) :=
  v_fld hK D.cl (D.no f hf) hft he hb
theorem s_setFD (hK : X.K = G.K) (D : ClsD X.mg G x c fl) {o : Expr} {f : Str} {ft : T} (hf : f ∈ fl) (hft : f = ft.s) {fo : EV} (he : PE X e (VE G W fe)) (ho : PE X o (VE G W fo)) (hs : swapsWith e (some (.Attribute o f p2)) pos.line X.env = pure false := by rfl) :
    PS X (.Assign [.Attribute o f p2] e pos) (VS G W (gSetF c ft fo fe)) :=
  s_setF hK D.cl (D.no f hf) hft he ho hs
/-- a test over two values of any kind -/
theorem vb_cmpU {op : CmpOp} {g : U → U → Store → R U} {r : R2} (ho : OpR X (compareOp op) r) (hs : ∀ (z : Z) (u w : U) (τ : Store) (x y : V) (W : XK) (Q : VK), Cells G z τ → RepU G z u x → RepU G z w y → Run G (RepU G) (g u w τ) W z Q → r x y z.H Q)
    (ha : PE X a (VE G W fa)) (hb : PE X b (VE G W fb)) (hm : behindInMarks op b = false) : PT X (.Compare a [op] [b] pos) (VB G W (bOf fun ρ τ => (fa ρ τ).bind fun u τ1 => (fb ρ τ1).bind fun w τ2 => g u w τ2)) := by
  refine vb_tB (t := tOp r (VE G W fa) (VE G W fb)) (pt_cmpR ho ha hb hm) fun σ H Q ⟨z, ρ, τ, hz, c, en, q⟩ => ?_
  refine ⟨z, ρ, τ, hz, c, en, (Run.bind q).imp fun x H1 ⟨z1, u, τ1, e1, f, c1, r1, q1⟩ => ?_⟩
  subst e1
  refine ⟨z1, ρ, τ1, rfl, c1, en.fut f, (Run.bind q1).imp fun y H2 ⟨z2, w, τ2, e2, f2, c2, r2, q2⟩ => ?_⟩
  subst e2
  exact hs z2 u w τ2 x y _ Q c2 (r1.fut f2) r2 q2
theorem ne_read (z : Z) (u w : U) (τ : Store) (x y : V) (W : XK) (Q : VK) (cc : Cells G z τ) (r1 : RepU G z u x) (r2 : RepU G z w y) (q : Run G (RepU G) (gNeI c F u w τ) W z Q) : rNeI G c F x y z.H Q := by
  refine ⟨z, u, w, τ, rfl, cc, r1, r2, ?_⟩
  unfold gNeI at q ⊢
  split at q
  · split at q
    · rename_i h
      rw [if_pos h]
      split at q
      · exact q
      · exact q.elim
    · exact q.elim
  · exact q.elim
theorem eq_read (z : Z) (u w : U) (τ : Store) (x y : V) (W : XK) (Q : VK) (cc : Cells G z τ) (r1 : RepU G z u x) (r2 : RepU G z w y) (q : Run G (RepU G) (gEqI c F u w τ) W z Q) : rEqI G c F x y z.H Q := by
  refine ⟨z, u, w, τ, rfl, cc, r1, r2, ?_⟩
  unfold gEqI at q ⊢
  split at q
  · split at q
    · rename_i h
      rw [if_pos h]
      split at q
      · exact q
      · exact q.elim
    · exact q.elim
  · exact q.elim
theorem vb_eqD (V : EqD X.prog X.w X.mg X.base G c k F) (hK : X.K = G.K) (hr : Room j X.A) (hj : k ≤ j) (hgd : X.A.guards = some []) (ha : PE X a (VE G W fa)) (hbb : PE X b (VE G W fb)) (hm : behindInMarks .Eq b = false := by rfl) :
    PT X (.Compare a [.Eq] [b] pos) (VB G W (bOf (eEqI c F fa fb))) := by
  obtain ⟨f, fd, ps, q1, q2, q3⟩ := V.ex
  rw [← hK] at q1 q2
  exact vb_cmpU (op_eqI ⟨q1.at_, q1.fn⟩ q2 q3 (hr.mono hj) hgd) eq_read ha hbb hm
theorem vb_neD (V : EqD X.prog X.w X.mg X.base G c k F) (hK : X.K = G.K) (hr : Room j X.A) (hj : k + 1 ≤ j) (hgd : X.A.guards = some []) (ha : PE X a (VE G W fa)) (hbb : PE X b (VE G W fb)) (hm : behindInMarks .NotEq b = false := by rfl) :
    PT X (.Compare a [.NotEq] [b] pos) (VB G W (bOf (eNeI c F fa fb))) := by
  obtain ⟨f, fd, ps, q1, q2, q3⟩ := V.ex
  rw [← hK] at q1 q2
  exact vb_cmpU (op_neI q1 q2 q3 (hr.mono hj) hgd) ne_read ha hbb hm
end
end VL

/-! The value layer, Y: a mirror is reckoned. -/
namespace VL
open PySem PySem.Spec PyProof.Rows L2 LamX
theorem take_self (τ : Store) : τ.take τ.length = τ := List.take_length
theorem vws_cons (τ : Store) (x : D) (us : List U) : vws τ (.d x :: us) = match vws τ us with
  | some ds => some (x :: ds)
  | none => none := by
  show (match (some x : Option D), vws τ us with
    | some d, some ds => some (d :: ds)
    | _, _ => none) = _
  cases vws τ us <;> rfl
/-- signs of a text, all or kept, by a test that changes nothing -/
theorem compGo_all {t : TGv} {fe : EV} {ρ : Env} {h : D → D} {τ : Store} : ∀ (ds acc : List D), (∀ x ∈ ds, ∃ ρ1, t x ρ = some ρ1 ∧ fe ρ1 τ = .ok (.d (h x)) τ) → acc.length + ds.length ≤ sizeLine → compGo t bYes fe ρ ds τ acc = .ok (acc ++ ds.map h) τ
  | [], acc, _, _ => by simp [compGo]
  | d :: ds, acc, H, hl => by
    obtain ⟨ρ1, h1, h2⟩ := H d List.mem_cons_self
    simp only [List.length_cons] at hl
    have ih := compGo_all (t := t) (fe := fe) (ρ := ρ) (h := h) (τ := τ) ds (acc ++ [h d]) (fun x m => H x (List.mem_cons_of_mem _ m)) (by simp; omega)
    unfold compGo
    rw [h1]
    simp only [bYes, R.nx_ok, R.bind_ok, if_true, h2, frz_d]
    rw [if_pos (by omega), ih]
    simp
theorem compGo_some {t : TGv} {tb : EB} {fe : EV} {ρ : Env} {h : D → D} {p : D → Bool} {τ : Store} : ∀ (ds acc : List D), (∀ x ∈ ds, ∃ ρ1, t x ρ = some ρ1 ∧ tb ρ1 τ = .ok (p x) τ ∧ (p x = true → fe ρ1 τ = .ok (.d (h x)) τ)) → acc.length + ds.length ≤ sizeLine →
    compGo t tb fe ρ ds τ acc = .ok (acc ++ (ds.filter p).map h) τ
  | [], acc, _, _ => by simp [compGo]
  | d :: ds, acc, H, hl => by
    obtain ⟨ρ1, h1, h2, h3⟩ := H d List.mem_cons_self
    simp only [List.length_cons] at hl
    unfold compGo
    rw [h1]
    simp only [h2, R.nx_ok, R.bind_ok]
    cases e : p d with
    | true =>
      have ih := compGo_some (t := t) (tb := tb) (fe := fe) (ρ := ρ) (h := h) (p := p) (τ := τ) ds (acc ++ [h d]) (fun x m => H x (List.mem_cons_of_mem _ m)) (by simp; omega)
      simp only [if_true, h3 e, R.nx_ok, R.bind_ok, frz_d]
      rw [if_pos (by omega), ih, List.filter_cons_of_pos e]
      simp
    | false =>
      have ih := compGo_some (t := t) (tb := tb) (fe := fe) (ρ := ρ) (h := h) (p := p) (τ := τ) ds acc (fun x m => H x (List.mem_cons_of_mem _ m)) (by omega)
      simp only [Bool.false_eq_true, if_false]
      rw [ih, List.filter_cons_of_neg (by rw [e]; decide)]
end VL

/-! The value layer, M1: a dict one key of which is no int and no text. -/
namespace VL
open PySem PySem.Spec PyProof.Rows L2 LamX
/-! ### a key is sought among keys of any kind -/
/-- how the keys answer when u is sought: m tells which one is equal -/
structure Ans (prog : Program) (w : World) (A : Around) (s : Shared) (es : Array DictEntry) (u : Value) (h : Int) (m : Nat → Bool) : Prop where
  eq : ∀ (i : Nat) (e : DictEntry), es[i]? = some e → e.hash = h → ∀ (Q : Bool → Shared → Prop) (E : Value → Shared → Prop), Q (m i) s → wpAny (model prog w) A (PySem.eqBool e.key u) Q E s
  qk : ∀ (i : Nat) (e : DictEntry), es[i]? = some e → ∀ (Q : Bool → Shared → Prop) (E : Value → Shared → Prop), Q true s → wpAny (model prog w) A (eqIsQuiet 8 e.key) Q E s
  qu : ∀ (Q : Bool → Shared → Prop) (E : Value → Shared → Prop), Q true s → wpAny (model prog w) A (eqIsQuiet 8 u) Q E s
  one : ∀ i j, i < es.size → j < es.size → m i = true → m j = true → i = j
section
variable {prog : Program} {w : World} {A : Around} {E : Value → Shared → Prop} {s : Shared} {d : Addr} {o : Obj} {es : Array DictEntry} {ep : Nat} {u : Value} {h : Int} {m : Nat → Bool} {Q : Option Nat → Shared → Prop}
abbrev plc (es : Array DictEntry) (h : Int) : List Nat := placesWithHash es.size (fun i => es[i]?.map (·.hash)) h
theorem plc_at {i : Nat} (k : i ∈ plc es h) : ∃ e, es[i]? = some e ∧ e.hash = h := by
  unfold plc placesWithHash at k
  obtain ⟨k1, k2⟩ := List.mem_filter.mp k
  dsimp only at k2
  cases e : es[i]? with
  | none => rw [e] at k2; cases k2
  | some x =>
    rw [e] at k2
    exact ⟨x, rfl, by simpa using k2⟩
theorem plc_of {i : Nat} {e : DictEntry} (k : es[i]? = some e) (hh : e.hash = h) : i ∈ plc es h := by
  unfold plc placesWithHash
  have hi := (Array.getElem?_eq_some_iff.mp k).1
  exact List.mem_filter.mpr ⟨List.mem_range.mpr hi, by dsimp only; rw [k]; simp [hh]⟩
theorem plc_nd : (plc es h).Nodup := by
  unfold plc placesWithHash
  exact List.nodup_range.sublist List.filter_sublist
theorem lt_at {i : Nat} {e : DictEntry} (k : es[i]? = some e) : i < es.size := (Array.getElem?_eq_some_iff.mp k).1
theorem walk_x (ho : s.heap.get? d = some o) (hd : o.data = .dict es ep) (an : Ans prog w A s es u h m)
    (hN : (∀ (i : Nat) (e : DictEntry), es[i]? = some e → e.hash = h → m i = false) → Q none s) (hS : ∀ (i : Nat) (e : DictEntry), es[i]? = some e → e.hash = h → m i = true → Q (some i) s) : wpAny (model prog w) A (dictWalkPlain d u h es (plc es h)) Q E s := by
  refine wpAny_bind ?_
  refine wpAny_forIn_list _ (fun rest b s' => s' = s ∧ b = (none, ()) ∧ (∀ i ∈ rest, i ∈ plc es h) ∧ ∀ i ∈ plc es h, i ∉ rest → m i = false) _ ?_ ?_ _ _ ⟨rfl, rfl, fun _ k => k, fun i k n => absurd k n⟩
  · rintro x rest b s' ⟨rfl, rfl, hin, hno⟩
    obtain ⟨e, he, hh⟩ := plc_at (hin x List.mem_cons_self)
    have next : m x = false → ∀ i ∈ plc es h, i ∉ rest → m i = false := fun hx i k n => by
      by_cases z : i = x
      · rw [z]; exact hx
      · exact hno i k fun q => (List.mem_cons.mp q).elim z n
    simp only [he]
    rw [if_pos (by simp [hh])]
    refine wpAny_bind (wpAny_dictEpoch ho hd (wpAny_bind (an.eq x e he hh _ _ (wpAny_bind (wpAny_dictEpoch ho hd ?_)))))
    show wpAny _ _ (if (ep != ep) = true then _ else _) _ E _
    rw [if_neg (by simp)]
    cases hm : m x with
    | true => exact wpAny_bind (wpAny_rule (wpAny_pure (wpAny_pure (hS x e he hh hm))))
    | false => exact wpAny_bind (wpAny_rule (wpAny_pure ⟨rfl, rfl, fun i k => hin i (List.mem_cons_of_mem _ k), next hm⟩))
  · rintro b s' ⟨rfl, rfl, _, hno⟩
    exact wpAny_pure (hN fun i e he hh => hno i (plc_of he hh) (by simp))
theorem quiet_x (an : Ans prog w A s es u h m) {ks : List Value} (hk : ∀ v ∈ ks, ∃ (i : Nat) (e : DictEntry), es[i]? = some e ∧ e.key = v) {Q : Bool → Shared → Prop} (q : Q false s) : wpAny (model prog w) A (tableMayTell u ks) Q E s := by
  unfold tableMayTell
  split
  · exact wpAny_pure q
  · refine wpAny_bind (an.qu _ _ ?_)
    simp only [Bool.not_true, Bool.false_eq_true, if_false]
    refine wpAny_bind (wpAny_forIn_list _ (fun rest b s' => s' = s ∧ b = (none, ()) ∧ ∀ v ∈ rest, v ∈ ks) _ ?_ ?_ _ _ ⟨rfl, rfl, fun _ k => k⟩)
    · rintro v rest b s' ⟨rfl, rfl, hr⟩
      obtain ⟨i, e, he, rfl⟩ := hk v (hr v List.mem_cons_self)
      refine wpAny_bind (an.qk i e he _ _ ?_)
      simp only [Bool.not_true, Bool.false_eq_true, if_false]
      exact wpAny_pure ⟨rfl, rfl, fun y k => hr y (List.mem_cons_of_mem _ k)⟩
    · rintro b s' ⟨rfl, rfl, _⟩
      exact wpAny_pure q
/-- u is sought, no text among texts alone -/
theorem find_x (ho : s.heap.get? d = some o) (hd : o.data = .dict es ep) (an : Ans prog w A s es u h m) (hu : u = .none ∨ (∃ b : Addr, u = .ref b ∧ ∀ (i : Nat) (e : DictEntry), es[i]? = some e → e.key ≠ .ref b) ∨ ∃ x t, u = .str x t ∧ es.all (fun e => isExactStrKey e.key) = false)
    (hN : (∀ (i : Nat) (e : DictEntry), es[i]? = some e → e.hash = h → m i = false) → Q none s) (hS : ∀ (i : Nat) (e : DictEntry), es[i]? = some e → e.hash = h → m i = true → Q (some i) s) : wpAny (model prog w) A (dictFind d u h) Q E s := by
  have hst : ∀ v ∈ (plc es h).filterMap (fun i => es[i]?.map (·.key)), ∃ (i : Nat) (e : DictEntry), es[i]? = some e ∧ e.key = v := fun v hv => by
    obtain ⟨i, _, hi⟩ := List.mem_filterMap.mp hv
    cases e : es[i]? with
    | none => rw [e] at hi; cases hi
    | some x => rw [e] at hi; exact ⟨i, x, e, by simpa using hi⟩
  unfold dictFind
  try with_reducible refine wpAny_holding ?_
  refine wpAny_bind (wpAny_dictEntries ho hd ?_)
  dsimp only
  rcases hu with rfl | ⟨b, rfl, hb⟩ | ⟨x, t, rfl, hx⟩
  · dsimp only
    by_cases hall : ((Value.none :: (plc es h).filterMap fun i => es[i]?.map (·.key)).all carriedByValue) = true
    · rw [if_pos hall]
      exact walk_x ho hd an hN hS
    rw [if_neg hall]
    by_cases hone : ((plc es h).filterMap (fun i => es[i]?.map (·.key)) == [Value.none]) = true <;> (first | rw [if_pos hone] | rw [if_neg hone]) <;> (first | refine wpAny_bind (wpAny_pure ?_) | refine wpAny_bind (quiet_x an hst ?_)) <;> (
    rw [if_neg (by simp)]
    refine wpAny_bind ?_
    refine wpAny_forIn_list _ (fun rest b s' => s' = s ∧ ∃ hit, b = (none, hit) ∧ (∀ i ∈ rest, i ∈ plc es h) ∧ rest.Nodup ∧ ((hit = none ∧ ∀ i ∈ plc es h, i ∉ rest → m i = false) ∨ ∃ j e, hit = some j ∧ es[j]? = some e ∧ e.hash = h ∧ j ∉ rest ∧ m j = true)) _ ?_ ?_ _ _
      ⟨rfl, none, rfl, fun _ k => k, plc_nd, .inl ⟨rfl, fun i k n => absurd k n⟩⟩
    · rintro y rest b s' ⟨rfl, hit, rfl, hin, hnd, hH⟩
      obtain ⟨e, he, hh⟩ := plc_at (hin y List.mem_cons_self)
      have hnd' := List.nodup_cons.mp hnd
      simp only [he]
      rw [if_pos (by simp [hh])]
      refine wpAny_bind (wpAny_dictEpoch ho hd (wpAny_bind (an.eq y e he hh _ _ (wpAny_bind (wpAny_dictEpoch ho hd ?_)))))
      show wpAny _ _ (if (ep != ep) = true then _ else _) _ E _
      rw [if_neg (by simp)]
      cases hm : m y with
      | true =>
        rcases hH with ⟨rfl, _⟩ | ⟨j, e', _, hj, _, hnj, hmj⟩
        · simp only [if_true, Option.isSome_none, Bool.false_eq_true, if_false]
          refine wpAny_bind (wpAny_rule ?_)
          split
          · exact wpAny_pure (wpAny_pure (hS y e he hh hm))
          · exact wpAny_pure ⟨rfl, some y, rfl, fun i k => hin i (List.mem_cons_of_mem _ k), hnd'.2, .inr ⟨y, e, rfl, he, hh, hnd'.1, hm⟩⟩
        · exact absurd (an.one j y (lt_at hj) (lt_at he) hmj hm) fun z => hnj (by rw [z]; exact List.mem_cons_self)
      | false =>
        simp only [Bool.false_eq_true, if_false]
        refine wpAny_bind (wpAny_rule ?_)
        rw [if_neg (by simp)]
        refine wpAny_pure ⟨rfl, hit, rfl, fun i k => hin i (List.mem_cons_of_mem _ k), hnd'.2, ?_⟩
        rcases hH with ⟨hz, hno⟩ | ⟨j, e', hz, hj, hjh, hnj, hmj⟩
        · refine .inl ⟨hz, fun i k n => ?_⟩
          by_cases z : i = y
          · rw [z]; exact hm
          · exact hno i k fun q => (List.mem_cons.mp q).elim z n
        · exact .inr ⟨j, e', hz, hj, hjh, fun k => hnj (List.mem_cons_of_mem _ k), hmj⟩
    · rintro b s' ⟨rfl, hit, rfl, _, _, hH⟩
      rcases hH with ⟨rfl, hno⟩ | ⟨j, e', rfl, hj, hjh, _, hmj⟩
      · exact wpAny_pure (hN fun i e he hh => hno i (plc_of he hh) (by simp))
      · exact wpAny_pure (hS j e' hj hjh hmj))
  · dsimp only
    by_cases hall : ((Value.ref b :: (plc es h).filterMap fun i => es[i]?.map (·.key)).all carriedByValue) = true
    · rw [if_pos hall]
      exact walk_x ho hd an hN hS
    rw [if_neg hall]
    rw [if_neg (by
      rw [← Array.any_toList, List.any_eq_true]
      rintro ⟨e, hin, hc⟩
      obtain ⟨i, hi⟩ := List.mem_iff_getElem?.mp hin
      simp only [Bool.and_eq_true, beq_iff_eq] at hc
      exact hb i e (by rw [← Array.getElem?_toList]; exact hi) hc.1)]
    by_cases hone : ((plc es h).filterMap (fun i => es[i]?.map (·.key)) == [Value.ref b]) = true <;> (first | rw [if_pos hone] | rw [if_neg hone]) <;> (first | refine wpAny_bind (wpAny_pure ?_) | refine wpAny_bind (quiet_x an hst ?_)) <;> (
    rw [if_neg (by simp)]
    refine wpAny_bind ?_
    refine wpAny_forIn_list _ (fun rest b s' => s' = s ∧ ∃ hit, b = (none, hit) ∧ (∀ i ∈ rest, i ∈ plc es h) ∧ rest.Nodup ∧ ((hit = none ∧ ∀ i ∈ plc es h, i ∉ rest → m i = false) ∨ ∃ j e, hit = some j ∧ es[j]? = some e ∧ e.hash = h ∧ j ∉ rest ∧ m j = true)) _ ?_ ?_ _ _
      ⟨rfl, none, rfl, fun _ k => k, plc_nd, .inl ⟨rfl, fun i k n => absurd k n⟩⟩
    · rintro y rest b s' ⟨rfl, hit, rfl, hin, hnd, hH⟩
      obtain ⟨e, he, hh⟩ := plc_at (hin y List.mem_cons_self)
      have hnd' := List.nodup_cons.mp hnd
      simp only [he]
      rw [if_pos (by simp [hh])]
      refine wpAny_bind (wpAny_dictEpoch ho hd (wpAny_bind (an.eq y e he hh _ _ (wpAny_bind (wpAny_dictEpoch ho hd ?_)))))
      show wpAny _ _ (if (ep != ep) = true then _ else _) _ E _
      rw [if_neg (by simp)]
      cases hm : m y with
      | true =>
        rcases hH with ⟨rfl, _⟩ | ⟨j, e', _, hj, _, hnj, hmj⟩
        · simp only [if_true, Option.isSome_none, Bool.false_eq_true, if_false]
          refine wpAny_bind (wpAny_rule ?_)
          split
          · exact wpAny_pure (wpAny_pure (hS y e he hh hm))
          · exact wpAny_pure ⟨rfl, some y, rfl, fun i k => hin i (List.mem_cons_of_mem _ k), hnd'.2, .inr ⟨y, e, rfl, he, hh, hnd'.1, hm⟩⟩
        · exact absurd (an.one j y (lt_at hj) (lt_at he) hmj hm) fun z => hnj (by rw [z]; exact List.mem_cons_self)
      | false =>
        simp only [Bool.false_eq_true, if_false]
        refine wpAny_bind (wpAny_rule ?_)
        rw [if_neg (by simp)]
        refine wpAny_pure ⟨rfl, hit, rfl, fun i k => hin i (List.mem_cons_of_mem _ k), hnd'.2, ?_⟩
        rcases hH with ⟨hz, hno⟩ | ⟨j, e', hz, hj, hjh, hnj, hmj⟩
        · refine .inl ⟨hz, fun i k n => ?_⟩
          by_cases z : i = y
          · rw [z]; exact hm
          · exact hno i k fun q => (List.mem_cons.mp q).elim z n
        · exact .inr ⟨j, e', hz, hj, hjh, fun k => hnj (List.mem_cons_of_mem _ k), hmj⟩
    · rintro b s' ⟨rfl, hit, rfl, _, _, hH⟩
      rcases hH with ⟨rfl, hno⟩ | ⟨j, e', rfl, hj, hjh, _, hmj⟩
      · exact wpAny_pure (hN fun i e he hh => hno i (plc_of he hh) (by simp))
      · exact wpAny_pure (hS j e' hj hjh hmj))
  · dsimp only
    rw [if_neg (by rw [hx]; exact Bool.false_ne_true)]
    by_cases hall : ((Value.str x t :: (plc es h).filterMap fun i => es[i]?.map (·.key)).all carriedByValue) = true
    · rw [if_pos hall]
      exact walk_x ho hd an hN hS
    rw [if_neg hall]
    by_cases hone : ((plc es h).filterMap (fun i => es[i]?.map (·.key)) == [Value.str x t]) = true <;> (first | rw [if_pos hone] | rw [if_neg hone]) <;> (first | refine wpAny_bind (wpAny_pure ?_) | refine wpAny_bind (quiet_x an hst ?_)) <;> (
    rw [if_neg (by simp)]
    refine wpAny_bind ?_
    refine wpAny_forIn_list _ (fun rest b s' => s' = s ∧ ∃ hit, b = (none, hit) ∧ (∀ i ∈ rest, i ∈ plc es h) ∧ rest.Nodup ∧ ((hit = none ∧ ∀ i ∈ plc es h, i ∉ rest → m i = false) ∨ ∃ j e, hit = some j ∧ es[j]? = some e ∧ e.hash = h ∧ j ∉ rest ∧ m j = true)) _ ?_ ?_ _ _
      ⟨rfl, none, rfl, fun _ k => k, plc_nd, .inl ⟨rfl, fun i k n => absurd k n⟩⟩
    · rintro y rest b s' ⟨rfl, hit, rfl, hin, hnd, hH⟩
      obtain ⟨e, he, hh⟩ := plc_at (hin y List.mem_cons_self)
      have hnd' := List.nodup_cons.mp hnd
      simp only [he]
      rw [if_pos (by simp [hh])]
      refine wpAny_bind (wpAny_dictEpoch ho hd (wpAny_bind (an.eq y e he hh _ _ (wpAny_bind (wpAny_dictEpoch ho hd ?_)))))
      show wpAny _ _ (if (ep != ep) = true then _ else _) _ E _
      rw [if_neg (by simp)]
      cases hm : m y with
      | true =>
        rcases hH with ⟨rfl, _⟩ | ⟨j, e', _, hj, _, hnj, hmj⟩
        · simp only [if_true, Option.isSome_none, Bool.false_eq_true, if_false]
          refine wpAny_bind (wpAny_rule ?_)
          split
          · exact wpAny_pure (wpAny_pure (hS y e he hh hm))
          · exact wpAny_pure ⟨rfl, some y, rfl, fun i k => hin i (List.mem_cons_of_mem _ k), hnd'.2, .inr ⟨y, e, rfl, he, hh, hnd'.1, hm⟩⟩
        · exact absurd (an.one j y (lt_at hj) (lt_at he) hmj hm) fun z => hnj (by rw [z]; exact List.mem_cons_self)
      | false =>
        simp only [Bool.false_eq_true, if_false]
        refine wpAny_bind (wpAny_rule ?_)
        rw [if_neg (by simp)]
        refine wpAny_pure ⟨rfl, hit, rfl, fun i k => hin i (List.mem_cons_of_mem _ k), hnd'.2, ?_⟩
        rcases hH with ⟨hz, hno⟩ | ⟨j, e', hz, hj, hjh, hnj, hmj⟩
        · refine .inl ⟨hz, fun i k n => ?_⟩
          by_cases z : i = y
          · rw [z]; exact hm
          · exact hno i k fun q => (List.mem_cons.mp q).elim z n
        · exact .inr ⟨j, e', hz, hj, hjh, fun k => hnj (List.mem_cons_of_mem _ k), hmj⟩
    · rintro b s' ⟨rfl, hit, rfl, _, _, hH⟩
      rcases hH with ⟨rfl, hno⟩ | ⟨j, e', rfl, hj, hjh, _, hmj⟩
      · exact wpAny_pure (hN fun i e he hh => hno i (plc_of he hh) (by simp))
      · exact wpAny_pure (hS j e' hj hjh hmj))
theorem getItem_x {n : Nat} {i : Nat} {e : DictEntry} {Q : Value → Shared → Prop} (ho : s.heap.get? d = some o) (hc : o.ExactDict) (hd : o.data = .dict es ep)
    (hash : ∀ (Q : Int → Shared → Prop), Q h { s with toks := s.toks + n } → wpAny (model prog w) A.in1 (PySem.pyHash u) Q E s) (an : Ans prog w A.in1 { s with toks := s.toks + n } es u h m)
    (hu : u = .none ∨ (∃ b : Addr, u = .ref b ∧ ∀ (i : Nat) (e : DictEntry), es[i]? = some e → e.key ≠ .ref b) ∨ ∃ x t, u = .str x t ∧ es.all (fun e => isExactStrKey e.key) = false) (he : es[i]? = some e) (hh : e.hash = h) (hm : m i = true)
    (q : Q e.val { s with toks := s.toks + n }) : wpAny (model prog w) A (getItem (.ref d) u) Q E s := by
  have ty : s.TypeIs (.ref d) "dict" := ⟨o, ho, hc.1⟩
  unfold getItem
  try with_reducible refine wpAny_holding ?_
  refine wpAny_bind (wpAny_sequenceKey ty (by decide) ?_)
  refine wpAny_bind (wpAny_callSpecial?_slot (name := Str.ofString "__getitem__") ty slot_dict_getitem (wpAny_call_entry slot_dict_getitem ty entry_dict_getitem ?_ (args_dict_getitem _ _)))
  show wpAny _ _ (dictGet d u >>= _) _ _ s
  refine wpAny_bind ?_
  unfold dictGet
  try with_reducible refine wpAny_holding ?_
  refine wpAny_bind (hash _ (wpAny_bind (find_x (s := { s with toks := s.toks + n }) ho hd an hu (fun hno => ?_) fun j e' hj hjh hmj => ?_)))
  · rw [hno i e he hh] at hm
    cases hm
  · have z := an.one i j (lt_at he) (lt_at hj) hm hmj
    subst z
    rw [he] at hj
    cases hj
    refine wpAny_bind (wpAny_dictEntries (s := { s with toks := s.toks + n }) ho hd ?_)
    rw [he]
    exact wpAny_pure (wpAny_pure ⟨_, rfl, wpAny_pure q⟩)
theorem setItem_x {n : Nat} {v : Value} {Q : Unit → Shared → Prop} (ho : s.heap.get? d = some o) (hc : o.ExactDict) (hd : o.data = .dict es ep)
    (hash : ∀ (Q : Int → Shared → Prop), Q h { s with toks := s.toks + n } → wpAny (model prog w) A.in1 (PySem.pyHash u) Q E s) (an : Ans prog w A.in1 { s with toks := s.toks + n } es u h m)
    (hu : u = .none ∨ (∃ b : Addr, u = .ref b ∧ ∀ (i : Nat) (e : DictEntry), es[i]? = some e → e.key ≠ .ref b) ∨ ∃ x t, u = .str x t ∧ es.all (fun e => isExactStrKey e.key) = false) (hno : ∀ (i : Nat) (e : DictEntry), es[i]? = some e → m i = false) (hz : es.size ≤ sizeLine)
    (q : ∀ (h' : Heap) (o' : Obj), h'.get? d = some o' → o'.ExactDict → o'.data = .dict (es.push ⟨h, u, v⟩) (ep + 1) → Heap.SameBut d s.heap h' → Q () { s with heap := h', toks := s.toks + n }) : wpAny (model prog w) A (setItem (.ref d) u v) Q E s := by
  have ty : s.TypeIs (.ref d) "dict" := ⟨o, ho, hc.1⟩
  unfold setItem
  try with_reducible refine wpAny_holding ?_
  refine wpAny_bind (wpAny_sequenceKey ty (by decide) ?_)
  refine wpAny_bind (wpAny_callSpecial?_slot (name := Str.ofString "__setitem__") ty slot_dict_setitem (wpAny_call_entry slot_dict_setitem ty entry_dict_setitem ?_ (args_dict_setitem _ _ _)))
  show wpAny _ _ (Builtin.Dict.notOrdered "__setitem__" ⟨[.ref d, u, v], []⟩ >>= _) _ _ s
  refine wpAny_bind (wpAny_notOrdered_dict ty ?_)
  show wpAny _ _ (dictSet d u v >>= _) _ _ s
  refine wpAny_bind ?_
  unfold dictSet
  try with_reducible refine wpAny_holding ?_
  refine wpAny_bind (hash _ ?_)
  unfold dictSetHashed
  try with_reducible refine wpAny_holding ?_
  refine wpAny_bind (find_x (s := { s with toks := s.toks + n }) ho hd an hu (fun _ => ?_) fun j e' hj _ hmj => ?_)
  · exact wpAny_bind (wpAny_rule (wpAny_updateDictKeys (hz := hz) (s := { s with toks := s.toks + n }) ho hd (wpAny_pure ⟨.none, rfl, wpAny_pure (q _ _ (Heap.get?_update_self _ ho (Obj.isFreed_of_dict (Obj.data_mapDictKeys hd _))) (hc.mapDictKeys _) (Obj.data_mapDictKeys hd _) (Heap.SameBut.update ..))⟩)))
  · rw [hno j e' hj] at hmj
    cases hmj
end
end VL

/-! The value layer, M2: a dict with an odd key, held. -/
namespace VL
open PySem PySem.Spec PyProof.Rows L2 LamX
def nk : Key → NestedKey
  | .inl i => .num i
  | .inr t => .text t
def isOdd : NestedKey → Bool
  | .none => true
  | .tup _ => true
  | _ => false
theorem nk_is {h : Heap} : ∀ {k : Key} {v : Value}, keyIs k v = true → NestedIs h (nk k) v := fun {k v} e => by
  rcases keyIs_shape e with ⟨i, t, rfl, rfl⟩ | ⟨x, t, rfl, rfl⟩
  · exact .int i t
  · exact .text x t
theorem nk_odd (k : Key) {kx : NestedKey} (h : isOdd kx = true) : (nk k).beq kx = false ∧ kx.beq (nk k) = false := by
  cases k <;> cases kx <;> first | exact ⟨rfl, rfl⟩ | cases h
theorem nk_dep (k : Key) : (nk k).depth ≤ 1 := by cases k <;> simp [nk, NestedKey.depth]
/-- a value that may be an odd key: None, a tuple of texts -/
def OddV (K : PySem.W.Frag) (H : Hp) (v : V) : Prop := v = .non ∨ ∃ (b : Addr) (ts : List Str), v = .ref b ∧ SqT K H b (ts.map V.str)
section
variable {X : Cx} {pins : List (Addr × Obj)} {σ : L2.St} {H : Hp} {s : Shared} {a : Addr} {kvs : List (Key × V)} {A : Around} {E : Value → Shared → Prop}
theorem texts_all {h : Heap} : ∀ {ts : List Str} {its : List Value}, Vals (ts.map V.str) its → NestedAll h (ts.map .text) its
  | [], _, r => by cases r; exact .nil
  | t :: ts, _, r => by
    cases r with
    | cons h1 h2 =>
      obtain ⟨tk, rfl⟩ := (show ∃ tk, _ = Value.str t tk from h1)
      exact .cons (.text t tk) (texts_all h2)
theorem texts_dep : ∀ ts : List Str, NestedKey.depthAll (ts.map .text) ≤ 1
  | [] => by simp [NestedKey.depthAll]
  | t :: ts => by
    have := texts_dep ts
    simp only [List.map_cons, NestedKey.depthAll, NestedKey.depth]
    omega
theorem odd_is {v : V} {u : Value} (I : Inv X pins σ H s) (ov : OddV X.K H v) (r : RelV v u) : ∃ kx, isOdd kx = true ∧ kx.depth ≤ 8 ∧ NestedIs s.heap kx u ∧ (u = .none ∨ ∃ b, u = .ref b) := by
  rcases ov with rfl | ⟨b, ts, rfl, q⟩
  · cases (show u = Value.none from r)
    exact ⟨.none, rfl, by simp [NestedKey.depth], .none, .inl rfl⟩
  · cases (show u = Value.ref b from r)
    obtain ⟨its, o, n, rv, h1, h2, h3⟩ := sqT_at I.hok I.kIn q
    have := texts_dep ts
    exact ⟨.tup (ts.map .text), rfl, by simp only [NestedKey.depth]; omega, .tup h1 h2 h3 (texts_all rv), .inr ⟨b, rfl⟩⟩
def EntK (w : World) : Key × Value → DictEntry → Prop := fun x e => keyIs x.1 e.key = true ∧ e.hash = keyH w x.1 ∧ e.val = x.2
theorem ent_of {P : Program} {w : World} : ∀ {es : List DictEntry} {vs : List (Key × Value)}, (∀ e ∈ es, ∃ k, (mixKind P w).is k e.key = true ∧ e.hash = (mixKind P w).hash k) → Pairs (mixKind P w) es vs → Paired (EntK w) vs es
  | [], _, _, h => by cases h; exact .nil
  | e :: es, _, hk, h => by
    cases h with
    | cons h1 h2 h3 =>
      obtain ⟨k, q1, q2⟩ := hk e List.mem_cons_self
      have := (mixKind P w).inj _ _ _ h1 q1
      subst this
      exact .cons ⟨h1, q2, h2⟩ (ent_of (fun e m => hk e (List.mem_cons_of_mem _ m)) h3)
theorem paired_get {α β : Type} {F : α → β → Prop} : ∀ {l : List α} {m : List β}, Paired F l m → ∀ {i : Nat} {b : β}, m[i]? = some b → ∃ a, l[i]? = some a ∧ F a b
  | _, _, .nil, i, b, e => by simp at e
  | _, _, .cons h t, 0, b, e => by
    simp only [List.getElem?_cons_zero, Option.some.injEq] at e
    subst e
    exact ⟨_, rfl, h⟩
  | _, _, .cons h t, i + 1, b, e => by
    obtain ⟨a, q1, q2⟩ := paired_get t (i := i) (by simpa using e)
    exact ⟨a, by simpa using q1, q2⟩
theorem paired_get' {α β : Type} {F : α → β → Prop} : ∀ {l : List α} {m : List β}, Paired F l m → ∀ {i : Nat} {a : α}, l[i]? = some a → ∃ b, m[i]? = some b ∧ F a b
  | _, _, .nil, i, b, e => by simp at e
  | _, _, .cons h t, 0, b, e => by
    simp only [List.getElem?_cons_zero, Option.some.injEq] at e
    subst e
    exact ⟨_, rfl, h⟩
  | _, _, .cons h t, i + 1, b, e => by
    obtain ⟨a, q1, q2⟩ := paired_get' t (i := i) (by simpa using e)
    exact ⟨a, by simpa using q1, q2⟩
/-- d[None] = 1, d[("a",)] = 1: it is locked then -/
theorem x_setItem {y : V} {u : Value} {t : Tok} {Q : Unit → Shared → Prop} (hu : A.units + 64 < cLine) (I : Inv X pins σ H s) (e : H a = some (.dK kvs)) (l : kvs.length < sizeLine) (ov : OddV X.K H y) (ry : RelV y u)
    (h : ∀ s' o, Inv X pins σ (upd H a (.frz o (oddO X.w a kvs y))) s' → Q () s') : wpAny (model X.prog X.w) A (setItem (.ref a) u (.int 1 t)) Q E s := by
  obtain ⟨z, hd, vs, rel, o, es, ep, ho, hc, hdat, hko, hps, hn⟩ := dk_of I.hok e
  obtain ⟨kx, ok, dp, hk, hsh⟩ := odd_is I ov ry
  have pr : Paired (EntK X.w) vs es.toList := ent_of (fun e m => hko e (Array.mem_toList_iff.mp m)) hps
  have hlen : es.size = kvs.length := by
    have h1 := paired_len pr
    have h2 : kvs.length = vs.length := Paired.length rel
    rw [← Array.length_toList]
    omega
  have at_ : ∀ (i : Nat) (e : DictEntry), es[i]? = some e → ∃ k, keyIs k e.key = true := fun i e he => by
    obtain ⟨x, _, q, _⟩ := paired_get pr (i := i) (b := e) (by rw [Array.getElem?_toList]; exact he)
    exact ⟨x.1, q⟩
  have hin : A.in1.units = A.units + 1 := rfl
  have ih : ∀ tk, ({ s with toks := tk } : Shared).heap = s.heap := fun _ => rfl
  refine setItem_x (n := kx.draws) (h := kx.hash X.w) (m := fun _ => false) ho hc hdat (fun Q q => pyHash_key kx u A.in1 s Q hk (by omega) q) ⟨fun i e he _ Q E q => ?_, fun i e he Q E q => ?_, fun Q E q => ?_, fun i j _ _ hm => Bool.noConfusion hm⟩ ?_ (fun _ _ _ => rfl) (by omega) fun h' o' ho' hc' hd' sb => ?_
  · obtain ⟨k, hk2⟩ := at_ i e he
    have hd1 := nk_dep k
    have q1 := eqAt_key (nk k) kx A.in1 { s with toks := s.toks + kx.draws } e.key u (nk_is hk2) hk (by omega)
    rw [(nk_odd k ok).1] at q1
    exact q1 X.prog X.w E Q q
  · obtain ⟨k, hk2⟩ := at_ i e he
    have hd1 := nk_dep k
    exact quiet_key (nk k) e.key 8 { s with toks := s.toks + kx.draws } (nk_is hk2) (by omega) A.in1 E Q q
  · exact quiet_key kx u 8 { s with toks := s.toks + kx.draws } hk dp A.in1 E Q q
  · rcases hsh with rfl | ⟨b, rfl⟩
    · exact .inl rfl
    · refine .inr (.inl ⟨b, rfl, fun i e he z => ?_⟩)
      obtain ⟨k, hk2⟩ := at_ i e he
      rw [z] at hk2
      rcases keyIs_shape hk2 with ⟨_, _, _, q⟩ | ⟨_, _, _, q⟩ <;> cases q
  · have ne : ObjOk X.prog X.w (upd H a (oddO X.w a kvs y)) h' a (oddO X.w a kvs y) := by
      refine ⟨⟨o', es.push ⟨kx.hash X.w, u, .int 1 t⟩, ep + 1, vs, u, kx.hash X.w, t, ho', hc', hd', rel, ⟨es.toList, by simp, pr⟩, ry, by omega, hd, hn⟩, ⟨o', ho'⟩, ?_⟩
      rintro h1 h2 ⟨o1, es1, ep1, xs1, u1, hs1, t1, g1, rest⟩ st
      exact ⟨o1, es1, ep1, xs1, u1, hs1, t1, st _ g1, rest⟩
    have I1 : Inv X pins σ (upd H a (oddO X.w a kvs y)) { s with heap := h', toks := s.toks + kx.draws } := d_write I (by rw [e]; exact True.intro) sb ⟨o', ho'⟩ ne
    obtain ⟨od, I2⟩ := I1.lock upd_same trivial
    rw [upd_upd] at I2
    exact h _ od I2
/-- d[text], d with an odd key -/
theorem x_getItem {od : Obj} {v y : V} {tx : Str} {u : Value} {Q : Value → Shared → Prop} (hu : A.units + 64 < cLine) (I : Inv X pins σ H s) (e : H a = some (.frz od (oddO X.w a kvs v))) (ov : OddV X.K H v) (hv : valV kvs (.inr tx) = some y) (ry : RelV (.str tx) u)
    (h : ∀ w' s', Inv X pins σ H s' → RelV y w' → Q w' s') : wpAny (model X.prog X.w) A (getItem (.ref a) u) Q E s := by
  obtain ⟨_, ⟨o, es, ep, xs, ux, hs, t, ho, hc, hdat, rel, ⟨l, hl, pr⟩, rx, z, hd, hn⟩, _⟩ := I.hok a _ e
  obtain ⟨tk, rfl⟩ := (show ∃ tk, u = Value.str tx tk from ry)
  obtain ⟨kx, ok, dp, hkx, hsh⟩ := odd_is I ov rx
  obtain ⟨w', hw, rw'⟩ := RelO.some_of (v := y) (o := valueAt xs (.inr tx)) (by rw [← hv]; exact rel.val _)
  have hin : A.in1.units = A.units + 1 := rfl
  -- where it stands
  obtain ⟨x0, hx0, hx1⟩ : ∃ x0, xs.find? (fun kv => kv.1 = .inr tx) = some x0 ∧ x0.2 = w' := by
    unfold valueAt at hw
    exact Option.map_eq_some_iff.mp hw
  have hxk : x0.1 = .inr tx := by simpa using List.find?_some hx0
  obtain ⟨i, hi⟩ := List.mem_iff_getElem?.mp (List.mem_of_find?_eq_some hx0)
  obtain ⟨ei, hei, q1, q2, q3⟩ := paired_get' pr hi
  have hil : i < l.length := (List.getElem?_eq_some_iff.mp hei).1
  have hlx : xs.length = l.length := paired_len pr
  have at1 : ∀ j, es[j]? = (l ++ [⟨hs, ux, .int 1 t⟩])[j]? := fun j => by rw [← Array.getElem?_toList, hl]
  have hie : es[i]? = some ei := by rw [at1, List.getElem?_append_left hil]; exact hei
  have hkey : ei.key = .str tx tk ∨ ∃ tk', ei.key = .str tx tk' := by
    rw [hxk] at q1
    rcases keyIs_shape q1 with ⟨_, _, q, _⟩ | ⟨x', t', q, q'⟩
    · cases q
    · cases q; exact .inr ⟨t', q'⟩
  have hm : ∀ j (e' : DictEntry), es[j]? = some e' → (∃ x, xs[j]? = some x ∧ EntK X.w x e') ∨ (xs[j]? = none ∧ e'.key = ux) := fun j e' he' => by
    rw [at1] at he'
    by_cases hj : j < l.length
    · rw [List.getElem?_append_left hj] at he'
      obtain ⟨x, h1, h2⟩ := paired_get pr he'
      exact .inl ⟨x, h1, h2⟩
    · rw [List.getElem?_append_right (by omega)] at he'
      have : j - l.length = 0 := by
        by_cases q : j - l.length = 0
        · exact q
        · rw [List.getElem?_eq_none (by simp; omega)] at he'; cases he'
      rw [this] at he'
      have he' : (⟨hs, ux, .int 1 t⟩ : DictEntry) = e' := by simpa using he'
      subst he'
      exact .inr ⟨List.getElem?_eq_none (by omega), rfl⟩
  have hti : NestedIs s.heap (nk (.inr tx)) (.str tx tk) := .text tx tk
  refine getItem_x (n := (nk (.inr tx)).draws) (h := (nk (.inr tx)).hash X.w) (m := fun j => match xs[j]? with | some x => decide (x.1 = .inr tx) | none => false) (i := i) (e := ei) ho hc hdat (fun Q q => pyHash_key _ _ A.in1 s Q hti (by have := nk_dep (.inr tx); omega) q)
    ⟨fun j e' he' _ Q E q => ?_, fun j e' he' Q E q => ?_, fun Q E q => ?_, fun j1 j2 h1 h2 m1 m2 => ?_⟩ (.inr (.inr ⟨tx, tk, rfl, ?_⟩)) hie ?_ ?_ ?_
  · rcases hm j e' he' with ⟨x, h1, h2, _⟩ | ⟨h1, h2⟩
    · rw [h1] at q
      exact (mixKind X.prog X.w).eqBool (a := x.1) (b := .inr tx) h2 (mixKind_str X.prog X.w tx tk) q
    · rw [h1] at q
      have q1 := eqAt_key kx (nk (.inr tx)) A.in1 { s with toks := s.toks + (nk (.inr tx)).draws } ux _ hkx hti (by have := nk_dep (.inr tx); omega)
      rw [(nk_odd _ ok).2] at q1
      rw [h2]
      exact q1 X.prog X.w E Q q
  · rcases hm j e' he' with ⟨x, h1, h2, _⟩ | ⟨h1, h2⟩
    · exact quiet_key (nk x.1) e'.key 8 { s with toks := s.toks + (nk (.inr tx)).draws } (nk_is h2) (by have := nk_dep x.1; omega) A.in1 E Q q
    · rw [h2]
      exact quiet_key kx ux 8 { s with toks := s.toks + (nk (.inr tx)).draws } hkx dp A.in1 E Q q
  · exact quiet_key (nk (.inr tx)) _ 8 { s with toks := s.toks + (nk (.inr tx)).draws } hti (by have := nk_dep (.inr tx); omega) A.in1 E Q q
  · cases g1 : xs[j1]? with
    | none => rw [g1] at m1; cases m1
    | some x1 =>
      cases g2 : xs[j2]? with
      | none => rw [g2] at m2; cases m2
      | some x2 =>
        rw [g1] at m1
        rw [g2] at m2
        have k1 := of_decide_eq_true m1
        have k2 := of_decide_eq_true m2
        exact (List.getElem?_inj (i := j1) (j := j2) (l := xs.map (·.1)) (by simpa using (List.getElem?_eq_some_iff.mp g1).1) hn).mp (by rw [List.getElem?_map, List.getElem?_map, g1, g2]; simp [k1, k2])
  · rw [Array.all_eq_false]
    refine ⟨l.length, by rw [← Array.length_toList, hl]; simp, ?_⟩
    have hlast : es[l.length]? = some ⟨hs, ux, .int 1 t⟩ := by rw [at1, List.getElem?_append_right (by omega)]; simp
    obtain ⟨hlt, hq⟩ := Array.getElem?_eq_some_iff.mp hlast
    rw [hq]
    rcases hsh with rfl | ⟨b, rfl⟩ <;> simp [isExactStrKey]
  · rw [q2, hxk]
    rfl
  · show (match xs[i]? with | some x => decide (x.1 = .inr tx) | none => false) = true
    rw [hi]
    simp [hxk]
  · rw [q3, hx1]
    exact h w' _ (I.tok _) rw'
end
end VL

/-! The value layer, M3: len of a dict with an odd key, its keys in a row; all dicts by data. -/
namespace VL
open PySem PySem.Spec PyProof.Rows L2 LamX
section
variable {prog : Program} {w : World} {A : Around} {E : Value → Shared → Prop} {s : Shared} {d : Addr} {o : Obj} {es : Array DictEntry} {ep : Nat}
theorem len_x {Q : Value → Shared → Prop} (hd : (d == sysModules) = false) (ho : s.heap.get? d = some o) (hc : o.ExactDict) (hdat : o.data = .dict es ep) (fit : (es.size : Int) < 2 ^ 63)
    (q : Q (.int es.size (s.toks + 1)) { s with toks := s.toks + 1 + 1 }) : wpAny (model prog w) A (call (.builtin "len") [.ref d]) Q E s := by
  have ty : s.TypeIs (.ref d) "dict" := ⟨o, ho, hc.1⟩
  have mt : MeetsIn prog w (Builtin.«dict.__len__» ⟨[.ref d], []⟩) (fun _ R s => (∃ o ep, s.heap.get? d = some o ∧ o.data = .dict es ep) ∧ R (.ok (.ret (.int es.size s.toks))) { s with toks := s.toks + 1 }) :=
    .of_wp fun A R s ⟨⟨o, ep, h1, h2⟩, h⟩ => by
      show wpAny _ _ (dictSize d >>= _) _ _ s
      unfold dictSize
      refine wpAny_bind (wpAny_bind (wpAny_dictEntries h1 h2 (wpAny_pure ?_)))
      show wpAny _ _ (Builtin.Dict.pendingCount d >>= _) _ _ s
      refine wpAny_bind (wpAny_pendingCount_other hd (wpAny_ret_mkInt ?_))
      rw [Nat.add_zero]
      exact h
  refine Calls.call_function_entry kind_len plain_len entry_len (args_len1 _) ?_
  unfold Builtin.«len»
  refine wpAny_bind (m := oneArg "len" _) (wpAny_pure ?_)
  refine wpAny_bind (m := callSpecial? (.ref d) (Str.ofString "__len__")) (wpAny_callSpecial?_slot (name := Str.ofString "__len__") ty F.slot_dict_len (call_meetsIn F.slot_dict_len ty F.entry_dict_len (F.args_dict_len_1 _) mt ⟨⟨o, ep, ho, hdat⟩, ?_⟩))
  show wpAny _ _ _ _ _ { s with toks := s.toks + 1 }
  refine wpAny_bind (wpAny_holding (wpAny_pure ?_))
  refine wpAny_bind (wpAny_letGo ?_)
  show wpAny _ _ (if ((es.size : Nat) : Int) < 0 then _ else _) _ _ _
  rw [if_neg (by omega)]
  show wpAny _ _ (if ((es.size : Nat) : Int) ≥ 2 ^ 63 then _ else _) _ _ _
  rw [if_neg (by omega)]
  exact wpAny_bind (wpAny_mkInt (wpAny_pure ⟨_, rfl, q⟩))
end
section
variable {X : Cx} {pins : List (Addr × Obj)} {σ : L2.St} {H : Hp} {s : Shared} {d : Addr} {o : Obj} {kvs : List (Key × V)} {v : V}
theorem odd_obj {w : World} (I : Inv X pins σ H s) (h : H d = some (.frz o (oddO w d kvs v))) : (d == sysModules) = false ∧ s.heap.get? d = some o ∧ o.ExactDict ∧ kvs.length ≤ sizeLine ∧ ∃ (es : Array DictEntry) (ep : Nat), o.data = .dict es ep ∧ es.size = kvs.length + 1 ∧
    ∀ (i : Nat) (x : V), (kvs.map fun p => kV p.1)[i]? = some x ∨ (i = kvs.length ∧ x = v) → ∃ en, es[i]? = some en ∧ RelV x en.key := by
  obtain ⟨h0, ⟨o', es, ep, xs, u, hs, t, ho, hc, hdat, rel, ⟨l, hl, pr⟩, rx, z, hd, hn⟩, _⟩ := I.hok d _ h
  rw [h0] at ho
  cases ho
  have l1 := paired_len pr
  have l2 : kvs.length = xs.length := Paired.length rel
  have at1 : ∀ j, es[j]? = (l ++ [⟨hs, u, .int 1 t⟩])[j]? := fun j => by rw [← Array.getElem?_toList, hl]
  refine ⟨hd, h0, hc, z, es, ep, hdat, by rw [← Array.length_toList, hl]; simp; omega, fun i x hx => ?_⟩
  rcases hx with hx | ⟨rfl, rfl⟩
  · rw [List.getElem?_map] at hx
    cases hk : kvs[i]? with
    | none => rw [hk] at hx; cases hx
    | some p =>
      rw [hk] at hx
      have hx : kV p.1 = x := by simpa using hx
      obtain ⟨q, hq, hq1, _⟩ := paired_get' rel hk
      obtain ⟨en, he, he1, _⟩ := paired_get' pr hq
      refine ⟨en, by rw [at1, List.getElem?_append_left (List.getElem?_eq_some_iff.mp he).1]; exact he, ?_⟩
      rw [← hx, hq1]
      exact relV_key he1
  · exact ⟨⟨hs, u, .int 1 t⟩, by rw [at1, List.getElem?_append_right (by omega)]; simp [l2, l1], rx⟩
/-- the keys of a locked dict with an odd key -/
def Itx (w : World) (d : Addr) (o : Obj) (kvs : List (Key × V)) (v : V) : It :=
  ⟨fun i H => H d = some (.frz o (oddO w d kvs v)) ∧ i < kvs.length + 1, fun i H x H' => H' = H ∧ ((kvs.map fun p => kV p.1) ++ [v])[i]? = some x, fun i H => H d = some (.frz o (oddO w d kvs v)) ∧ kvs.length + 1 ≤ i⟩
theorem turn_x {P : Program} {w w2 : World} {K : PySem.W.Frag} {tg : Expr} {es : Array DictEntry} {ep : Nat} (it : Addr) (hod : o.data = .dict es ep) : Turn P w K tg (Itx w2 d o kvs v) [it] it (fun i h => h.IsKeyIter it d i (kvs.length + 1) ep) where
  mem := by simp
  obj := fun i h st b hb => by
    have e : b = it := by simpa using hb
    subst e
    obtain ⟨oi, e, c, dd⟩ := st
    exact ⟨oi, e, fun v z => by rw [dd] at z; cases z⟩
  keep := fun i h h' st k => st.at fun oi e => k it (by simp) oi e
  item := by
    intro X hP hw hK hc i pins s σ H E I hf st ⟨hd, hi⟩
    subst hP hw hK
    obtain ⟨f0, f1, f2, f3, f4, f5⟩ := hf it (by simp)
    obtain ⟨hs, hgd, hx, _, es', ep', hdt, hsz, ent⟩ := odd_obj I hd
    obtain ⟨rfl, rfl⟩ := dict_ep hod hdt
    have hil : i < ((kvs.map fun p => kV p.1) ++ [v]).length := by simpa using hi
    obtain ⟨x, hxv⟩ : ∃ x, ((kvs.map fun p => kV p.1) ++ [v])[i]? = some x := ⟨_, List.getElem?_eq_getElem hil⟩
    obtain ⟨en, hen, hr⟩ := ent i x (by
      by_cases q : i < kvs.length
      · rw [List.getElem?_append_left (by simpa using q)] at hxv; exact .inl hxv
      · have : i = kvs.length := by omega
        subst this
        rw [List.getElem?_append_right (by simp)] at hxv
        exact .inr ⟨rfl, by simpa using hxv.symm⟩)
    refine next_key_item st hgd hdt hsz hen fun h' st' sb => ?_
    have I1 : Inv X pins σ H { s with heap := h' } := I.turned (t' := s.toks) (fun b ob hb e => (sb.2 b hb).trans e) f0 f1 f3 f4 f5
    obtain ⟨oi, e, c, dd⟩ := id st'
    exact ⟨en.key, rfl, go_of (s := { s with heap := h' }) e c dd (by decide) ⟨x, H, I1, hr, ⟨rfl, hxv⟩, st', fun b hb => (hf b hb).1⟩⟩
  done := by
    intro X hP hw hK hc i pins s σ H E I hf st ⟨hd, hi⟩
    subst hP hw hK
    obtain ⟨f0, f1, f2, f3, f4, f5⟩ := hf it (by simp)
    obtain ⟨hs, hgd, hx, _, es', ep', hdt, hsz, ent⟩ := odd_obj I hd
    obtain ⟨rfl, rfl⟩ := dict_ep hod hdt
    exact next_key_end (I.ok.hd hc) st hgd hdt hsz hi fun h' eb => ⟨rfl, I.turned (t' := s.toks) (fun b ob hb e => eb b ob hb e) f0 f1 f3 f4 f5⟩
  self := fun A i s Q E st h => by
    refine wpAny_pyIter_slot st.typeIs F.slot_dict_keyiterator_iter (wpAny_call_entry F.slot_dict_keyiterator_iter st.typeIs F.entry_dict_keyiterator_iter ?_ (F.args_dict_keyiterator_iter_1 _))
    show wpAny _ _ (ret (.ref it)) _ _ s
    exact wpAny_pure ⟨_, rfl, "dict_keyiterator", _, st.typeIs, F.slot_dict_keyiterator_next.lookup, h⟩
theorem walk_x2 {w : World} : Walk (Itx w d o kvs v) (kvs.length + 1) (fun H => H d = some (.frz o (oddO w d kvs v))) (YAt ((kvs.map fun p => kV p.1) ++ [v])) :=
  ⟨fun _ _ hi q => ⟨q, hi⟩, fun _ q => ⟨q, Nat.le_refl _⟩, fun _ _ _ _ _ _ y => y⟩
end
/-- for k in d: a dict of any kind -/
def tKeysX (w : World) (td : TE) : TI := fun σ H R => td σ H fun x H1 => (∃ d o kvs, x = .ref d ∧ H1 d = some (.frz o (.dK kvs)) ∧ R (Itk d o kvs) H1) ∨ ∃ d o kvs v, x = .ref d ∧ H1 d = some (.frz o (oddO w d kvs v)) ∧ R (Itx w d o kvs v) H1
theorem pi_keysX {X : Cx} {w : World} {tg e : Expr} {td : TE} (he : PE X e td) : PI X tg e (tKeysX w td) := by
  refine ⟨fun pins s σ H R I h => ?_⟩
  refine thn (he.run pins s σ H _ I h) fun u s1 ⟨x, H1, I1, rx, q⟩ => ?_
  rcases q with ⟨d, o, kvs, ex, hd, q⟩ | ⟨d, o, kvs, v, ex, hd, q⟩
  · subst ex
    obtain rfl : u = Value.ref d := rx
    obtain ⟨hs, hgd, hx, es, ep, vs, hdt, hsz, kv, hm⟩ := I1.frzK hd
    refine iter_keys hs hgd hx hdt (pi_one (tk := s1.toks) I1 _ (turn_keys _ hdt) ⟨_, Heap.get?_push_size _ rfl, rfl, ?_⟩ q)
    rw [hsz] <;> rfl
  · subst ex
    obtain rfl : u = Value.ref d := rx
    obtain ⟨hs, hgd, hx, _, es, ep, hdt, hsz, ent⟩ := odd_obj I1 hd
    refine iter_keys hs hgd hx hdt (pi_one (tk := s1.toks) I1 _ (turn_x _ hdt) ⟨_, Heap.get?_push_size _ rfl, rfl, ?_⟩ q)
    rw [hsz] <;> rfl
/-- for k in d, by data -/
def gKeysX (u : U) (τ : Store) : R (List D) := match u with
  | .d (.dct kvs) => .ok (kvs.map fun p => p.1.d) τ
  | .d (.dcx kvs x) => .ok ((kvs.map fun p => p.1.d) ++ [x]) τ
  | _ => .bad
def dKeysX (f : EV) : ED := fun ρ τ => (f ρ τ).bind gKeysX
/-- len(d), by data -/
def fLenX : D → Store → R U
  | .dcx kvs _, τ => .ok (.d (.int (kvs.length + 1))) τ
  | d, τ => fLenD d τ
/-- d[k], by data: a text for a dict with an odd key -/
def oddD : D → Bool
  | .non => true
  | .tup ds => match strsOf ds with
    | some _ => true
    | none => false
  | _ => false
def gDGetX (u w : U) (τ : Store) : R U := match u, w with
  | .d (.dcx kvs x), .d (.str t) => if oddD x = true then match dget kvs (.inr t) with
    | some y => .ok (.d y) τ
    | none => .bad
    else .bad
  | _, _ => gDGet u w τ
def eDGetX (fo fi : EV) : EV := fun ρ τ => (fo ρ τ).bind fun u τ1 => (fi ρ τ1).bind fun w τ2 => gDGetX u w τ2
/-- d[k] = e, by data -/
def putX (x : D) (o i : U) (ρ : Env) (τ : Store) : RS := match o, i with
  | .loc n, .d y => match τ[n]?, y.ky with
    | some (.dct kvs), some k => if kvs.length < sizeLine then .nx ρ (τ.set n (.dct (dput kvs k x))) else .bad
    | some (.dct kvs), none => match x with
      | .int i => if i = 1 ∧ oddD y = true ∧ kvs.length < sizeLine then .nx ρ (τ.set n (.dcx kvs y)) else .bad
      | _ => .bad
    | _, _ => .bad
  | _, _ => .bad
def gPutX (fo fi f : EV) : GS := fun ρ τ => liftE (f ρ τ) ρ fun u τ1 => match frz τ1 u with
  | some (x, τ2) => liftE (fo ρ τ2) ρ fun o τ3 => liftE (fi ρ τ3) ρ fun i τ4 => putX x o i ρ τ4
  | none => .bad
end VL

/-! The value layer, M4: dicts of any kind: len, for, d[k], d[k] = v. -/
namespace VL
open PySem PySem.Spec PyProof.Rows L2 LamX
/-! ### at the level of values -/
def GetX (K : PySem.W.Frag) (w : World) (H : Hp) (a : Addr) (y v : V) : Prop := DGet H a y (some v) ∨ ∃ od kvs kx tx, H a = some (.frz od (oddO w a kvs kx)) ∧ OddV K H kx ∧ y = .str tx ∧ valV kvs (.inr tx) = some v
def PutX (K : PySem.W.Frag) (w : World) (H : Hp) (a : Addr) (y v : V) (P : Hp → Prop) : Prop := (∃ H', DPut H a y v H' ∧ P H') ∨ ∃ kvs, H a = some (.dK kvs) ∧ kvs.length < sizeLine ∧ OddV K H y ∧ v = .int 1 ∧ ∀ o, P (upd H a (.frz o (oddO w a kvs y)))
section
variable {X : Cx} {o i value : Expr} {td ty tv : TE} {pos pos' : Pos}
theorem pe_getX (hu : X.A.units + 64 < cLine) (ho : PE X o td) (hi : PE X i ty) (hs : NoSl i) : PE X (.Subscript o i pos) (fun σ H Q => td σ H fun x H1 => ty σ H1 fun y H2 => ∃ a v, x = .ref a ∧ GetX X.K X.w H2 a y v ∧ Q v H2) := by
  constructor
  intro pins s σ H Q I h
  refine subD_of PySem.F.slot_dict_getitem.lookup hs (thn (ho.run pins s σ H _ I h) fun u s1 ⟨x, H1, I1, rx, q1⟩ => thn (hi.run pins s1 σ H1 _ I1 q1) fun iv s2 ⟨y, H2, I2, ry, a, v, ex, g, q2⟩ => ?_)
  subst ex
  obtain rfl : u = Value.ref a := rx
  rcases g with g | ⟨od, kvs, kx, tx, g1, g2, rfl, g4⟩
  · exact ⟨dict_typeIs I2 g, d_getItem (u1 hu) I2 g ry fun w' s3 I3 rw' => ⟨v, H2, I3, rw', q2⟩⟩
  · obtain ⟨_, h0, hc, _⟩ := odd_obj I2 g1
    exact ⟨⟨od, h0, hc.1⟩, x_getItem hu I2 g1 g2 g4 ry fun w' s3 I3 rw' => ⟨v, H2, I3, rw', q2⟩⟩
theorem ps_putX (hu : X.A.units + 64 < cLine) (ho : PE X o td) (hi : PE X i ty) (hv : PE X value tv) (hs : swapsWith value (some (.Subscript o i pos')) pos.line X.env = pure false) :
    PS X (.Assign [.Subscript o i pos'] value pos) (fun D σ H => tv σ H fun v H1 => td σ H1 fun x H2 => ty σ H2 fun y H3 => ∃ a, x = .ref a ∧ PutX X.K X.w H3 a y v fun H4 => D.nx σ H4) := by
  constructor
  intro pins s σ H D I h
  refine wpAny_Assign_Subscript (thn (hv.run pins s σ H _ I h) fun r s1 ⟨v, H1, I1, rv, q1⟩ => thn (ho.run pins s1 σ H1 _ I1 q1) fun u s2 ⟨x, H2, I2, rx, q2⟩ => thn (hi.run pins s2 σ H2 _ I2 q2) fun iv s3 ⟨y, H3, I3, ry, a, ex, g⟩ => ?_) hs
  subst ex
  obtain rfl : u = Value.ref a := rx
  rcases g with ⟨H4, g, q3⟩ | ⟨kvs, g1, g2, g3, rfl, q3⟩
  · exact d_setItem (u1 hu) I3 g ry rv fun s4 I4 => ⟨σ, H4, I4, q3⟩
  · obtain ⟨t, rfl⟩ := (show ∃ t, r = Value.int 1 t from rv)
    exact x_setItem hu I3 g1 g2 g3 ry fun s4 o I4 => ⟨σ, _, I4, q3 o⟩
theorem call_lenO {w : World} : CallR X (.builtin "len") (fun xs H Q => ∃ a od kvs v, xs = [V.ref a] ∧ H a = some (.frz od (oddO w a kvs v)) ∧ Q (.int (kvs.length + 1 : Nat)) H) := by
  intro pins s σ H xs us Q I r h
  obtain ⟨a, od, kvs, v, rfl, hd, q⟩ := h
  obtain ⟨u, rfl, ru⟩ := vals1 r
  cases ru
  obtain ⟨h1, h2, h3, hz, es, ep, h4, h5, _⟩ := odd_obj I hd
  refine len_x h1 h2 h3 h4 (by rw [h5]; rw [sizeLine_eq] at hz; omega) ?_
  rw [h5]
  exact ⟨.int _, H, I.tok _, ⟨_, rfl⟩, q⟩
end
def rLenX (K : PySem.W.Frag) (w : World) : List V → Hp → VK → Prop := fun xs H Q => rLenD K xs H Q ∨ ∃ a od kvs v, xs = [V.ref a] ∧ H a = some (.frz od (oddO w a kvs v)) ∧ Q (.int (kvs.length + 1 : Nat)) H
theorem call_lenXX {X : Cx} {w : World} : CallR X (.builtin "len") (rLenX X.K w) := CallR.or call_lenX call_lenO
/-! ### by data -/
theorem odd_rep {G : Gd} {S H : Hp} {x : D} {v : V} (r : Rep G S x v) (h : oddD x = true) (sb : Same S H) : OddV G.K H v := by
  cases x with
  | non => cases r; exact .inl rfl
  | tup ds =>
    cases r with
    | tup h1 h2 =>
      cases e : strsOf ds with
      | none => simp [oddD, e] at h
      | some ts =>
        refine .inr ⟨_, ts.map T.s, rfl, sqT_mono sb ?_⟩
        have : ∀ {ds : List D} {vs : List V} {ts : List T}, strsOf ds = some ts → Reps G S ds vs → vs = (ts.map T.s).map V.str := by
          intro ds
          induction ds with
          | nil => intro vs ts e r; cases e; cases r; rfl
          | cons d ds ih =>
            intro vs ts e r
            cases r with
            | cons r1 r2 =>
              cases d with
              | str t =>
                cases r1
                cases e2 : strsOf ds with
                | none => simp [strsOf, e2] at e
                | some ts' =>
                  simp only [strsOf, e2, Option.map_some, Option.some.injEq] at e
                  subst e
                  rw [ih e2 r2]
                  rfl
              | _ => simp [strsOf] at e
        rw [this e h2] at h1
        exact h1
  | _ => cases h
section
variable {X : Cx} {G : Gd} {W : WX} {tg e o i : Expr} {f fo fi : EV} {pos p2 : Pos}
theorem c_lenX : CallS G (c1 fLenX) (rLenX G.K G.w) := c1_s fun z d τ v W Q c rh q => by
  have gen : Run G (RepU G) (fLenD d τ) W z Q → rLenX G.K G.w [v] z.H Q := fun q => .inl (c_lenD z [d] τ [v] W Q c (.cons rh .nil) q)
  cases d with
  | dcx kvs x =>
    cases rh with
    | sh h =>
      cases h with
      | dcx h1 h2 h3 =>
        refine .inr ⟨_, _, _, _, rfl, c.sub _ _ h1, ?_⟩
        rw [← h2.length]
        exact Run.ok (rep := RepU G) q c (.d (.int _))
  | _ => exact gen q
theorem v_getX (hu : X.A.units + 64 < cLine) (hK : X.K = G.K) (hw : X.w = G.w) (ho : PE X o (VE G W fo)) (hi : PE X i (VE G W fi)) (hs : NoSl i) : PE X (.Subscript o i pos) (VE G W (eDGetX fo fi)) :=
  ve_step2 (pe_getX hu ho hi hs) (r := fun x y H Q => ∃ a v, x = .ref a ∧ GetX X.K X.w H a y v ∧ Q v H) (fun _ _ _ h => h) fun z u w τ x y W Q c r1 r2 q => by
    have gen : Run G (RepU G) (gDGet u w τ) W z Q → ∃ a v, x = V.ref a ∧ GetX X.K X.w z.H a y v ∧ Q v z.H := fun q => by
      unfold gDGet at q
      cases e1 : vw τ u with
      | none => rw [e1] at q; exact q.elim
      | some d =>
        rw [e1] at q
        have rh := vw_rep c r1 e1
        cases r2 with
        | loc h2 => cases d <;> exact q.elim
        | fn => cases d <;> exact q.elim
        | @d y' _ r2 =>
          cases d with
          | dct kvs =>
            simp only at q
            cases e2 : y'.ky with
            | none => rw [e2] at q; exact q.elim
            | some k =>
              rw [e2] at q
              simp only at q
              cases e3 : dget kvs k with
              | none => rw [e3] at q; exact q.elim
              | some x0 =>
                rw [e3] at q
                obtain ⟨a, ps, rfl, h1, h2⟩ := rh.dct_ c
                obtain ⟨v, h3, h4⟩ := h2.get e3
                exact ⟨a, v, rfl, .inl (.inl ⟨ps, k.k, h1, rep_ky e2 r2, h3.symm⟩), Run.ok (rep := RepU G) q c (.d h4)⟩
          | _ => exact q.elim
    unfold gDGetX at q
    split at q
    · rename_i kvs x0 t
      by_cases hx : oddD x0 = true
      · rw [if_pos hx] at q
        cases e3 : dget kvs (.inr t) with
        | none => rw [e3] at q; exact q.elim
        | some y0 =>
          rw [e3] at q
          cases r1 with
          | d r1 =>
            cases r2 with
            | d r2 =>
              cases r2
              cases r1 with
              | dcx h1 h2 h3 =>
                obtain ⟨v, g3, g4⟩ := h2.get e3
                exact ⟨_, v, rfl, .inr ⟨_, _, _, _, by rw [hw]; exact c.sub _ _ h1, by rw [hK]; exact odd_rep h3 hx c.sub, rfl, g3⟩, Run.ok (rep := RepU G) q c (.d g4)⟩
      · rw [if_neg hx] at q; exact q.elim
    · exact gen q
theorem vi_keysX (he : PE X e (VE G W f)) : PI X tg e (VI G W (dKeysX f)) :=
  pi_weak (pi_keysX (w := G.w) he) fun σ H Rr ⟨z, ρ, τ, hz, c, en, q⟩ => ⟨z, ρ, τ, hz, c, en, (Run.bind q).imp fun v H1 ⟨z1, u, τ1, e1, f, c1, r1, q1⟩ => by
    subst e1
    cases u with
    | loc n => exact q1.elim
    | fn => exact q1.elim
    | d x =>
      cases x with
      | dct kvs =>
        cases r1 with
        | d r1 =>
          cases r1 with
          | @dct a o ps _ h1 h2 =>
            refine .inl ⟨a, o, ps, rfl, c1.sub _ _ h1, Run.ok (rep := fun z' ds J => ItOk G z' ds J) q1 c1 ?_⟩
            have w := walk_keys (d := a) (o := o) (kvs := ps)
            have rk := reps_keys h2
            have hl : (kvs.map fun p => p.1.d).length = ps.length := by rw [rk.length, List.length_map]
            refine ⟨fun i z2 τ f c hi => w.goes i z2.H (by rw [← hl]; exact hi) (c.sub _ _ (f.ss _ _ h1)), fun z2 τ f c => by rw [hl]; exact w.stops z2.H (c.sub _ _ (f.ss _ _ h1)), fun i z2 τ x H' f c hi y => ?_⟩
            obtain ⟨e1, k, v, e2, e3⟩ := w.yields i z2.H x H' (by rw [← hl]; exact hi) (c.sub _ _ (f.ss _ _ h1)) y
            subst e1
            obtain ⟨d, q2, q3⟩ := rk.get' (i := i) (v := kV k) (by rw [List.getElem?_map, e2]; rfl)
            exact ⟨z2, d, rfl, Fut.refl _, c, rfl, q2, by rw [e3]; exact Rep.mono f.ss _ _ q3⟩
      | dcx kvs x0 =>
        cases r1 with
        | d r1 =>
          cases r1 with
          | @dcx a o ps _ _ v h1 h2 h3 =>
            refine .inr ⟨a, o, ps, v, rfl, c1.sub _ _ h1, Run.ok (rep := fun z' ds J => ItOk G z' ds J) q1 c1 ?_⟩
            have w := walk_x2 (w := G.w) (d := a) (o := o) (kvs := ps) (v := v)
            have rk : Reps G z1.S ((kvs.map fun p => p.1.d) ++ [x0]) ((ps.map fun p => kV p.1) ++ [v]) := (reps_keys h2).append (.cons h3 .nil)
            have hl : ((kvs.map fun p => p.1.d) ++ [x0]).length = ps.length + 1 := by rw [rk.length]; simp
            refine ⟨fun i z2 τ f c hi => w.goes i z2.H (by rw [← hl]; exact hi) (c.sub _ _ (f.ss _ _ h1)), fun z2 τ f c => by rw [hl]; exact w.stops z2.H (c.sub _ _ (f.ss _ _ h1)), fun i z2 τ x H' f c hi y => ?_⟩
            obtain ⟨e1, e2⟩ := w.yields i z2.H x H' (by rw [← hl]; exact hi) (c.sub _ _ (f.ss _ _ h1)) y
            subst e1
            obtain ⟨d, q2, q3⟩ := rk.get' (i := i) e2
            exact ⟨z2, d, rfl, Fut.refl _, c, rfl, q2, Rep.mono f.ss _ _ q3⟩
      | _ => exact q1.elim⟩
theorem s_putX (hu : X.A.units + 64 < cLine) (hK : X.K = G.K) (hw : X.w = G.w) (he : PE X e (VE G W f)) (ho : PE X o (VE G W fo)) (hi : PE X i (VE G W fi)) (hs : swapsWith e (some (.Subscript o i p2)) pos.line X.env = pure false := by rfl) :
    PS X (.Assign [.Subscript o i p2] e pos) (VS G W (gPutX fo fi f)) :=
  ps_weak (ps_putX hu ho hi he hs) fun D σ H ⟨z, ρ, τ, hz, c, en, q⟩ => ⟨z, ρ, τ, hz, c, en, (RunS.lift (rep := RepU G) en q).imp fun v H1 ⟨z1, u, τ1, e1, f1, c1, r1, q1⟩ => by
    subst e1
    cases e2 : frz τ1 u with
    | none => rw [e2] at q1; exact q1.elim
    | some pr =>
      obtain ⟨x, τ2⟩ := pr
      rw [e2] at q1
      simp only at q1
      obtain ⟨z2, h2, f2, c2, rx, m2⟩ := frz_ok c1 r1 e2
      have en2 := en.fut (f1.trans f2)
      rw [← h2]
      refine ⟨z2, ρ, τ2, rfl, c2, en2, (RunS.lift (rep := RepU G) en2 (RunS.pre q1 f2)).imp fun vo H3 ⟨z3, uo, τ3, e3, f3, c3, r3, q3⟩ => ?_⟩
      subst e3
      have en3 := en2.fut f3
      refine ⟨z3, ρ, τ3, rfl, c3, en3, (RunS.lift (rep := RepU G) en3 q3).imp fun vi H4 ⟨z4, ui, τ4, e4, f4, c4, r4, q4⟩ => ?_⟩
      subst e4
      have r3 := r3.fut f4
      have en4 := en3.fut f4
      match uo, ui, r3, r4, q4 with
      | .loc n, .d y, @RepU.loc _ _ _ a hm, @RepU.d _ _ _ _ hk, q4 =>
        simp only [putX] at q4
        have rx4 := Rep.mono (f3.trans f4).ss _ _ rx
        cases e5 : τ4[n]? with
        | none => rw [e5] at q4; exact q4.elim
        | some cl =>
          rw [e5] at q4
          cases cl with
          | dct kvs =>
            obtain ⟨s5, ws, t5, t6⟩ := c4.at_ n _ _ hm e5
            cases e6 : y.ky with
            | none =>
              rw [e6] at q4
              cases x with
              | int i1 =>
                simp only at q4
                by_cases hl : i1 = 1 ∧ oddD y = true ∧ kvs.length < sizeLine
                · rw [if_pos hl] at q4
                  have q5 := q4
                  obtain ⟨ei, hy, hl⟩ := hl
                  subst ei
                  cases rx4
                  refine ⟨a, rfl, .inr ⟨ws, t5, by rw [← t6.length]; exact hl, by rw [hK]; exact odd_rep hk hy c4.sub, rfl, fun o => ?_⟩⟩
                  have ff := fut_set (o' := .frz o (oddO X.w a ws vi)) t5 (List.mem_of_getElem? hm) trivial
                  exact q5 _ σ ff (cells_set c4 hm t5 s5 trivial ⟨s5, o, ws, vi, by rw [← hw]; exact upd_same, t6, hk⟩) (en4.fut ff)
                · rw [if_neg hl] at q4; exact q4.elim
              | _ => exact q4.elim
            | some k =>
              rw [e6] at q4
              simp only at q4
              by_cases hl : kvs.length < sizeLine
              · rw [if_pos hl] at q4
                refine ⟨a, rfl, .inl ⟨_, .inl ⟨ws, k.k, t5, rep_ky e6 hk, by rw [← t6.length]; exact hl, rfl⟩, ?_⟩⟩
                have ff := fut_set (o' := .dK (putK ws k.k v)) t5 (List.mem_of_getElem? hm) trivial
                exact q4 _ σ ff (cells_set c4 hm t5 s5 trivial ⟨s5, _, upd_same, t6.put rx4⟩) (en4.fut ff)
              · rw [if_neg hl] at q4; exact q4.elim
          | _ => cases y.ky <;> exact q4.elim⟩
end
end VL

/-! The value layer, M5: properties and methods of own classes. -/
namespace VL
open PySem PySem.Spec PyProof.Rows L2 LamX
theorem RepF.look_no {G : Gd} {S : Hp} {f : T} : ∀ {fs : List (T × D)} {ps : List (Str × V)}, RepF G S fs ps → fs.lookup f = none → ps.lookup f.s = none
  | [], _, h, _ => by cases h; rfl
  | (k, x) :: fs, _, h, e => by
    cases h with
    | cons h1 h2 =>
      rw [List.lookup_cons] at e ⊢
      by_cases q : f = k
      · rw [show (f == k) = true by simp [q]] at e; cases e
      · have q2 : ¬ f.s = k.s := fun z => q (T.inj z)
        rw [show (f == k) = false by simp [q]] at e
        rw [show (f.s == k.s) = false by simp [q2]]
        exact RepF.look_no h2 e
/-- x.f, f a property: nothing is raised -/
def gProp (c : Nat) (F : List U → Store → R U) (u : U) (τ : Store) : R U := match vw τ u with
  | some (.ins c' _) => if c' = c then match F [u] τ with
    | .exc _ _ _ => .bad
    | r => r
    else .bad
  | _ => .bad
def eProp (c : Nat) (F : List U → Store → R U) (fo : EV) : EV := fun ρ τ => (fo ρ τ).bind fun u τ1 => gProp c F u τ1
/-- x.m(..) -/
def gMeth (c n : Nat) (m : T) (os : List Nat) (dvs : List D) (F : List U → Store → R U) (a b : Nat) (u : U) (us ws : List U) (τ : Store) : R U :=
  if us.length = a ∧ ws.length = b then F (pickL os (((u :: us) ++ ws) ++ dvs.map U.d)) τ else .bad
def eMeth (c n : Nat) (m : T) (os : List Nat) (dvs : List D) (F : List U → Store → R U) (a b : Nat) (fo : EV) (fs fk : EL) : EV := fun ρ τ => (fo ρ τ).bind fun u τ1 => match vw τ1 u with
  | some (.ins c' ps) => if c' = c ∧ ps.lookup m = none then (fs ρ τ1).bind fun us τ2 => (fk ρ τ2).bind fun ws τ3 => gMeth c n m os dvs F a b u us ws τ3 else .bad
  | _ => .bad
section
variable {X : Cx} {G : Gd} {W : WX} {k n c : Nat} {p g : Addr} {f : Str} {fd : FuncData} {ps ks : List Str} {F : List U → Store → R U} {e o : Expr} {es : List Expr} {kws : List Keyword} {fo : EV} {fs fk : EL} {pos apos : Pos}
theorem v_prop (Vf : FnV X.prog X.w X.K X.mg X.base k g fd ps (spV G 1 F)) (hr : Room (k + 1) X.A) (hgd : X.A.guards = some []) (cl : Cls X.K (G.ca c)) (hp : PropOf X.K (G.ca c) f p g) (hb : Bnd0 fd ps 1) (he : PE X e (VE G W fo)) (hab : attributeBase e f X.env (eval e X.env) = eval e X.env := by rfl) :
    PE X (.Attribute e f pos) (VE G W (eProp c F fo)) := by
  constructor
  intro pins s σ H Q I ⟨z, ρ, τ, hz, cc, en, q⟩
  refine attr_of hab (thn (he.run pins s σ H _ I ⟨z, ρ, τ, hz, cc, en, Run.bind q⟩) ?_)
  rintro u s1 ⟨v, H1, I1, rv, z1, uu, τ1, rfl, f1, c1, r1, q1⟩
  unfold gProp at q1
  cases e1 : vw τ1 uu with
  | none => rw [e1] at q1; exact q1.elim
  | some d =>
    rw [e1] at q1
    have rh := vw_rep c1 r1 e1
    cases d with
    | ins c' fs =>
      simp only at q1
      by_cases hc' : c' = c
      · rw [if_pos hc'] at q1
        subst hc'
        obtain ⟨a, dx, vs, rfl, ea, _⟩ := rh.ins_ c1
        obtain rfl : u = Value.ref a := rv
        have hh : spV G 1 F [.ref a] z1.H Q (fun _ _ _ => False) := by
          refine ⟨z1, [uu], τ1, rfl, c1, .cons r1 .nil, rfl, ?_⟩
          cases er : F [uu] τ1 with
          | bad => rw [er] at q1; exact q1
          | exc _ _ _ => rw [er] at q1; exact q1.elim
          | ok _ _ => rw [er] at q1; exact q1
        obtain ⟨mA, O, _, _, _, _⟩ := ins_get I1.hok ea
        obtain ⟨od, J, _⟩ := O.look
        obtain ⟨rest, hrec⟩ := hp.rec_
        have I2 := I1.tok (s1.toks + 1)
        have hcs : (PySem.W.clsIn X.K (G.ca c')).isSome = true := by
          obtain ⟨cd, hc, _⟩ := PySem.W.any_some cl.hd
          rw [hc]
          rfl
        refine PySem.W.get_bind I1.kIn J (PySem.W.plainGet_of (cl.get f)).1 (PySem.W.findObj_data hcs hp.at_ hp.get hp.tak) (PySem.W.plainGet_of (cl.get f)).2 (wpAny_call (PySem.W.prop_get (s := { s1 with toks := s1.toks + 1 }) I1.kIn hrec ?_))
        refine codeAny_mono (Vf.run X.A.in1 X.stack { s1 with toks := s1.toks + 1 } z1.H ⟨[.ref a], []⟩ [.ref a] [.ref a] Q (fun _ _ _ => False) hr.in1 (by rw [in1_guards]; exact hgd) I2.env0.in1 (hb.to _ [.ref a] rfl) (.cons rfl .nil) hh) fun r s' hq => ?_
        match r, hq with
        | .error er, hq =>
          obtain ⟨a, B, H', cls, d, ea, fl, hok, ub, na, os, ag, hx⟩ := hq
          exact hx.elim
        | .ok (.ret u), hq =>
          obtain ⟨v, H', I3, rv, q3⟩ := I2.after hq
          show wpAny _ _ (handedOut u) _ _ _
          rw [PySem.W.handedOut_of (handed_of rv)]
          exact wpAny_pure ⟨v, H', I3, rv, q3⟩
      · rw [if_neg hc'] at q1; exact q1.elim
    | _ => exact q1.elim
theorem v_meth {m : Str} {mt : T} {a b : Nat} {os : List Nat} {dvs : List D} {vds : List V} {ds : List Value} {pl : Sem Bool} (Vf : FnV X.prog X.w X.K X.mg X.base k g fd ps (spV G n F)) (hK : X.K = G.K) (hr : Room k X.A) (hgd : X.A.guards = some []) (tk : Takes X W) (cl : Cls X.K (G.ca c)) (hm : Meth X.K (G.ca c) m g) (em : m = mt.s)
    (hb : Bnd X.K fd ps (a + 1) ks ds os) (hd : Vals vds ds) (hds : ∀ S, Reps G S dvs vds) (hps : ps.length = n) (hmk : ks.length = b) (hos : ∀ l : List U, l.length = a + 1 + b + dvs.length → (pickL os l).length = n)
    (ho : PE X o (VE G W fo)) (ha : PA X (e :: es) (VA G W fs)) (hkw : PK X kws (VA G W fk)) (hall : (backToKw pos (keywordEach kws X.env)).all (·.1.isSome) = true := by rfl) (hks : (backToKw pos (keywordEach kws X.env)).filterMap (·.1) = ks := by rfl)
    (he : starEach (e :: es) X.env = (false, eval e X.env) :: starEach es X.env := by rfl) (hpl : ((backTo pos (starEach (e :: es) X.env)).any (·.1) || (backToKw pos (keywordEach kws X.env)).any (·.1.isNone)) = false := by rfl)
    (ht : eval (.Call (.Attribute o m apos) (e :: es) kws pos) X.env = (do
      let ov ← eval o X.env
      standAt apos.atName
      let (f, first) ← holding [ov] (getMethod ov m pl)
      callWith pos f first (backTo pos (starEach (e :: es) X.env)) (backToKw pos (keywordEach kws X.env))) := by rfl) :
    PE X (.Call (.Attribute o m apos) (e :: es) kws pos) (VE G W (eMeth c n mt os dvs F a b fo fs fk)) := by
  constructor
  intro pins s σ H Q I ⟨z, ρ, τ, hz, cc, en, q⟩
  refine PySem.W.methodCall_KW (pl := pl) (thn (ho.run pins s σ H _ I ⟨z, ρ, τ, hz, cc, en, Run.bind q⟩) ?_) ht
  rintro u s1 ⟨v, H1, I1, rv, z1, uu, τ1, rfl, f1, c1, r1, q1⟩
  cases e1 : vw τ1 uu with
  | none => rw [e1] at q1; exact q1.elim
  | some d =>
    rw [e1] at q1
    have rh := vw_rep c1 r1 e1
    cases d with
    | ins c' fs' =>
      simp only at q1
      by_cases hc' : c' = c ∧ fs'.lookup mt = none
      · rw [if_pos hc'] at q1
        obtain ⟨rfl, hl⟩ := hc'
        obtain ⟨ad, dx, vs, rfl, ea, rf⟩ := rh.ins_ c1
        obtain rfl : u = Value.ref ad := rv
        refine getmeth_ok I1 ea cl hm (by rw [em]; exact rf.look_no hl) ?_
        have h1 := ha.run pos pins s1 σ z1.H _ I1 ⟨z1, ρ, τ1, rfl, c1, en.fut f1, Run.bind q1⟩
        refine PySem.W.callWith_KW (first := [.ref ad]) (h₀ := X.base) I1.ok.mod.kin hm.kp hall (thn h1 fun us s2 hq => ?_) hpl he
        obtain ⟨xs, H2, I2, r2, z2, uu2, τ2, e2, f2, c2, ru2, q2⟩ := hq
        subst e2
        have h2 := hkw.run pos pins s2 σ z2.H _ I2 ⟨z2, ρ, τ2, rfl, c2, (en.fut f1).fut f2, Run.bind q2⟩
        refine thn h2 fun ws s3 hq3 => ?_
        obtain ⟨ys, H3, I3, r3, z3, wu, τ3, e3, f3, c3, rw3, q3⟩ := hq3
        subst e3
        refine ⟨I3.kIn, ?_⟩
        rw [hks]
        unfold gMeth at q3
        by_cases hln : uu2.length = a ∧ wu.length = b
        · rw [if_pos hln] at q3
          have ru : RepUs G z3 (uu :: uu2) (.ref ad :: xs) := .cons ((r1.fut f2).fut f3) (ru2.fut f3)
          refine kw_run (m := b) Vf hr hgd tk hb hd hds I3 (us := .ref ad :: us) (vs := .ref ad :: xs) (.cons rfl r2) r3 c3 ru rw3 hps hmk (by intro l hl2; exact hos l (by omega)) ?_
          unfold gCallK
          rw [if_pos ⟨by simp [hln.1], hln.2⟩]
          exact q3
        · rw [if_neg hln] at q3; exact q3.elim
      · rw [if_neg hc'] at q1; exact q1.elim
    | _ => exact q1.elim
theorem v_methK {m : Str} {mt : T} {b : Nat} {os : List Nat} {dvs : List D} {vds : List V} {ds : List Value} {pl : Sem Bool} (Vf : FnV X.prog X.w X.K X.mg X.base k g fd ps (spV G n F)) (hK : X.K = G.K) (hr : Room k X.A) (hgd : X.A.guards = some []) (tk : Takes X W) (cl : Cls X.K (G.ca c)) (hm : Meth X.K (G.ca c) m g) (em : m = mt.s)
    (hb : Bnd X.K fd ps 1 ks ds os) (hd : Vals vds ds) (hds : ∀ S, Reps G S dvs vds) (hps : ps.length = n) (hmk : ks.length = b) (hos : ∀ l : List U, l.length = 0 + 1 + b + dvs.length → (pickL os l).length = n)
    (ho : PE X o (VE G W fo)) (hkw : PK X kws (VA G W fk)) (hall : (backToKw pos (keywordEach kws X.env)).all (·.1.isSome) = true := by rfl) (hks : (backToKw pos (keywordEach kws X.env)).filterMap (·.1) = ks := by rfl)
    (hpl : ((backTo pos (starEach [] X.env)).any (·.1) || (backToKw pos (keywordEach kws X.env)).any (·.1.isNone)) = false := by rfl)
    (ht : eval (.Call (.Attribute o m apos) [] kws pos) X.env = (do
      let ov ← eval o X.env
      standAt apos.atName
      let (f, first) ← holding [ov] (getMethod ov m pl)
      callWith pos f first (backTo pos (starEach [] X.env)) (backToKw pos (keywordEach kws X.env))) := by rfl) :
    PE X (.Call (.Attribute o m apos) [] kws pos) (VE G W (eMeth c n mt os dvs F 0 b fo elNil fk)) := by
  constructor
  intro pins s σ H Q I ⟨z, ρ, τ, hz, cc, en, q⟩
  refine PySem.W.methodCall_KW (pl := pl) (thn (ho.run pins s σ H _ I ⟨z, ρ, τ, hz, cc, en, Run.bind q⟩) ?_) ht
  rintro u s1 ⟨v, H1, I1, rv, z1, uu, τ1, rfl, f1, c1, r1, q1⟩
  cases e1 : vw τ1 uu with
  | none => rw [e1] at q1; exact q1.elim
  | some d =>
    rw [e1] at q1
    have rh := vw_rep c1 r1 e1
    cases d with
    | ins c' fs' =>
      simp only at q1
      by_cases hc' : c' = c ∧ fs'.lookup mt = none
      · rw [if_pos hc'] at q1
        obtain ⟨rfl, hl⟩ := hc'
        obtain ⟨ad, dx, vs, rfl, ea, rf⟩ := rh.ins_ c1
        obtain rfl : u = Value.ref ad := rv
        refine getmeth_ok I1 ea cl hm (by rw [em]; exact rf.look_no hl) ?_
        have q1 : Run G (RepU G) ((fk ρ τ1).bind fun ws τ3 => gMeth c' n mt os dvs F 0 b uu [] ws τ3) (fun c d H' => W c d σ H') z1 Q := q1
        have h2 := hkw.run pos pins s1 σ z1.H _ I1 ⟨z1, ρ, τ1, rfl, c1, en.fut f1, Run.bind q1⟩
        refine PySem.W.callWith_KW0 (first := [.ref ad]) (h₀ := X.base) I1.ok.mod.kin hm.kp hall (thn h2 fun ws s3 hq3 => ?_) hpl
        obtain ⟨ys, H3, I3, r3, z3, wu, τ3, e3, f3, c3, rw3, q3⟩ := hq3
        subst e3
        refine ⟨I3.kIn, ?_⟩
        rw [hks]
        unfold gMeth at q3
        by_cases hln : ([] : List U).length = 0 ∧ wu.length = b
        · rw [if_pos hln] at q3
          refine kw_run (a := 1) (m := b) Vf hr hgd tk hb hd hds I3 (us := [.ref ad]) (vs := [.ref ad]) (.cons rfl .nil) r3 c3 (.cons (r1.fut f3) .nil) rw3 hps hmk (by intro l hl2; exact hos l (by omega)) ?_
          unfold gCallK
          rw [if_pos ⟨rfl, hln.2⟩]
          exact q3
        · rw [if_neg hln] at q3; exact q3.elim
      · rw [if_neg hc'] at q1; exact q1.elim
    | _ => exact q1.elim
end
/-- C(e, .., k = v), defaults behind -/
def gMakeD (c : Nat) (F : List U → Store → R U) (os : List Nat) (dvs : List D) (us ws : List U) (τ : Store) : R U := match F (pickL os (((.loc τ.length :: us) ++ ws) ++ dvs.map U.d)) (τ ++ [.ins c []]) with
  | .ok (.d .non) τ1 => match τ1[τ.length]? with
    | some (.ins c' fs) => .ok (.d (.ins c' fs)) (τ1.take τ.length)
    | _ => .bad
  | .exc e fs τ1 => .exc e fs (τ1.take τ.length)
  | _ => .bad
def eMakeD (c n m : Nat) (F : List U → Store → R U) (os : List Nat) (dvs : List D) (fs fk : EL) : EV := fun ρ τ => (fs ρ τ).bind fun us τ1 => (fk ρ τ1).bind fun ws τ2 => if us.length = n ∧ ws.length = m then gMakeD c F os dvs us ws τ2 else .bad
section
variable {X : Cx} {G : Gd} {W : WX} {k n : Nat} {f : Addr} {fd : FuncData} {ps ks : List Str} {F : List U → Store → R U} {os : List Nat} {c : Nat}
theorem make_runD {m a : Nat} {dvs : List D} {vds : List V} {ds : List Value} {kw : List Str} {pins : List (Addr × Obj)} {σ : L2.St} {s : Shared} {Q : VK} {us ws : List Value} {vs xs : List V} {z : Z} {uu wu : List U} {τ : Store} (M : Mk X.K (G.ca c) f) (Vf : FnV X.prog X.w X.K X.mg X.base k f fd ps (spV G n F)) (hr : Room (k + 1) X.A) (hgd : X.A.guards = some []) (tk : Takes X W)
    (hb : Bnd X.K fd ps (a + 1) kw ds os) (hd : Vals vds ds) (hds : ∀ S, Reps G S dvs vds) (I : Inv X pins σ z.H s) (r : Vals vs us) (r' : Vals xs ws) (cc : Cells G z τ) (ru : RepUs G z uu vs) (rw' : RepUs G z wu xs) (hps : ps.length = n) (hmk : kw.length = m) (hos : ∀ l : List U, l.length = a + 1 + m + dvs.length → (pickL os l).length = n)
    (q : Run G (RepU G) (if uu.length = a ∧ wu.length = m then gMakeD c F os dvs uu wu τ else .bad) (fun c d H' => W c d σ H') z Q) : wpAny (model X.prog X.w) X.A (call (.ref (G.ca c)) us (kw.zip ws)) (EP X pins σ Q) X.xe s := by
  by_cases hl : uu.length = a ∧ wu.length = m
  · rw [if_pos hl] at q
    have hx : z.H (s.heap.objs.size + 1) = none := I.hok.fresh (Nat.le_succ _)
    have hdx : z.H s.heap.objs.size = none := I.hok.fresh (Nat.le_refl _)
    have hne : s.heap.objs.size + 1 ≠ s.heap.objs.size := Nat.succ_ne_self _
    generalize hX : s.heap.objs.size + 1 = x at hx hne
    generalize hD : s.heap.objs.size = dx at hdx hne
    have c1 := cells_sh (o := .own x) cc hdx
    have f1 := fut_sh (o := .own x) (cc.none_ hdx) hdx
    have hx1 : upd z.H dx (.own x) x = none := (upd_ne hne).trans hx
    have sx1 : upd z.S dx (.own x) x = none := (upd_ne hne).trans (cc.none_ hx)
    have c2 := cells_own (o := .ins (G.ca c) dx []) (cl := .ins c []) c1 hx1 trivial ⟨sx1, dx, [], upd_same, .nil⟩
    have f2 := fut_own (z := ⟨upd z.S dx (.own x), upd z.H dx (.own x), z.ms⟩) (o := .ins (G.ca c) dx []) hx1
    have ff := f1.trans f2
    have hix : (z.ms ++ [x])[τ.length]? = some x := by rw [← cc.len, List.getElem?_append_right (Nat.le_refl _)]; simp
    have I2 := Inv.made (C := G.ca c) I
    have r1 : Vals (V.ref x :: vs) (Value.ref x :: us) := .cons rfl r
    have hh := hos (((.loc τ.length :: uu) ++ wu) ++ dvs.map U.d) (by simp only [List.length_append, List.length_cons, List.length_map, hl.1, hl.2])
    have rall : RepUs G ⟨upd z.S dx (.own x), upd (upd z.H dx (.own x)) x (.ins (G.ca c) dx []), z.ms ++ [x]⟩ (((.loc τ.length :: uu) ++ wu) ++ dvs.map U.d) (((V.ref x :: vs) ++ xs) ++ vds) := ((RepUs.cons (.loc hix) (RepUs.fut ff ru)).append (RepUs.fut ff rw')).append (reps_consts hds)
    have run : Run G (RepU G) (F (pickL os (((.loc τ.length :: uu) ++ wu) ++ dvs.map U.d)) (τ ++ [.ins c []])) (fun c d H' => W c d σ H') ⟨upd z.S dx (.own x), upd (upd z.H dx (.own x)) x (.ins (G.ca c) dx []), z.ms ++ [x]⟩ (fun v H2 => v = .non ∧ Q (.ref x) H2) := by
      unfold gMakeD at q
      cases eF : F (pickL os (((.loc τ.length :: uu) ++ wu) ++ dvs.map U.d)) (τ ++ [.ins c []]) with
      | bad => rw [eF] at q; exact q.elim
      | exc e fs τ1 =>
        rw [eF] at q
        intro z' dd ws' f' c' s' r'
        exact q (z'.back τ.length) dd ws' (fut_back cc (ff.trans f')) (cells_back c' _) s' r'
      | ok u τ1 =>
        rw [eF] at q
        match u, q with
        | .d .non, q =>
          simp only at q
          intro z' b f' c' rb
          cases rb with
          | d rb =>
            cases rb
            refine ⟨rfl, ?_⟩
            have hix' := pre_get f'.pre hix
            cases e2 : τ1[τ.length]? with
            | none => rw [e2] at q; exact q.elim
            | some cl =>
              rw [e2] at q
              have w := c'.at_ _ _ _ hix' e2
              cases cl with
              | ins c'' fs =>
                obtain ⟨hs, dx2, ps2, h1, h2⟩ := w
                have mem := List.mem_of_getElem? hix'
                have f3 : Fut z' ⟨upd z'.S x (.ins (G.ca c'') dx2 ps2), z'.H, z'.ms⟩ := fut_frz hs mem
                have c3 := cells_frz c' hix' h1 hs
                have ct : (τ1.set τ.length .dead).take τ.length = τ1.take τ.length := by
                  rw [List.take_set, List.set_eq_of_length_le (by rw [List.length_take]; omega)]
                refine q ((⟨upd z'.S x (.ins (G.ca c'') dx2 ps2), z'.H, z'.ms⟩ : Z).back τ.length) (.ref x) (fut_back cc ((ff.trans f').trans f3)) (by rw [← ct]; exact cells_back c3 _) (.d (.ins upd_same (RepF.mono (same_upd hs) _ _ h2)))
              | _ => exact q.elim
        | .loc _, q => exact q.elim
    have hv : spV G n F (pickL os (((V.ref x :: vs) ++ xs) ++ vds)) (upd (upd z.H dx (.own x)) x (.ins (G.ca c) dx [])) (fun v H2 => v = .non ∧ Q (.ref x) H2) (fun c d H' => W c d σ H') :=
      ⟨_, _, _, rfl, c2, pick_reps rall, hh, run⟩
    subst hX hD
    refine wpAny_call (make_map (f := f) I.kIn M.makes M.init (beq_iff_eq.mp M.fn) (codeAny_mono (Vf.run _ X.stack _ _ ⟨Value.ref (s.heap.objs.size + 1) :: us, kw.zip ws⟩ (pickL os ((Value.ref (s.heap.objs.size + 1) :: us) ++ ws ++ ds)) _ _ _ (hr.make (G.ca c) us (kw.zip ws))
      (make_guards hgd) (I2.env0.make (G.ca c) us (kw.zip ws)) (hb.to _ (Value.ref (s.heap.objs.size + 1) :: us) ws I2.kIn (by rw [List.length_cons, ← r.length, ← ru.length, hl.1]) (by rw [← r'.length, ← rw'.length, hl.2, hmk])) (pick_vals ((r1.append r').append hd)) hv) fun r s' hq' => ?_))
    cases r with
    | error e => exact passAt tk σ pins _ _ e s' I2 hq'
    | ok fl =>
      cases fl with
      | ret u =>
        obtain ⟨v, H', I3, rv, ev, q3⟩ := I2.after hq'
        subst ev
        exact ⟨rv, ⟨V.ref (s.heap.objs.size + 1), H', I3, rfl, q3⟩⟩
      | next => exact False.elim hq'
      | brk => exact False.elim hq'
      | cont => exact False.elim hq'
  · rw [if_neg hl] at q; exact q.elim
theorem v_makeP {m a : Nat} {dvs : List D} {vds : List V} {ds : List Value} {x : Str} {p pos : Pos} {e : Expr} {es : List Expr} {kws : List Keyword} {fs fk : EL} (M : Mk X.K (G.ca c) f) (Vf : FnV X.prog X.w X.K X.mg X.base k f fd ps (spV G n F)) (hr : Room (k + 1) X.A) (hgd : X.A.guards = some []) (tk : Takes X W) (hm : X.mg x = some (.ref (G.ca c)))
    (hb : Bnd X.K fd ps (a + 1) ks ds os) (hd : Vals vds ds) (hds : ∀ S, Reps G S dvs vds) (hps : ps.length = n) (hmk : ks.length = m) (hos : ∀ l : List U, l.length = a + 1 + m + dvs.length → (pickL os l).length = n)
    (ha : PA X (e :: es) (VA G W fs)) (hkw : PK X kws (VA G W fk)) (hg : Gl X x) (hall : (backToKw pos (keywordEach kws X.env)).all (·.1.isSome) = true := by rfl) (hks : (backToKw pos (keywordEach kws X.env)).filterMap (·.1) = ks := by rfl)
    (hdb : (x == ("__debug__" : Str)) = false := by decide) (he : starEach (e :: es) X.env = (false, eval e X.env) :: starEach es X.env := by rfl)
    (hpl : ((backTo pos (starEach (e :: es) X.env)).any (·.1) || (backToKw pos (keywordEach kws X.env)).any (·.1.isNone)) = false := by rfl) : PE X (.Call (.Name x p) (e :: es) kws pos) (VE G W (eMakeD c a m F os dvs fs fk)) := by
  constructor
  intro pins s σ H Q I ⟨z, ρ, τ, hz, cc, en, q⟩
  refine wpAny_Call_Name_kw (ld_glob I hg hm ?_ hdb)
  have h1 := ha.run pos pins s σ H _ I ⟨z, ρ, τ, hz, cc, en, Run.bind q⟩
  refine PySem.W.callWith_KW (h₀ := X.base) I.ok.mod.kin M.kp hall (thn h1 fun us s1 hq => ?_) hpl he
  obtain ⟨vs, H1, I1, r, z1, uu, τ1, e1, f1, c1, r1, q1⟩ := hq
  subst e1
  have h2 := hkw.run pos pins s1 σ z1.H _ I1 ⟨z1, ρ, τ1, rfl, c1, en.fut f1, Run.bind q1⟩
  refine thn h2 fun ws s2 hq2 => ?_
  obtain ⟨xs, H2, I2, r', z2, wu, τ2, e2, f2, c2, r2, q2⟩ := hq2
  subst e2
  refine ⟨I2.kIn, ?_⟩
  rw [hks]
  exact make_runD M Vf hr hgd tk hb hd hds I2 r r' c2 (r1.fut f2) r2 hps hmk hos q2
/-- C(k = v, ..) -/
theorem v_makeKO {m : Nat} {dvs : List D} {vds : List V} {ds : List Value} {x : Str} {p pos : Pos} {kws : List Keyword} {fk : EL} (M : Mk X.K (G.ca c) f) (Vf : FnV X.prog X.w X.K X.mg X.base k f fd ps (spV G n F)) (hr : Room (k + 1) X.A) (hgd : X.A.guards = some []) (tk : Takes X W) (hm : X.mg x = some (.ref (G.ca c)))
    (hb : Bnd X.K fd ps 1 ks ds os) (hd : Vals vds ds) (hds : ∀ S, Reps G S dvs vds) (hps : ps.length = n) (hmk : ks.length = m) (hos : ∀ l : List U, l.length = 0 + 1 + m + dvs.length → (pickL os l).length = n)
    (hkw : PK X kws (VA G W fk)) (hg : Gl X x) (hall : (backToKw pos (keywordEach kws X.env)).all (·.1.isSome) = true := by rfl) (hks : (backToKw pos (keywordEach kws X.env)).filterMap (·.1) = ks := by rfl)
    (hdb : (x == ("__debug__" : Str)) = false := by decide)
    (hpl : ((backTo pos (starEach [] X.env)).any (·.1) || (backToKw pos (keywordEach kws X.env)).any (·.1.isNone)) = false := by rfl) : PE X (.Call (.Name x p) [] kws pos) (VE G W (eMakeD c 0 m F os dvs elNil fk)) := by
  constructor
  intro pins s σ H Q I ⟨z, ρ, τ, hz, cc, en, q⟩
  refine wpAny_Call_Name_kw (ld_glob I hg hm ?_ hdb)
  have q : Run G (RepU G) ((fk ρ τ).bind fun ws τ2 => if ([] : List U).length = 0 ∧ ws.length = m then gMakeD c F os dvs [] ws τ2 else .bad) (fun c d H' => W c d σ H') z Q := q
  have h2 := hkw.run pos pins s σ H _ I ⟨z, ρ, τ, hz, cc, en, Run.bind q⟩
  refine PySem.W.callWith_KW0 (h₀ := X.base) I.ok.mod.kin M.kp hall (thn h2 fun ws s2 hq2 => ?_) hpl
  obtain ⟨xs, H2, I2, r', z2, wu, τ2, e2, f2, c2, r2, q2⟩ := hq2
  subst e2
  refine ⟨I2.kIn, ?_⟩
  rw [hks]
  exact make_runD (a := 0) M Vf hr hgd tk hb hd hds I2 .nil r' c2 .nil r2 hps hmk hos q2
end
end VL

/-! The value layer, M6: x(lambda a = c: e): a lambda with one default that its body does not name. -/
namespace VL
open PySem PySem.Spec PyProof.Rows L2 LamX
/-- what is called, its defaults at dv -/
abbrev lamFn (qual : Str) (params : Arguments) (body : Expr) (scope : Scope) (cl : List (Str × Addr)) (pm cdv ct dv : Value) : FuncData := { PySem.W.kla_fn "<lambda>" qual params body scope cl pm cdv ct with defaults := dv }
abbrev lamObj (qual : Str) (params : Arguments) (body : Expr) (scope : Scope) (cl : List (Str × Addr)) (pm cdv ct dv : Value) : Obj := { cls := .type "function", data := .func (lamFn qual params body scope cl pm cdv ct dv) }
section
variable {M : Model} {A : Around} {E : Value → Shared → Prop} {s : Shared} {qual : Str} {params : Arguments} {body : Expr} {scope : Scope} {env : PySem.Env} {c P : Addr} {ps : Array Value} {pos : Pos} {fl : Nat} {mg : Str → Option Value} {cl : List (Str × Addr)} {dv : Value} {Q : Value → Shared → Prop}
theorem tail_new (k1 : closureFor scope env = pure cl) (k2 : env.globals = mainGlobals) (k3 : s.heap.Ns mainGlobals mg) (k4 : env.code = .ref c) (C : PySem.W.CodeHd s.heap c P) (k5 : s.heap.get? P = some { cls := .none, data := .fields ps }) (k6 : TriplesOk ps.toList)
    (k7 : codeAmong pos ps.toList = none) (k8 : mainGlobals ≠ P) (k9 : s.heap.BuiltinsAt mg P)
    (q : ∀ c' ct g tk, Heap.ExtBut P s.heap g → s.heap.objs.size ≤ c' → c' < g.objs.size → g.CodeRec (.ref c') qual → g.get? P = some { cls := .none, data := .fields (ps ++ #[rawInt pos.line, rawInt pos.col, .ref c']) } →
      Q (.ref g.objs.size) { s with heap := g.push (lamObj qual params body scope cl ((mg "__name__").getD .none) (.ref c') ct dv), toks := tk }) :
    wpAny M A (makeTail "<lambda>" qual params (.expr body) scope env dv .none none pos fl) Q E s := by
  obtain ⟨bm, ob, b1, b2, _, b3, b4, b5, b6, b7⟩ := k9
  unfold makeTail
  rw [k1, k2]
  refine wpAny_bind (wpAny_pure ?_)
  cases cl with
  | nil =>
    simp only [List.isEmpty_nil, if_true]
    refine wpAny_bind (wpAny_pure (wpAny_bind (wpAny_functionCodeX k4 (C.code k5 k6) (C.tab k5) k7 fun c' g tk e1 e2 e3 _ e4 e5 _ => ?_)))
    have n1 := k3.extBut e1 k8
    refine wpAny_bind (wpAny_builtinsFor n1 b1 b2 (e1 _ _ b3 b4) b5 b6 b7 (wpAny_bind (wpAny_nsGet n1 ?_)))
    exact wpAny_bind (wpAny_pure (wpAny_newObj_type (q c' .none g tk e1 e2 e3 e4 e5.2) (by size_fits)))
  | cons p r =>
    simp only [List.isEmpty_cons, Bool.false_eq_true, if_false]
    refine wpAny_bind (wpAny_newTextTuple (wpAny_bind (wpAny_functionCodeX k4 ((C.keeps fun b o e => Heap.get?_push_of_some _ e).code (Heap.get?_push_of_some _ k5) k6) ((C.keeps fun b o e => Heap.get?_push_of_some _ e).tab (Heap.get?_push_of_some _ k5)) k7 fun c' g tk e1 e2 e3 _ e4 e5 _ => ?_)))
    have n1 := (k3.push _).extBut e1 k8
    have e6 : Heap.ExtBut P s.heap g := fun b o z e => e1 b o z (Heap.get?_push_of_some _ e)
    have e7 : s.heap.objs.size ≤ c' := Nat.le_trans (by rw [Heap.size_push]; omega) e2
    refine wpAny_bind (wpAny_builtinsFor n1 b1 b2 (e6 _ _ b3 b4) b5 b6 b7 (wpAny_bind (wpAny_nsGet n1 ?_)))
    exact wpAny_bind (wpAny_pure (wpAny_newObj_type (q c' _ g tk e6 e7 e3 e4 e5.2) (by size_fits)))
theorem tail_old {cv : Value} (k1 : closureFor scope env = pure cl) (k2 : env.globals = mainGlobals) (k3 : s.heap.Ns mainGlobals mg) (k4 : env.code = .ref c) (C : PySem.W.CodeHd s.heap c P) (k5 : s.heap.get? P = some { cls := .none, data := .fields ps }) (k6 : TriplesOk ps.toList)
    (k7 : codeAmong pos ps.toList = some cv) (k9 : s.heap.BuiltinsAt mg P)
    (q : ∀ (ct : Value) (g : Heap) (tk : Tok), (∀ b o, s.heap.get? b = some o → g.get? b = some o) → s.heap.objs.size ≤ g.objs.size → Q (.ref g.objs.size) { s with heap := g.push (lamObj qual params body scope cl ((mg "__name__").getD .none) cv ct dv), toks := tk }) :
    wpAny M A (makeTail "<lambda>" qual params (.expr body) scope env dv .none none pos fl) Q E s := by
  obtain ⟨bm, ob, b1, b2, _, b3, b4, b5, b6, b7⟩ := k9
  unfold makeTail
  rw [k1, k2]
  refine wpAny_bind (wpAny_pure ?_)
  cases cl with
  | nil =>
    simp only [List.isEmpty_nil, if_true]
    refine wpAny_bind (wpAny_pure (wpAny_bind (wpAny_functionCode_hit k4 (C.code k5 k6) k7 (wpAny_bind (wpAny_builtinsFor k3 b1 b2 b4 b5 b6 b7 (wpAny_bind (wpAny_nsGet k3 ?_)))))))
    exact wpAny_bind (wpAny_pure (wpAny_newObj_type (q .none s.heap s.toks (fun _ _ e => e) (Nat.le_refl _)) (by size_fits)))
  | cons p r =>
    simp only [List.isEmpty_cons, Bool.false_eq_true, if_false]
    refine wpAny_bind (wpAny_newTextTuple (wpAny_bind (wpAny_functionCode_hit k4 ((C.keeps fun b o e => Heap.get?_push_of_some _ e).code (Heap.get?_push_of_some _ k5) k6) k7 (wpAny_bind (wpAny_builtinsFor (k3.push _) b1 b2 (Heap.get?_push_of_some _ b4) b5 b6 b7 (wpAny_bind (wpAny_nsGet (k3.push _) ?_)))))))
    exact wpAny_bind (wpAny_pure (wpAny_newObj_type (q _ _ s.toks (fun b o e => Heap.get?_push_of_some _ e) (by rw [Heap.size_push]; omega)) (by size_fits)))
end
/-- no name of its own but one parameter, which the maker does not have -/
structure LamS1 (N : List Str) (sc scope : Scope) (a1 : Str) : Prop where
  kind : scope.kind = .function
  co : scope.isCoroutine = false
  gen : scope.isGenerator = false
  own : ∀ y ∈ scope.names, y.2 ≠ .cell
  loc : ∀ y ∈ scope.names, y.2 = .local → y.1 ∉ N
  par : scope.names.lookup a1 = some .local
  free : ∀ y ∈ scope.names, y.2 = .free → sc.names.lookup y.1 = some .cell ∨ sc.names.lookup y.1 = some .free
def lamS1B (N : List Str) (sc scope : Scope) (a1 : Str) : Bool :=
  decide (scope.kind = .function) && !scope.isCoroutine && !scope.isGenerator && decide (scope.names.lookup a1 = some .local) && scope.names.all fun y => !decide (y.2 = .cell) && (!decide (y.2 = .local) || !decide (y.1 ∈ N)) && (!decide (y.2 = .free) || decide (sc.names.lookup y.1 = some .cell) || decide (sc.names.lookup y.1 = some .free))
theorem lamS1_by {N : List Str} {sc scope : Scope} {a1 : Str} (h : lamS1B N sc scope a1 = true) : LamS1 N sc scope a1 := by
  unfold lamS1B at h
  simp only [Bool.and_eq_true, Bool.or_eq_true, Bool.not_eq_true', decide_eq_true_eq, decide_eq_false_iff_not, List.all_eq_true] at h
  obtain ⟨⟨⟨⟨h1, h2⟩, h3⟩, h5⟩, h4⟩ := h
  refine ⟨h1, h2, h3, fun y hy => (h4 y hy).1.1, fun y hy e => ?_, h5, fun y hy e => ?_⟩
  · rcases (h4 y hy).1.2 with z | z
    · exact absurd e z
    · exact z
  · rcases (h4 y hy).2 with (z | z) | z
    · exact absurd e z
    · exact .inl z
    · exact .inr z
theorem LamS1.has {X : Cx} {scope : Scope} {a1 : Str} (L : LamS1 X.N X.env.scope scope a1) (ok : X.Ok) : ∀ y ∈ scope.names, y.2 = .free → ∃ c, X.env.cells.lookup y.1 = some c := fun y hy e => (L.free y hy e).elim (fun k => ok.has _ (.inl k)) (fun k => ok.has _ (.inr k))
section
variable {X : Cx} {pins : List (Addr × Obj)} {σ : L2.St} {H HZ : Hp} {s s1 : Shared}
/-- the lambda is made -/
theorem lam_makeD {T : List (Addr × Str)} {c P : Addr} {params : Arguments} {body : Expr} {scope : Scope} {pos p0 : Pos} {Q : Value → Shared → Prop} {i : Int} {j : Nat} (I : Inv X pins σ H s) (TB : TabB X.base X.mg c P) (hcode : X.env.code = .ref c)
    (hm : (P, X.env.qual ++ "<lambda>") ∈ T) (hu : ∀ p ∈ T, p.1 = P → p.2 = X.env.qual ++ "<lambda>") (hT : Tabs T H) (hdef : defaultsOf params X.env = ([eval (.Constant (.int i) j p0) X.env], [])) (hkw : params.kwonlyargs = []) (hfree : ∀ y ∈ scope.names, y.2 = .free → ∃ c, X.env.cells.lookup y.1 = some c)
    (h : ∀ (f c' dt : Addr) (tk : Tok) (od : Obj) (n : Nat) (pm ctv : Value) (H1 : Hp) (s' : Shared), Inv X pins σ H1 s' → ExtN H H1 → Tabs T H1 → s'.heap.get? dt = some od → od.data = .seq #[.int i tk] n → H1 dt = none → dt ∉ frs X.stack →
      s'.heap.get? f = some (lamObj (X.env.qual ++ "<lambda>") params body scope (cloFrom X.env.cells scope.names []) pm (.ref c') ctv (.ref dt)) → H1 f = none → f ∉ frs X.stack → H1 c' = some (CodeO c' (X.env.qual ++ "<lambda>")) → Q (.ref f) s') :
    wpAny (model X.prog X.w) X.A (eval (.Lambda params body scope pos) X.env) Q X.xe s := by
  rw [arm_eval_Lambda, hdef]
  show wpAny _ _ (do let dv ← evalAll [eval (.Constant (.int i) j p0) X.env]; let kdv ← holding dv (evalAllOpt []); makeFunction "<lambda>" (X.env.qual ++ "<lambda>") params (.expr body) scope X.env dv kdv [] pos pos.line) Q X.xe s
  refine wpAny_bind ?_
  show wpAny _ _ (eval (.Constant (.int i) j p0) X.env >>= _) _ _ s
  have hc := (pe_int (X := X) (i := i) (j := j) (pos := p0)).run pins s σ H (fun v H' => v = .int i ∧ H' = H) I ⟨rfl, rfl⟩
  refine wpAny_bind (wpAny_mono hc (fun u s2 ⟨v, H2, I2, rv, e1, e2⟩ => ?_) fun e s2 he => ?_)
  · subst e1 e2
    obtain ⟨tk, rfl⟩ := (show ∃ tk, u = Value.int i tk from rv)
    refine wpAny_bind (wpAny_holding (wpAny_pure (wpAny_pure (wpAny_bind (wpAny_holding (wpAny_pure ?_))))))
    rw [makeFunction_eq, hkw]
    simp only [List.zip_nil_left, List.filterMap_nil, List.isEmpty_nil, if_true, List.isEmpty_cons, Bool.false_eq_true, if_false, pure_bind]
    refine wpAny_bind (wpAny_newTextTuple ?_)
    have I3 : Inv X pins σ H2 { s2 with heap := s2.heap.push { cls := .type "tuple", data := .seq [Value.int i tk].toArray } } := I2.kept (t' := s2.toks) fun b o e => Heap.get?_push_of_some _ e
    have hdt := Heap.get?_push_size s2.heap (o := { cls := .type "tuple", data := .seq [Value.int i tk].toArray }) rfl
    have ndt : H2 s2.heap.objs.size = none := I2.hok.fresh (Nat.le_refl _)
    have nofr : ∀ f, s2.heap.objs.size ≤ f → f ∉ frs X.stack := fun f hf z => by
      rcases List.mem_cons.mp (I2.stkSub _ z) with e | e
      · have h1 := I2.lt
        rw [← e] at h1
        exact Nat.lt_irrefl _ (Nat.lt_of_lt_of_le h1 hf)
      · exact I2.nofs hf e
    have nodt := nofr _ (Nat.le_refl _)
    have hle : s2.heap.objs.size < (s2.heap.push { cls := .type "tuple", data := .seq [Value.int i tk].toArray }).objs.size := by rw [Heap.size_push]; omega
    generalize s2.heap.push { cls := .type "tuple", data := .seq [Value.int i tk].toArray } = g2 at *
    generalize s2.heap.objs.size = dt at *
    obtain ⟨ps, hP, ht, ha⟩ := hT _ hm
    have bP : g2.BuiltinsAt X.mg P := TB.bm.keeps I3.bk
    have hP' : g2.get? P = some { cls := .none, data := .fields ps } := I3.hok P _ hP
    have hbig : ∀ f, g2.objs.size ≤ f → f ∉ frs X.stack := fun f hf => nofr f (Nat.le_of_lt (Nat.lt_of_lt_of_le hle hf))
    cases hc : codeAmong pos ps.toList with
    | none =>
      refine tail_new (s := { s2 with heap := g2 }) (mg := X.mg) (c := c) (P := P) (ps := ps) (closure_ok hfree) I3.ok.glob (I3.mod.glob.keeps I3.bk) hcode (TB.code.keeps I3.bk) hP' ht hc TB.gP bP fun c' ctv h' tk2 hx hge hlt hrec htb => ?_
      obtain ⟨c2, oc, vs, t, e2, hoc, hd, hv⟩ := hrec
      cases e2
      have hsz : g2.objs.size ≤ h'.objs.size := Nat.le_trans hge (Nat.le_of_lt hlt)
      have nC : H2 c' = none := I3.hok.fresh hge
      have I4 := inv_table (t' := tk2) (more := #[rawInt pos.line, rawInt pos.col, .ref c']) (h' := h'.push (lamObj (X.env.qual ++ "<lambda>") params body scope (cloFrom X.env.cells scope.names []) ((X.mg "__name__").getD .none) (.ref c') ctv (.ref dt))) I3 hP
        (fun b o hb e => Heap.get?_push_of_some _ (hx b o hb e)) (Heap.get?_push_of_some _ htb) hge ⟨oc, vs, t, Heap.get?_push_of_some _ hoc, hd, hv⟩
      have hE : ExtN H2 (upd (upd H2 P (.tbl (ps ++ #[rawInt pos.line, rawInt pos.col, .ref c']))) c' (CodeO c' (X.env.qual ++ "<lambda>"))) := fun b o e n => by
        rw [upd_ne (ne_of_none e nC), upd_ne (fun z => n ps (Option.some.inj (e.symm.trans (by rw [z]; exact hP))))]
        exact e
      have eL : (ps ++ #[rawInt pos.line, rawInt pos.col, .ref c']).toList = ps.toList ++ [rawInt pos.line, rawInt pos.col, .ref c'] := by simp
      have dtc : dt ≠ c' := Nat.ne_of_lt (Nat.lt_of_lt_of_le hle hge)
      have dtP : dt ≠ P := fun z => by rw [z, hP] at ndt; cases ndt
      refine h h'.objs.size c' dt tk _ 0 ((X.mg "__name__").getD .none) ctv _ _ I4 hE (fun p hp => ?_) (Heap.get?_push_of_some _ (hx _ _ dtP hdt)) rfl (by rw [upd_ne dtc, upd_ne dtP]; exact ndt) nodt (Heap.get?_push_size _ rfl) ?_ (hbig _ hsz) upd_same
      · by_cases hb : p.1 = P
        · rw [hu p hp hb, hb]
          refine ⟨_, by rw [upd_ne (ne_of_none hP nC), upd_same], by rw [eL]; exact PySem.TriplesOk_snoc _ _ _ _ ht, fun p' cv hcv => ?_⟩
          rw [eL] at hcv
          rcases among_app _ ht hcv with z | z
          · obtain ⟨c0, e1, e2⟩ := ha p' cv z
            exact ⟨c0, e1, hE _ _ e2 codeO_ne⟩
          · exact ⟨c', z, upd_same⟩
        · obtain ⟨ps', a1, a2, a3⟩ := hT p hp
          refine ⟨ps', by rw [upd_ne (ne_of_none a1 nC), upd_ne hb]; exact a1, a2, fun p' cv hcv => ?_⟩
          obtain ⟨c0, e1, e2⟩ := a3 p' cv hcv
          exact ⟨c0, e1, hE _ _ e2 codeO_ne⟩
      · have n1 : h'.objs.size ≠ c' := Nat.ne_of_gt hlt
        have n2 : h'.objs.size ≠ P := Nat.ne_of_gt (Nat.lt_of_lt_of_le (Heap.lt_size hP') hsz)
        rw [upd_ne n1, upd_ne n2]
        exact I3.hok.fresh hsz
    | some cv =>
      obtain ⟨c', e, hco⟩ := ha pos cv hc
      subst e
      refine tail_old (s := { s2 with heap := g2 }) (mg := X.mg) (c := c) (P := P) (ps := ps) (closure_ok hfree) I3.ok.glob (I3.mod.glob.keeps I3.bk) hcode (TB.code.keeps I3.bk) hP' ht hc bP fun ctv h' tk2 hx hsz => ?_
      have I4 := I3.kept (t' := tk2) (h' := h'.push (lamObj (X.env.qual ++ "<lambda>") params body scope (cloFrom X.env.cells scope.names []) ((X.mg "__name__").getD .none) (.ref c') ctv (.ref dt))) fun b o e => Heap.get?_push_of_some _ (hx b o e)
      exact h h'.objs.size c' dt tk _ 0 ((X.mg "__name__").getD .none) ctv H2 _ I4 (ExtN.refl H2) hT (Heap.get?_push_of_some _ (hx _ _ hdt)) rfl ndt nodt (Heap.get?_push_size _ rfl) (I3.hok.fresh hsz) (hbig _ hsz) hco
  · exact he
/-- the frame of its body -/
theorem lam_startD {A : Around} {outer : List PySem.Env} {E : XK} {scope : Scope} {f c' : Addr} {g : Heap} {tk : Nat} {a1 : Str} {v1 : Value} (I : Inv X pins σ H s) (L : LamS1 X.N X.env.scope scope a1) (e0 : Env0 X.prog X.w X.K X.mg X.base A outer s1 HZ) (hd : A.handled = none)
    (un : Un (frs X.stack) [] H HZ s.heap s1.heap) (hns : g.Ns s1.heap.objs.size fun y => ([(a1, v1)] : List (Str × Value)).reverse.lookup y) (kp : ∀ b o, s1.heap.get? b = some o → g.get? b = some o) : Inv (lamCx X A outer s1 HZ E scope f c') [] σ HZ { s1 with heap := g, toks := tk } := by
  have hfree := L.has I.ok
  have cm : ∀ {y c}, (cloFrom X.env.cells scope.names []).lookup y = some c → X.env.cells.lookup y = some c := fun {y c} e => by
    rcases cloFrom_mem (PySem.mem_of_lookup e) with hm | ⟨h1, h2⟩
    · cases hm
    · obtain ⟨c1, hc⟩ := hfree _ h1 rfl
      have hc : X.env.cells.lookup y = some c1 := hc
      rw [h2, hc] at *
      exact hc
  have look : ∀ {y}, scope.names.lookup y = some .free → ∃ c, (cloFrom X.env.cells scope.names []).lookup y = some c := fun {y} hl => mem_lookup (cloFrom_has (cells := X.env.cells) (acc := []) (PySem.mem_of_lookup hl))
  have cellK : ∀ {c : Addr} {v : Option Value}, H c = none → s.heap.IsCell c v → g.IsCell c v := fun {c v} n ⟨o, ho, hd⟩ => by
    obtain ⟨sl, q⟩ := un.any ho n (by simp)
    exact ⟨_, kp _ _ q, hd⟩
  have noA : ∀ b : Addr, b ∉ (lamCx X A outer s1 HZ E scope f c').ex := fun b z => by
    have z : b ∈ ([] : List Addr) := z
    cases z
  refine ⟨⟨e0.mod, L.kind, rfl, rfl, Nat.le_refl _, fun y z c e1 e2 => I.ok.inj y z c (cm e1) (cm e2), fun y hy => ?_, fun y c z _ => ?_, fun _ => hd, Around.frames_deeper e0.frames, .inr ⟨rfl, rfl⟩, fun b z => absurd z (noA b), e0.bs, e0.bsz, fun b _ _ => noA b,
      fun b z => absurd z (noA b), e0.funs, e0.frf⟩,
    rfl, e0.bare, Un.kept kp, ⟨_, hns, fun i y v e1 e2 e3 => ?_⟩, fun y c e => ?_, e0.hok.fresh (Nat.le_refl _), fun y c e => ?_, fun q hq => (List.not_mem_nil (show q ∈ ([] : List (Addr × Obj)) from hq)).elim, e0.hok.kept kp, I.len⟩
  · have hy : scope.names.lookup y = some .cell ∨ scope.names.lookup y = some .free := hy
    exact hy.elim (fun hy => absurd rfl (L.own _ (PySem.mem_of_lookup hy))) look
  · have z : false = true := z
    cases z
  · have e3 : Vis scope y := e3
    rcases e3 with k | k | k
    · exact absurd (List.mem_of_getElem? e1) (L.loc _ (PySem.mem_of_lookup k) rfl)
    · exact absurd rfl (L.own _ (PySem.mem_of_lookup k))
    · obtain ⟨m, hn, hl⟩ := I.loc
      obtain ⟨w', r, q⟩ := hl i y v e1 e2 ((L.free _ (PySem.mem_of_lookup k) rfl).elim (fun k => .inr (.inl k)) fun k => .inr (.inr k))
      obtain ⟨c2, h2⟩ := look k
      refine ⟨w', r, .inr ⟨.inr k, c2, h2, ?_⟩⟩
      have c1 := cm h2
      rcases q with ⟨k', _⟩ | ⟨_, c3, e', z⟩
      · have k' : X.env.scope.names.lookup y = some .local := k'
        rcases L.free _ (PySem.mem_of_lookup k) rfl with k2 | k2 <;> rw [show X.env.scope.names.lookup y = _ from k2] at k' <;> cases k'
      · rw [c1] at e'
        cases e'
        exact cellK (I.freeC y _ c1) z
  · obtain ⟨w', z⟩ := I.cell y c (cm e)
    exact ⟨w', cellK (I.freeC y c (cm e)) z⟩
  · obtain ⟨v, o, ho, hd⟩ := I.cell y c (cm e)
    exact un.free c o ho (I.freeC y c (cm e)) (by simp)
/-- its call, in the def that got it -/
theorem lam_actD {M : List Str} {qg : Str} {sg : Scope} {g f c' dt : Addr} {od : Obj} {n0 : Nat} {cdg pm ctv : Value} {params : Arguments} {body : Expr} {scope : Scope} {k i : Nat} {a a1 : Str} {v1 : Value} {pn : List (Addr × Obj)} {xe : Value → Shared → Prop} {W : WX} {tb : XK → TE} {p1 p2 : Pos} {Eg : XK} {CXg : CXT}
    (I : Inv X pins σ H s) (L : LamS1 X.N X.env.scope scope a1) (hdt : s.heap.get? dt = some od) (hod : od.data = .seq #[v1] n0) (ndt : H dt = none) (fdt : dt ∉ frs X.stack)
    (hf : s.heap.get? f = some (lamObj (X.env.qual ++ "<lambda>") params body scope (cloFrom X.env.cells scope.names []) pm (.ref c') ctv (.ref dt))) (nf : H f = none) (ff : f ∉ frs X.stack)
    (hbd : ∃ kk, bindArgs (lamFn (X.env.qual ++ "<lambda>") params body scope (cloFrom X.env.cells scope.names []) pm (.ref c') ctv (.ref dt)) ⟨[], []⟩ = seqItems? (.ref dt) >>= kk ∧ kk (some #[v1]) = pure [(a1, v1)])
    (tk : Takes ((cxOf CXg X.prog X.w X.K X.mg X.base M qg sg g cdg X.A X.stack s H Eg).tr pn xe) W) (room : Room (k + 1) (X.A.deeper (envOfC qg sg s.heap.objs.size g cdg))) (gd : X.A.guards = some [])
    (hb : ∀ (B : Around) (out : List PySem.Env) (s : Shared) (H : Hp) (E : XK), Room k (B.deeper (lamEnv X scope s.heap.objs.size f c')) → B.guards = some [] → PE (lamCx X B out s H E scope f c') body (tb E))
    (hM : M[i]? = some a) (hv : Vis sg a) (hd : (a == ("__debug__" : Str)) = false) (hcd : (a == ("__classdict__" : Str)) = false) :
    PE ((cxOf CXg X.prog X.w X.K X.mg X.base M qg sg g cdg X.A X.stack s H Eg).tr pn xe) (.Call (.Name a p1) [] [] p2)
      (fun σZ HZ Q => ∃ E : XK, (∀ cls d H', E cls d H' → W cls d σZ H') ∧ σZ[i]? = some (some (.ref f)) ∧ HZ c' = some (CodeO c' (X.env.qual ++ "<lambda>")) ∧ tb E σ HZ Q) := by
  constructor
  intro pinsZ sZ σZ HZ Q IZ ⟨E, hW, w1, w2, w3⟩
  refine wpAny_Call_Name_kw (thn ((pe_var (pos := p1) (i := i) hM hv hd hcd).run pinsZ sZ σZ HZ (fun v H1 => v = .ref f ∧ H1 = HZ) IZ ⟨.ref f, w1, rfl, rfl⟩) ?_)
  rintro u s1 ⟨v, H1, I1, r1, rfl, rfl⟩
  obtain rfl : u = Value.ref f := r1
  have there := I1.base.keep f _ hf nf ff (fun z => nomatch (show f ∈ ([] : List Addr) from z))
  have thereD := I1.base.keep dt _ hdt ndt fdt (fun z => nomatch (show dt ∈ ([] : List Addr) from z))
  have un : Un (frs X.stack) [] H H1 s.heap s1.heap := I1.base
  obtain ⟨⟨oc, vs, t, o1, o2, o3⟩, _, _⟩ := I1.hok c' _ w2
  obtain ⟨kk, kb1, kb2⟩ := hbd
  have rc : codeAny (model X.prog X.w) (X.A.deeper (envOfC qg sg s.heap.objs.size g cdg)) (.call (.ref f) ⟨[], []⟩) (CR (L2.CX X.prog X.w) (envOfC qg sg s.heap.objs.size g cdg :: X.stack) X.prog X.w H1 s1 Q E) s1 := by
    refine PySem.W.kla_callFunE room.depth there rfl L.co L.gen rfl ⟨c', oc, vs, t, rfl, o1, o2, o3⟩ ?_
    rw [kb1]
    refine wpAny_bind (wpAny_seqItems thereD hod ?_)
    rw [kb2]
    refine wpAny_pure (wpAny_newFunctionEnv (fun y hy => L.own y hy) (fun y hy => ?_) (fun h₁ n1 n2 => ⟨I1.nolimit.fresh _ n2, ?_⟩) L.kind)
    · rw [List.mem_singleton.mp hy]
      exact L.par
    show codeAny _ _ (.expr body (lamEnv X scope s1.heap.objs.size f c')) _ _
    have J : Inv (lamCx X (X.A.deeper (envOfC qg sg s.heap.objs.size g cdg)) (envOfC qg sg s.heap.objs.size g cdg :: X.stack) s1 H1 E scope f c') [] σ H1 { s1 with heap := h₁, toks := s1.toks + ([(a1, v1)] : List (Str × Value)).length } :=
      lam_startD I L I1.env0 room.hd un n1 fun b o e => n2.extBut b o (Nat.ne_of_lt (Heap.lt_size e)) (Heap.get?_push_of_some _ e)
    refine PySem.W.kla_codeExpr (wpAny_mono ((hb _ _ s1 H1 E (room.deeper _) gd).run [] _ _ H1 Q J w3) ?_ fun e s' hq => hq)
    rintro v s' ⟨w', H', J', rv, q⟩
    exact ⟨w', H', J'.os, J'.bare, J'.base, J'.hok, rv, q⟩
  refine PySem.W.callWith_F0 ⟨_, _, _, _, there⟩ (wpAny_call (codeAny_mono rc fun r s' hq => ?_))
  match r, hq with
  | .error e, hq => exact tk e s' (XE.of_call I1 hW hq)
  | .ok (.ret u), hq => exact I1.after hq
end
theorem v_lamD {X : Cx} {G : Gd} {W : WX} {x a a1 : Str} {i0 : Int} {j0 : Nat} {pc : Pos} {cO Pt : Addr} {k n : Nat} {gH : (Store → R U) → GS} {params : Arguments} {body : Expr} {scope : Scope} {f : EV} {p lpos pos : Pos}
    (Ld : LamD X.prog X.w X.mg X.base G x a (k + 1) n gH) (hK : X.K = G.K) (hg : Gl X x)
    (TB : TabB X.base X.mg cO Pt) (hcode : X.env.code = .ref cO) (hmT : (Pt, X.env.qual ++ "<lambda>") ∈ G.T) (hu : ∀ q ∈ G.T, q.1 = Pt → q.2 = X.env.qual ++ "<lambda>") (hr : Room (k + 2) X.A) (hgd : X.A.guards = some []) (L : LamS1 X.N X.env.scope scope a1) (hdef : defaultsOf params X.env = ([eval (.Constant (.int i0) j0 pc) X.env], [])) (hkw : params.kwonlyargs = [])
    (hbind : ∀ (q : Str) (cl : List (Str × Addr)) (pm cv ctv : Value) (dt : Addr) (tk : Tok), ∃ kk, bindArgs (lamFn q params body scope cl pm cv ctv (.ref dt)) ⟨[], []⟩ = seqItems? (.ref dt) >>= kk ∧ kk (some #[.int i0 tk]) = pure [(a1, .int i0 tk)])
    (hbody : ∀ (B : Around) (out : List PySem.Env) (s : Shared) (H : Hp) (E : XK) (f0 c' : Addr), Room k (B.deeper (lamEnv X scope s.heap.objs.size f0 c')) → B.guards = some [] → PE (lamCx X B out s H E scope f0 c') body (VE G (fun c d _ H' => E c d H') f))
    (hdb : (x == ("__debug__" : Str)) = false := by decide) (hd : (a == ("__debug__" : Str)) = false := by decide) (hcd : (a == ("__classdict__" : Str)) = false := by decide) :
    PE X (.Call (.Name x p) [.Lambda params body scope lpos] [] pos) (VE G W (eLam n gH f)) := by
  refine ⟨fun pins s σ H Q I ⟨z, ρ, τ, hz, cz, en, q⟩ => ?_⟩
  subst hz
  obtain ⟨g, pg, bg, sg, dV, kV, doc, pm, cdv, ct, oc, an, od, osl, M, hm, hk, lk, hcg, hb0, Sg, hMa, hMn, hva, run⟩ := Ld.ex
  rw [← hK] at hk lk hcg hb0 run
  refine wpAny_Call_Name_kw (ld_glob I hg hm ?_ hdb)
  refine PySem.W.callWith_K (h₀ := X.base) I.ok.mod.kin hk ?_ (by rfl) (by rfl)
  show wpAny _ _ (spliced ((false, eval (.Lambda params body scope lpos) X.env) :: backTo pos (starEach [] X.env))) _ _ s
  refine Calls.spliced_cons (lam_makeD I TB hcode hmT hu cz.tab hdef hkw (L.has I.ok) fun f0 c' dt tk0 od n0 pm' ctv H1 s' I1 eN T1 hdt hod ndt fdt hf hfn hfr hco => Calls.spliced_nil ⟨I1.kIn, ?_⟩)
  have fu : Fut z ⟨z.S, H1, z.ms⟩ := ⟨Same.refl _, List.prefix_refl _, fun b o e _ t => eN b o e t, fun b o e t => ⟨o, eN b o e t, t⟩, fun _ _ _ _ _ => rfl, fun _ m => .inl m⟩
  have cz1 : Cells G ⟨z.S, H1, z.ms⟩ τ := ⟨fun b o e => eN b o (cz.sub b o e) (cz.nt b o e), cz.len, cz.nd, fun b m => by
    obtain ⟨o, e, q⟩ := cz.al b m
    exact ⟨o, eN b o e q.nt, q⟩, fun j b cl m1 m2 => by
    have w := cz.at_ j b cl m1 m2
    cases cl with
    | dead => exact trivial
    | lst ds => obtain ⟨n, vs, h1, h2⟩ := w; exact ⟨n, vs, eN b _ h1 (by intro _ e; cases e), h2⟩
    | dct ds => obtain ⟨n, vs, h1, h2⟩ := w; exact ⟨n, vs, eN b _ h1 (by intro _ e; cases e), h2⟩
    | dcx ds x0 => obtain ⟨n, o, vs, v, h1, h2, h3⟩ := w; exact ⟨n, o, vs, v, eN b _ h1 (by intro _ e; cases e), h2, h3⟩
    | ins cc ds => obtain ⟨n, dx, vs, h1, h2⟩ := w; exact ⟨n, dx, vs, eN b _ h1 (by intro _ e; cases e), h2⟩, T1, cz.nt⟩
  -- the callee's ground
  let z1 : Z := ⟨z.S, H1, z.ms⟩
  have cO1 : c' ∉ z1.ms := fun m => by
    obtain ⟨o, e, q⟩ := cz1.al c' m
    have e : H1 c' = some o := e
    rw [hco] at e
    cases e
    exact q
  let G' : Gd := G.lam f0 (fun z' => Fut z1 z') fun _ _ h1 h2 => h2.trans h1
  have rc : codeAny (model X.prog X.w) X.A (.call (.ref g) ⟨[.ref f0], []⟩) (CR C8.CX0 X.stack X.prog X.w H1 s' Q C8.E0) s' := by
    refine run_ofS (N := M) (ps := [a]) (us := [.ref f0]) (vs := [.ref f0]) lk hcg Sg hr I1.env0 (hb0 s' [.ref f0] I1.kIn rfl) (.cons rfl .nil) rfl fun hr' => ?_
    have act : ∀ (W' : WX) (pn : List (Addr × Obj)) (xe : Value → Shared → Prop) (p1 p2 : Pos), Takes ((cxOf C8.CX0 X.prog X.w X.K X.mg X.base M x sg g cdv X.A X.stack s' H1 C8.E0).tr pn xe) W' →
        PE ((cxOf C8.CX0 X.prog X.w X.K X.mg X.base M x sg g cdv X.A X.stack s' H1 C8.E0).tr pn xe) (.Call (.Name a p1) [] [] p2) (VE G' W' (eAct 0 fun τ' => f ρ τ')) :=
      fun W' pn xe p1 p2 tk => pe_weak (lam_actD (tb := fun E => VE G (fun c d _ H' => E c d H') f) I1 L hdt hod ndt fdt hf hfn hfr (hbind _ _ _ _ _ _ tk0) tk hr' hgd (fun B out s H E h1 h2 => hbody B out s H E f0 c' h1 h2) hMa hva hd hcd) fun σZ HZ QZ ⟨zZ, ρZ, τZ, hzZ, cZ, enZ, qZ⟩ => by
        subst hzZ
        unfold eAct at qZ
        cases e0 : ρZ[0]? with
        | none => rw [e0] at qZ; exact qZ.elim
        | some o =>
          rw [e0] at qZ
          cases o with
          | none => exact qZ.elim
          | some u0 =>
            cases u0 with
            | d _ => exact qZ.elim
            | loc _ => exact qZ.elim
            | fn =>
              obtain ⟨v, s0, r0⟩ := enZ.at_ 0 _ e0
              cases r0 with
              | fn fz =>
                have fz : Fut z1 zZ := fz
                refine ⟨fun c d H' => W' c d σZ H', fun _ _ _ h => h, s0, fz.frame c' _ hco cO1 codeO_ne, zZ, ρ, τZ, rfl, Cells.cg (G := G') (G' := G) rfl rfl rfl rfl cZ, en.fut (fu.trans fz), ?_⟩
                have qZ : Run G' (RepU G') (match f ρ τZ with
                  | .ok u τ1 => if noFn u = true then .ok u τ1 else .bad
                  | r => r) (fun c d H' => W' c d σZ H') zZ QZ := qZ
                cases er : f ρ τZ with
                | bad => rw [er] at qZ; exact qZ
                | exc c fs τ1 =>
                  rw [er] at qZ
                  exact fun z' dd vs f' c'' s'' r' => qZ z' dd vs f' (Cells.cg (G := G) (G' := G') rfl rfl rfl rfl c'') s'' (RepF.cg (G := G) (G' := G') rfl rfl rfl _ _ r')
                | ok u τ1 =>
                  rw [er] at qZ
                  simp only at qZ
                  by_cases hn : noFn u = true
                  · rw [if_pos hn] at qZ
                    exact fun z' v f' c'' r' => qZ z' v f' (Cells.cg (G := G) (G' := G') rfl rfl rfl rfl c'') (RepU.cg (G := G) (G' := G') rfl rfl rfl hn r')
                  · rw [if_neg hn] at qZ; exact qZ.elim
    refine ⟨_, (run X.A X.stack s' H1 f0 (fun z' => Fut z1 z') (fun _ _ h1 h2 => h2.trans h1) (fun τ' => f ρ τ') act hr' hgd).nox, ?_⟩
    have en0 : EnvR G' z1 ([U.fn].map some ++ List.replicate (M.length - 1) none) (L2.start M [V.ref f0]) := env_start (N := M) (.cons (.fn (Fut.refl z1)) .nil)
    refine ⟨z1, [U.fn].map some ++ List.replicate (M.length - 1) none, τ, rfl, Cells.cg (G := G) (G' := G') rfl rfl rfl rfl cz1, en0, ?_⟩
    rw [hMn]
    have q1 := q.pre fu
    unfold eLam at q1
    have hρ : [U.fn].map some ++ List.replicate (n - 1) none = (some U.fn :: List.replicate (n - 1) none : VL.Env) := rfl
    rw [hρ]
    cases er : gH (fun τ' => f ρ τ') (some U.fn :: List.replicate (n - 1) none) τ with
    | bad => rw [er] at q1; exact q1.elim
    | bk ρ' τ' => rw [er] at q1; exact q1.elim
    | ct ρ' τ' => rw [er] at q1; exact q1.elim
    | exc c fs ρ' τ' => rw [er] at q1; exact q1.elim
    | nx ρ' τ' =>
      rw [er] at q1
      exact fun z' σ' f' c'' en' => ret_ok (u := .d .non) (v := .non) cz1 f' (Cells.cg (G := G') (G' := G) rfl rfl rfl rfl c'') (.d .non) q1
    | rt u τ' =>
      rw [er] at q1
      intro z' v f' c'' r'
      by_cases hn : noFn u = true
      · exact ret_ok cz1 f' (Cells.cg (G := G') (G' := G) rfl rfl rfl rfl c'') (RepU.cg (G := G') (G' := G) rfl rfl rfl hn r') q1
      · cases u with
        | d _ => exact absurd rfl hn
        | loc _ => exact absurd rfl hn
        | fn => exact q1.elim
  refine wpAny_call (codeAny_mono rc fun r s2 hq => ?_)
  match r, hq with
  | .error e, hq => exact (show False from hq).elim
  | .ok (.ret u), hq => exact I1.after hq
end VL

/-! The value layer, M7: list(d.items()), dict(x). -/
namespace VL
open PySem PySem.Spec PyProof.Rows L2 LamX
/-! ### new things beside what there is -/
theorem cells_more {G : Gd} {z : Z} {τ : Store} {S' H' : Hp} (c : Cells G z τ) (e1 : ∀ b o, z.H b = some o → H' b = some o) (e2 : ∀ b o, z.H b = some o → S' b = z.S b) (e3 : Same S' H') (e4 : ∀ b o, S' b = some o → notTbl o) :
    Cells G ⟨S', H', z.ms⟩ τ ∧ Fut z ⟨S', H', z.ms⟩ := by
  have ss : Same z.S S' := fun b o h => by rw [e2 b o (c.sub b o h)]; exact h
  refine ⟨⟨e3, c.len, c.nd, fun a m => ?_, fun i a cl h1 h2 => ?_, c.tab.ext e1, e4⟩, ⟨ss, List.prefix_refl _, fun a o h _ _ => e1 a o h, fun a o h t => ⟨o, e1 a o h, t⟩, fun a o h _ _ => e2 a o h, fun a m => .inl m⟩⟩
  · obtain ⟨o, h1, h2⟩ := c.al a m
    exact ⟨o, e1 a o h1, h2⟩
  · obtain ⟨o, h3, _⟩ := c.al a (List.mem_of_getElem? h1)
    exact (c.at_ i a cl h1 h2).more ss (fun h => (e2 a o h3).trans h) fun o h => e1 a o h
/-- list(d.items()), a row that stays -/
def fItems (kvs : List (Ky × D)) (τ : Store) : R U := if kvs.length ≤ sizeLine then .ok (.d (.lst (kvs.map fun p => .tup [p.1.d, p.2]))) τ else .bad
def eItems (fe : EV) : EV := fun ρ τ => (fe ρ τ).bind fun u τ1 => match vw τ1 u with
  | some (.dct kvs) => fItems kvs τ1
  | _ => .bad
theorem reps_rows {G : Gd} {S : Hp} : ∀ {kvs : List (Ky × D)} {ps : List (Key × V)} {ts : List Addr}, RepK G S kvs ps → Paired (fun (t : Addr) (q : Key × V) => S t = some (.tup [kV q.1, q.2])) ts ps → Reps G S (kvs.map fun p => .tup [p.1.d, p.2]) (ts.map V.ref)
  | _, _, _, .nil, .nil => .nil
  | _, _, _, .cons (k := k) h1 h2, .cons g1 g2 => .cons (.tup (SqT.of g1) (.cons (rep_ofky k) (.cons h1 .nil))) (reps_rows h2 g2)
theorem paired_in {α β : Type} {F : α → β → Prop} : ∀ {l : List α} {m : List β}, Paired F l m → Paired (fun a b => F a b ∧ a ∈ l) l m
  | _, _, .nil => .nil
  | _, _, .cons h t => .cons ⟨h, List.mem_cons_self⟩ (paired_wk (fun _ _ q => ⟨q.1, List.mem_cons_of_mem _ q.2⟩) (paired_in t))
theorem putT_tup : ∀ (ts : List Addr) (ps : List (Key × V)) {S : Hp} {b : Addr} {o : HO}, LiI.putT S ts ps b = some o → S b = some o ∨ ∃ xs, o = .tup xs
  | [], ps, S, b, o, h => by
    have e : LiI.putT S [] ps = S := by unfold LiI.putT; rfl
    rw [e] at h
    exact .inl h
  | t :: ts, [], S, b, o, h => .inl h
  | t :: ts, p :: ps, S, b, o, h => by
    have h : LiI.putT (upd S t (.tup [kV p.1, p.2])) ts ps b = some o := h
    rcases putT_tup ts ps h with h | h
    · unfold upd at h
      split at h
      · exact .inr ⟨_, (Option.some.inj h).symm⟩
      · exact .inl h
    · exact .inr h
section
variable {X : Cx} {G : Gd} {W : WX} {e : Expr} {f : EV} {p apos cpos pos : Pos}
theorem v_items (hK : X.K = G.K) (hc : X.calm = true) (hg : Gl X "list") (hm : X.mg "list" = none) (he : PE X e (VE G W f)) (hv : bootBuiltins "list" = some (.type "list") := by rfl) (hbase : attributeBase e "items" X.env (eval e X.env) = eval e X.env := by rfl) (hline : (apos.endLine == cpos.line) = true := by rfl)
    (hs : starEach [.Call (.Attribute e "items" apos) [] [] cpos] X.env = (false, eval (.Call (.Attribute e "items" apos) [] [] cpos) X.env) :: starEach [] X.env := by rfl) :
    PE X (.Call (.Name "list" p) [.Call (.Attribute e "items" apos) [] [] cpos] [] pos) (VE G W (eItems f)) := by
  constructor
  intro pins s σ H Q I ⟨z, ρ, τ, hz, c, en, h⟩
  refine wpAny_Call_Name_kw (ld_blt I hg hm hv ?_)
  refine PyProof.Rows.callWith_type1 ?_ hs rfl
  rw [hs]
  show wpAny _ _ (spliced ((false, eval (.Call (.Attribute e "items" apos) [] [] cpos) X.env) :: backTo pos (starEach [] X.env))) _ _ s
  refine Calls.spliced_cons (wpAny_Call_method (T := "dict") (id := "dict.items") hbase rfl hline F.plainAttrs_dict F.slot_dict_items F.type_dict_items (thn (he.run pins s σ H _ I ⟨z, ρ, τ, hz, c, en, Run.bind h⟩) fun v s1 ⟨x, H1, I1, r1, z1, u, τ1, e1, f1, c1, ru, q1⟩ => ?_))
  subst e1
  cases e2 : vw τ1 u with
  | none => rw [e2] at q1; exact q1.elim
  | some dd =>
    rw [e2] at q1
    cases dd with
    | dct kvs =>
      have q1 : Run G (RepU G) (fItems kvs τ1) (fun c d H' => W c d σ H') z1 Q := q1
      obtain ⟨d, ps, rfl, hd, hrk⟩ := (vw_rep c1 ru e2).dct_ c1
      obtain rfl : v = Value.ref d := r1
      obtain ⟨hz0, hs0, vs, kv, hdo⟩ := dk_rd I1.hok hd
      obtain ⟨ep, hat⟩ := hdo.dictAt
      have lk : ps.length = vs.length := Paired.length kv
      unfold fItems at q1
      by_cases hl : kvs.length ≤ sizeLine
      · rw [if_pos hl] at q1
        have I2 : Inv X pins σ z1.H { s1 with heap := s1.heap.push { cls := .type "dict_items", data := .fields #[.ref d] } } := I1.kept (t' := s1.toks) fun b ob q => Heap.get?_push_of_some _ q
        refine ⟨hdo.typeIs, hdo.mapOf.noDict, ?_⟩
        show wpAny _ _ (callWith cpos (.builtin "dict.items") [.ref d] [] []) _ X.xe s1
        refine method_meetsIn F.slot_dict_items F.entry_dict_items rfl (PySem.evalArgs_none ⟨rfl, hdo.typeIs, F.args_dict_items_1 _, _, meets_dict_items (mixKind X.prog X.w) d hs0, ⟨vs, hdo⟩, ?_⟩)
        refine Calls.spliced_nil (PySem.W.kdx_call (knd := mixKind X.prog X.w) (kvs := vs) (ep := ep) (I1.ok.hd hc) ⟨_, Heap.get?_push_size _ rfl, rfl, rfl⟩ (hat.push _) (by omega) fun h' tk acc cc as k1 k2 k3 k4 k5 => ?_)
        obtain ⟨H', m1, m2, m3, m4, m5, m6, J⟩ := LiI.items_laid (tk := tk) I2 (by omega) kv k1 k2 k3 k4 k5
        have nd : as.Nodup := List.Pairwise.imp (fun {a b} (h : a < b) => Nat.ne_of_lt h) k4.rise
        generalize (s1.heap.push { cls := .type "dict_items", data := .fields #[.ref d] }).objs.size = pl at *
        have prS := LiI.putT_at as ps z1.S (by omega) nd
        have offS : ∀ b, b ∉ as → LiI.putT z1.S as ps b = z1.S b := fun b hb => LiI.putT_off as ps z1.S hb
        have nS : z1.S pl = none := c1.none_ m2
        have g1 : ∀ b o, z1.H b = some o → upd (LiI.putT z1.S as ps) pl (.lst (as.map V.ref)) b = z1.S b := fun b o hb => by
          have n1 : b ≠ pl := fun e => by rw [e, m2] at hb; cases hb
          have n2 : b ∉ as := fun m => by rw [m3 b m] at hb; cases hb
          rw [upd_ne n1, offS b n2]
        have g2 : Same (upd (LiI.putT z1.S as ps) pl (.lst (as.map V.ref))) H' := fun b o hb => by
          unfold upd at hb
          split at hb
          · rename_i e
            cases hb
            rw [e]
            exact m5
          · by_cases hm : b ∈ as
            · obtain ⟨j, q, g1, g2, g3⟩ := LiI.paired_ix prS hm
              obtain ⟨q', g4, g5⟩ := LiI.paired_get m6 g1
              rw [g2] at g4
              cases g4
              rw [g3] at hb
              rw [g5]
              exact hb
            · rw [offS b hm] at hb
              exact m1 b o (c1.sub b o hb)
        have g3 : ∀ b o, upd (LiI.putT z1.S as ps) pl (.lst (as.map V.ref)) b = some o → notTbl o := fun b o hb => by
          unfold upd at hb
          split at hb
          · cases hb
            intro ps e
            cases e
          · rcases putT_tup _ _ hb with hb | ⟨xs, rfl⟩
            · exact c1.nt b o hb
            · intro ps e
              cases e
        obtain ⟨c2, f2⟩ := cells_more c1 m1 g1 g2 g3
        refine ⟨.ref pl, H', J, rfl, q1 _ (.ref pl) f2 c2 (.d (.lst upd_same ?_))⟩
        refine reps_rows (RepK.mono f2.ss _ _ hrk) (paired_wk (fun t q ht => ?_) (paired_in prS))
        show upd (LiI.putT z1.S as ps) pl (.lst (as.map V.ref)) t = _
        rw [upd_ne (fun e => m4 (by rw [← e]; exact ht.2))]
        exact ht.1
      · rw [if_neg hl] at q1; exact q1.elim
    | _ => exact q1.elim
end
end VL

/-! The value layer, M8: tuple(x) as a plain tuple, dict(x). -/
namespace VL
open PySem PySem.Spec PyProof.Rows L2 LamX
section
variable {X : Cx}
theorem call_tupP : CallR X (.type "tuple") (fun xs H Q => ∃ p ys, xs = [.ref p] ∧ SqL X.K H p ys ∧ ∀ l o, H l = none → o.dict = none → Q (.ref l) (upd H l (.frz o (.tup ys)))) := by
  intro pins s σ H xs us Q I r h
  obtain ⟨p, ys, rfl, hq, q⟩ := h
  obtain ⟨u, rfl, rx⟩ := vals1 r
  cases rx
  obtain ⟨its, r', pl, hz⟩ := I.list hq
  have hlen := r'.length
  refine call_tuple_list pl.isList (fun h' kp => ?_) (by simp only [List.size_toArray] <;> omega)
  have I1 : Inv X pins σ H { s with heap := h' } := I.kept (t' := s.toks) kp
  have at_ : (h'.push { cls := .type "tuple", data := .seq its.toArray }).get? h'.objs.size = some { cls := .type "tuple", data := .seq its.toArray } := Heap.get?_push_size _ rfl
  exact ⟨.ref h'.objs.size, _, I1.laid (o := .frz { cls := .type "tuple", data := .seq its.toArray } (.tup ys)) (t' := s.toks) (fun b o e => Heap.get?_push_of_some _ e) (Nat.le_refl _) ⟨at_, hz, its, r', IsTup.new _ _⟩, rfl, q _ _ (I1.hok.fresh (Nat.le_refl _)) rfl⟩
/-- dict(t) of a plain tuple of pairs -/
theorem call_dictT (hcalm : X.calm = true) : CallR X (.type "dict") (fun xs H Q => ∃ (a : Addr) (o : Obj) (ps : List Addr) (kvs : List (Key × V)), xs = [.ref a] ∧ H a = some (.frz o (.tup (ps.map V.ref))) ∧ o.dict = none ∧ Paired (fun p kv => SqT X.K H p [kV kv.1, kv.2]) ps kvs ∧
    ∀ p, H p = none → Q (.ref p) (upd H p (.dK (mergeK [] kvs)))) := by
  intro pins s σ H xs us Q I r ⟨a, o, ps, kvs, ex, hq, hdn, hp, q⟩
  subst ex
  obtain ⟨u, eu, rx⟩ := vals1 r
  subst eu
  cases rx
  obtain ⟨ho, hz, its, rv, o', ho', hc, n, hdat⟩ := I.hok a _ hq
  rw [ho] at ho'
  cases ho'
  have ei := refs_at rv
  subst ei
  rw [List.length_map] at hz
  obtain ⟨prs, rel, hl, hpr⟩ := pairs_of I hp
  -- the pairs as values
  have pk : ∀ j q', prs[j]? = some q' → ∃ u, IsTup s.heap (ps.getD j 0) #[u, q'.2] ∧ keyIs q'.1 u = true ∧ (ps.map Value.ref)[j]? = some (.ref (ps.getD j 0)) := fun j q' e => by
    obtain ⟨b, u, e1, e2, e3⟩ := hpr j q' e
    exact ⟨u, by rw [List.getD_eq_getElem?_getD, e1]; exact e2, e3, by rw [List.getElem?_map, e1, List.getD_eq_getElem?_getD, e1]; rfl⟩
  have pick : ∃ ws : List (Value × Value), ws.length = prs.length ∧ ∀ j k v, ws[j]? = some (k, v) → ∃ q', prs[j]? = some q' ∧ v = q'.2 ∧ keyIs q'.1 k = true ∧ IsTup s.heap (ps.getD j 0) #[k, v] ∧ (ps.map Value.ref)[j]? = some (.ref (ps.getD j 0)) := by
    have gen : ∀ n, n ≤ prs.length → ∃ ws : List (Value × Value), ws.length = n ∧ ∀ j k v, ws[j]? = some (k, v) → ∃ q', prs[j]? = some q' ∧ v = q'.2 ∧ keyIs q'.1 k = true ∧ IsTup s.heap (ps.getD j 0) #[k, v] ∧ (ps.map Value.ref)[j]? = some (.ref (ps.getD j 0)) := by
      intro n
      induction n with
      | zero => exact fun _ => ⟨[], rfl, fun j k v e => by simp at e⟩
      | succ n ih =>
        intro hn
        obtain ⟨ws, h1, h2⟩ := ih (by omega)
        obtain ⟨u, g1, g2, g3⟩ := pk n prs[n] (List.getElem?_eq_getElem (by omega))
        refine ⟨ws ++ [(u, prs[n].2)], by simp [h1], fun j k v e => ?_⟩
        by_cases hj : j < n
        · rw [List.getElem?_append_left (by omega)] at e
          exact h2 j k v e
        · rw [List.getElem?_append_right (by omega)] at e
          have : j = n := by
            by_cases z : j = n
            · exact z
            · rw [List.getElem?_eq_none (by simp; omega)] at e; cases e
          subst this
          rw [h1, Nat.sub_self] at e
          cases e
          exact ⟨prs[j], List.getElem?_eq_getElem (by omega), rfl, g2, g1, g3⟩
    exact gen prs.length (Nat.le_refl _)
  obtain ⟨ws, w1, w2⟩ := pick
  refine PySem.call_dict_pairs (knd := mixKind X.prog X.w) (kvs := prs) (PairArg.tuple a (ps.map Value.ref).toArray (fun j => ps.getD j 0) ws) (I.ok.hd hcalm) ⟨⟨o, n, ho, hc, hdn, hdat⟩, by simp [w1, hl], fun j k v e => ?_⟩ ⟨w1.symm, fun i k v e => ?_⟩ (by rw [w1, hl]; exact hz) fun h' tk hd' k => ?_
  · obtain ⟨q', _, _, _, g1, g2⟩ := w2 j k v e
    exact ⟨by simpa using g2, .inl g1⟩
  · obtain ⟨q', g0, g1, g2, _⟩ := w2 i k v e
    subst g1
    exact ⟨q'.1, g0, g2⟩
  · have hm : (s.heap.objs.size == sysModules) = false := beq_eq_false_iff_ne.mpr (Nat.ne_of_gt I.big)
    have hlen : (mergeK [] kvs).length ≤ sizeLine := by
      refine Nat.le_trans (length_mergeK kvs []) ?_
      rw [List.length_nil, Nat.zero_add, rel.length, hl]
      exact hz
    exact ⟨.ref s.heap.objs.size, upd H s.heap.objs.size (.dK (mergeK [] kvs)), I.laid (t' := tk) (fun b o e => k b o (by simp) e) (Nat.le_refl _) (show ObjOk X.prog X.w _ _ _ (.dK (mergeK [] kvs)) from ⟨hlen, hm, merged [] prs, KV.merge rel .nil, hd'⟩), rfl, q _ (I.hok.fresh (Nat.le_refl _))⟩
end
def rTupP (K : PySem.W.Frag) : List V → Hp → VK → Prop := fun xs H Q => ∃ p ys, xs = [.ref p] ∧ SqL K H p ys ∧ ∀ l o, H l = none → o.dict = none → Q (.ref l) (upd H l (.frz o (.tup ys)))
/-- tuple(xs), known as plain -/
def fTupP (d : D) (τ : Store) : R U := match d.lsts with
  | some ds => .ok (.d (.tpl ds)) τ
  | none => .bad
theorem c_tupP {G : Gd} : CallS G (c1 fTupP) (rTupP G.K) := c1_s fun z d τ v W Q c rh q => by
  unfold fTupP at q
  cases e : d.lsts with
  | none => rw [e] at q; exact q.elim
  | some ds =>
    rw [e] at q
    obtain ⟨a, vs, rfl, h1, h2⟩ := rh.lsts_ c e
    refine ⟨a, vs, rfl, h1, fun l o hl hd => ?_⟩
    have hn := c.none_ hl
    have f1 := fut_sh (o := .frz o (.tup vs)) hn hl
    exact q ⟨upd z.S l (.frz o (.tup vs)), upd z.H l (.frz o (.tup vs)), z.ms⟩ (.ref l) f1 (cells_sh c hl) (.d (.tpl upd_same hd (Reps.mono f1.ss _ _ h2)))
/-- pairs of a key and a value -/
def pairsOf : List D → Option (List (Ky × D))
  | [] => some []
  | .tup [a, b] :: r => match a.ky, pairsOf r with
    | some k, some kvs => some ((k, b) :: kvs)
    | _, _ => none
  | _ => none
def dmerge (kvs : List (Ky × D)) : List (Ky × D) := kvs.foldl (fun acc p => dput acc p.1 p.2) []
def fDict (d : D) (τ : Store) : R U := match d with
  | .dct kvs => allocD kvs τ
  | .lst ds => match pairsOf ds with
    | some kvs => allocD (dmerge kvs) τ
    | none => .bad
  | .tpl ds => match pairsOf ds with
    | some kvs => allocD (dmerge kvs) τ
    | none => .bad
  | _ => .bad
def rDictA (K : PySem.W.Frag) : List V → Hp → VK → Prop := fun xs H Q =>
  (∃ (a : Addr) (kvs : List (Key × V)), xs = [.ref a] ∧ Rd H a (.dK kvs) ∧ ∀ p, H p = none → Q (.ref p) (upd H p (.dK kvs))) ∨
  ((∃ (a : Addr) (ps : List Addr) (kvs : List (Key × V)), xs = [.ref a] ∧ SqL K H a (ps.map V.ref) ∧ Paired (fun p kv => SqT K H p [kV kv.1, kv.2]) ps kvs ∧ ∀ p, H p = none → Q (.ref p) (upd H p (.dK (mergeK [] kvs)))) ∨
   ∃ (a : Addr) (o : Obj) (ps : List Addr) (kvs : List (Key × V)), xs = [.ref a] ∧ H a = some (.frz o (.tup (ps.map V.ref))) ∧ o.dict = none ∧ Paired (fun p kv => SqT K H p [kV kv.1, kv.2]) ps kvs ∧ ∀ p, H p = none → Q (.ref p) (upd H p (.dK (mergeK [] kvs))))
theorem call_dictA {X : Cx} (hcalm : X.calm = true) : CallR X (.type "dict") (rDictA X.K) := CallR.or call_dictD (CallR.or (call_dictP hcalm) (call_dictT hcalm))
theorem pairs_rep {G : Gd} {S : Hp} : ∀ {ds : List D} {vs : List V} {kvs : List (Ky × D)}, pairsOf ds = some kvs → Reps G S ds vs → ∃ (ps : List Addr) (pv : List (Key × V)), vs = ps.map V.ref ∧ RepK G S kvs pv ∧ Paired (fun p kv => SqT G.K S p [kV kv.1, kv.2]) ps pv
  | [], _, _, e, h => by
    cases e
    cases h
    exact ⟨[], [], rfl, .nil, .nil⟩
  | .tup [a, b] :: r, _, _, e, h => by
    cases h with
    | cons h1 h2 =>
      simp only [pairsOf] at e
      cases e1 : a.ky with
      | none => rw [e1] at e; cases e
      | some k =>
        cases e2 : pairsOf r with
        | none => rw [e1, e2] at e; cases e
        | some kvs' =>
          rw [e1, e2] at e
          cases e
          obtain ⟨ps, pv, rfl, g1, g2⟩ := pairs_rep e2 h2
          cases h1 with
          | @tup p vs _ t1 t2 =>
            cases t2 with
            | cons a1 t3 =>
              cases t3 with
              | cons b1 t4 =>
                cases t4
                refine ⟨p :: ps, (k.k, _) :: pv, rfl, .cons b1 g1, .cons ?_ g2⟩
                rw [rep_ky e1 a1] at t1
                exact t1
  | .tup [] :: r, _, _, e, _ => by simp [pairsOf] at e
  | .tup [_] :: r, _, _, e, _ => by simp [pairsOf] at e
  | .tup (_ :: _ :: _ :: _) :: r, _, _, e, _ => by simp [pairsOf] at e
  | .non :: r, _, _, e, _ => by simp [pairsOf] at e
  | .bl _ :: r, _, _, e, _ => by simp [pairsOf] at e
  | .int _ :: r, _, _, e, _ => by simp [pairsOf] at e
  | .str _ :: r, _, _, e, _ => by simp [pairsOf] at e
  | .tpl _ :: r, _, _, e, _ => by simp [pairsOf] at e
  | .lst _ :: r, _, _, e, _ => by simp [pairsOf] at e
  | .fl _ :: r, _, _, e, _ => by simp [pairsOf] at e
  | .dct _ :: r, _, _, e, _ => by simp [pairsOf] at e
  | .dcu _ :: r, _, _, e, _ => by simp [pairsOf] at e
  | .dcx _ _ :: r, _, _, e, _ => by simp [pairsOf] at e
  | .ins _ _ :: r, _, _, e, _ => by simp [pairsOf] at e
  | .cls _ :: r, _, _, e, _ => by simp [pairsOf] at e
  | .exn _ _ :: r, _, _, e, _ => by simp [pairsOf] at e
theorem merge_rep {G : Gd} {S : Hp} : ∀ {kvs acc : List (Ky × D)} {pv pa : List (Key × V)}, RepK G S kvs pv → RepK G S acc pa → RepK G S (kvs.foldl (fun acc p => dput acc p.1 p.2) acc) (mergeK pa pv)
  | [], _, _, _, h, h2 => by cases h; exact h2
  | (k, d) :: kvs, _, _, _, h, h2 => by
    cases h with
    | @cons _ _ v _ vs h1 h3 => exact merge_rep (kvs := kvs) (pv := vs) h3 (h2.put h1)
theorem c_dictA {G : Gd} : CallS G (c1 fDict) (rDictA G.K) := c1_s fun z d τ v W Q c rh q => by
  cases d with
  | dct kvs =>
    obtain ⟨a, ps, rfl, h1, h2⟩ := rh.dct_ c
    exact .inl ⟨a, ps, rfl, h1, fun p hp => alloc_dct c hp h2 q⟩
  | lst ds =>
    simp only [fDict] at q
    cases e : pairsOf ds with
    | none => rw [e] at q; exact q.elim
    | some kvs =>
      rw [e] at q
      obtain ⟨a, vs, rfl, h1, h2⟩ := rh.lst_ c
      obtain ⟨ps, pv, rfl, g1, g2⟩ := pairs_rep e h2
      exact .inr (.inl ⟨a, ps, pv, rfl, SqL.of h1, paired_wk (fun p kv h => sqT_mono c.sub h) g2, fun p hp => alloc_dct c hp (merge_rep g1 .nil) q⟩)
  | tpl ds =>
    simp only [fDict] at q
    cases e : pairsOf ds with
    | none => rw [e] at q; exact q.elim
    | some kvs =>
      rw [e] at q
      cases rh with
      | sh h =>
        cases h with
        | @tpl a o vs _ h1 hdn h2 =>
          obtain ⟨ps, pv, rfl, g1, g2⟩ := pairs_rep e h2
          exact .inr (.inr ⟨a, o, ps, pv, rfl, c.sub _ _ h1, hdn, paired_wk (fun p kv h => sqT_mono c.sub h) g2, fun p hp => alloc_dct c hp (merge_rep g1 .nil) q⟩)
  | _ => exact q.elim
end VL

/-! The value layer, M9: a dict lent to a call; repr(x), x == y and isinstance of an instance and anything. -/
namespace VX
open PySem PySem.W PySem.Calls PyProof.Rows
open Sem (wp)
section
variable {prog : Program} {w : World} {A : Around} {E : Value → Shared → Prop} {s : Shared} {K : Frag} {C x f : Addr} {ox : Obj} {od : Option Obj}
theorem repr_K (hu : A.units + 1 < cLine) (X : K.In s.heap) (I : InstAt s.heap x ox C od) (hs : findIn K (.ref C) "__repr__" = some (some (.ref f))) (hf : isFn K (.ref f) = true) {Q : Value → Shared → Prop}
    (h : wpAny (model prog w) A.in1 (call (.ref f) [.ref x]) (fun r s' => ∃ y t, r = .str y t ∧ Q r s') E s) : wpAny (model prog w) A (call (.builtin "repr") [.ref x]) Q E s := by
  refine Calls.call_function_entry F.kind_repr F.plain_repr F.entry_repr (F.args_repr1 _) ?_
  unfold Builtin.«repr»
  refine wpAny_bind (m := oneArg "repr" _) (wpAny_pure ?_)
  refine wpAny_bind (m := cRoomFor _ _) (wpAny_cRoomFor (by show A.units + 1 < cLine; exact hu) ?_)
  have sp : Looks (model prog w) s.heap (specialOf (.ref x) "__repr__") (some (.ref f)) := I.type.andThen (looks_findIn X hs)
  refine wpAny_bind (sp.here ?_)
  refine wpAny_bind (m := callSpecialIfBound? (.ref x) (Str.ofString "__repr__") []) (ifBound_K X I hs hf (wpAny_mono h (fun r s' hr => ?_) fun _ _ e => e))
  obtain ⟨y, t, rfl, hq⟩ := hr
  exact wpAny_bind (wpAny_isInstance (T := "str") (b := true) rfl isSubtype_str_str (wpAny_pure ⟨_, rfl, hq⟩))
end
end VX
namespace VL
open PySem PySem.Spec PyProof.Rows L2 LamX C8
/-! ### data without a dict in it -/
mutual
def D.nd : D → Bool
  | .dct _ => false
  | .dcx _ _ => false
  | .dcu _ => false
  | .tup ds => ndL ds
  | .tpl ds => ndL ds
  | .lst ds => ndL ds
  | .fl ds => ndL ds
  | .ins _ fs => ndF fs
  | .exn _ fs => ndF fs
  | .non => true
  | .bl _ => true
  | .int _ => true
  | .str _ => true
  | .cls _ => true
def ndL : List D → Bool
  | [] => true
  | d :: ds => d.nd && ndL ds
def ndF : List (T × D) → Bool
  | [] => true
  | (_, d) :: ds => d.nd && ndF ds
end
def ndK : List (Ky × D) → Bool
  | [] => true
  | (_, d) :: ds => d.nd && ndK ds
def Cell.nd : Cell → Bool
  | .dead => true
  | .lst ds => ndL ds
  | .dct kvs => ndK kvs
  | .dcx _ _ => false
  | .ins _ fs => ndF fs
def hole (S : Hp) (a : Addr) : Hp := fun b => if b = a then none else S b
theorem hole_at {S : Hp} {a : Addr} : hole S a a = none := if_pos rfl
theorem hole_ne {S : Hp} {a b : Addr} (h : b ≠ a) : hole S a b = S b := if_neg h
section
variable {G : Gd} {S : Hp} {a : Addr} {od : Obj} {ps : List (Key × V)}
theorem hole_of (ha : S a = some (.frz od (.dK ps))) {b : Addr} {o : HO} (h : S b = some o) (n : ∀ od' ps', o ≠ .frz od' (.dK ps')) : hole S a b = some o := by
  rw [hole_ne (fun e => by rw [e, ha] at h; cases h; exact n _ _ rfl)]
  exact h
theorem hole_rd (ha : S a = some (.frz od (.dK ps))) {b : Addr} {u : HO} (h : Rd S b u) (n : (∀ od' ps', u ≠ .frz od' (.dK ps')) ∧ ∀ ps', u ≠ .dK ps') : Rd (hole S a) b u := by
  rcases h with h | ⟨o, h⟩
  · exact .inl (hole_of ha h n.1)
  · exact .inr ⟨o, hole_of ha h fun od' ps' e => by cases e; exact n.2 _ rfl⟩
mutual
theorem Rep.hole (ha : S a = some (.frz od (.dK ps))) : ∀ (d : D) (v : V), Rep G S d v → d.nd = true → Rep G (hole S a) d v
  | .non, _, h, _ => by cases h; exact .non
  | .bl b, _, h, _ => by cases h; exact .bl b
  | .int i, _, h, _ => by cases h; exact .int i
  | .str s, _, h, _ => by cases h; exact .str s
  | .tup ds, _, h, e => by
    cases h with
    | tup h1 h2 =>
      refine .tup ?_ (Reps.hole ha ds _ h2 (by simpa [D.nd] using e))
      rcases h1 with h1 | h1
      · exact .inl (hole_rd ha h1 ⟨fun _ _ z => (nomatch z), fun _ z => (nomatch z)⟩)
      · exact .inr h1
  | .tpl ds, _, h, e => by
    cases h with
    | tpl h1 h2 h3 => exact .tpl (hole_of ha h1 fun _ _ z => nomatch z) h2 (Reps.hole ha ds _ h3 (by simpa [D.nd] using e))
  | .lst ds, _, h, e => by
    cases h with
    | lst h1 h2 => exact .lst (hole_of ha h1 fun _ _ z => nomatch z) (Reps.hole ha ds _ h2 (by simpa [D.nd] using e))
  | .fl ds, _, h, e => by
    cases h with
    | fl h1 h2 =>
      refine .fl ?_ (Reps.hole ha ds _ h2 (by simpa [D.nd] using e))
      rcases h1 with h1 | h1
      · exact .inl (hole_rd ha h1 ⟨fun _ _ z => (nomatch z), fun _ z => (nomatch z)⟩)
      · exact .inr h1
  | .dct ds, _, h, e => by cases e
  | .dcu ds, _, h, e => by cases e
  | .dcx ds x, _, h, e => by cases e
  | .ins c ds, _, h, e => by
    cases h with
    | ins h1 h2 => exact .ins (hole_of ha h1 fun _ _ z => nomatch z) (RepF.hole ha ds _ h2 (by simpa [D.nd] using e))
  | .cls c, _, h, _ => by cases h; exact .cls c
  | .exn c ds, _, h, e => by
    cases h with
    | exn h1 h2 h3 => exact .exn (hole_of ha h1 fun _ _ z => nomatch z) (hole_of ha h2 fun _ _ z => nomatch z) (RepF.hole ha ds _ h3 (by simpa [D.nd] using e))
theorem Reps.hole (ha : S a = some (.frz od (.dK ps))) : ∀ (ds : List D) (vs : List V), Reps G S ds vs → ndL ds = true → Reps G (hole S a) ds vs
  | [], _, h, _ => by cases h; exact .nil
  | d :: ds, _, h, e => by
    cases h with
    | cons h1 h2 =>
      have e := Bool.and_eq_true_iff.mp (show (d.nd && ndL ds) = true from e)
      exact .cons (Rep.hole ha d _ h1 e.1) (Reps.hole ha ds _ h2 e.2)
theorem RepF.hole (ha : S a = some (.frz od (.dK ps))) : ∀ (ds : List (T × D)) (vs : List (Str × V)), RepF G S ds vs → ndF ds = true → RepF G (hole S a) ds vs
  | [], _, h, _ => by cases h; exact .nil
  | (k, d) :: ds, _, h, e => by
    cases h with
    | cons h1 h2 =>
      have e := Bool.and_eq_true_iff.mp (show (d.nd && ndF ds) = true from e)
      exact .cons (Rep.hole ha d _ h1 e.1) (RepF.hole ha ds _ h2 e.2)
end
theorem RepK.hole (ha : S a = some (.frz od (.dK ps))) : ∀ (ds : List (Ky × D)) (vs : List (Key × V)), RepK G S ds vs → ndK ds = true → RepK G (hole S a) ds vs
  | [], _, h, _ => by cases h; exact .nil
  | (k, d) :: ds, _, h, e => by
    cases h with
    | cons h1 h2 =>
      have e := Bool.and_eq_true_iff.mp (show (d.nd && ndK ds) = true from e)
      exact .cons (Rep.hole ha d _ h1 e.1) (RepK.hole ha ds _ h2 e.2)
end
/-- e, with the dict in a name lent to what it calls -/
def eLoan (i : Nat) (f : EV) : EV := fun ρ τ => match ρ[i]? with
  | some (some (.loc n)) => match τ[n]? with
    | some (.dct kvs) => match f (ρ.set i (some (.d (.dct kvs)))) (τ.set n .dead) with
      | .ok (.d x) τ2 => if x.nd = true ∧ τ2.all Cell.nd = true then .ok (.d x) (τ2.set n (.dct kvs)) else .bad
      | _ => .bad
    | _ => .bad
  | _ => .bad
section
variable {X : Cx} {G : Gd} {W : WX} {e : Expr} {f : EV}
theorem v_loan (i : Nat) (he : PE X e (VE G W f)) : PE X e (VE G W (eLoan i f)) := by
  refine ⟨fun pins s σ H Q I ⟨z, ρ, τ, hz, c, en, q⟩ => ?_⟩
  subst hz
  unfold eLoan at q
  cases e0 : ρ[i]? with
  | none => rw [e0] at q; exact q.elim
  | some o =>
    match o, e0, q with
    | none, e0, q => rw [e0] at q; exact q.elim
    | some (.d _), e0, q => rw [e0] at q; exact q.elim
    | some .fn, e0, q => rw [e0] at q; exact q.elim
    | some (.loc n), e0, q =>
      rw [e0] at q
      simp only at q
      obtain ⟨v, sv, rv⟩ := en.at_ i _ e0
      cases rv with
      | loc hm =>
        rename_i a
        cases e1 : τ[n]? with
        | none => rw [e1] at q; exact q.elim
        | some cl =>
          rw [e1] at q
          have wc := c.at_ n a cl hm e1
          cases cl with
          | dct kvs =>
            simp only at q
            obtain ⟨hs, ps, h1, h2⟩ := wc
            have mem := List.mem_of_getElem? hm
            obtain ⟨od, I1⟩ := I.lock h1 trivial
            have f1 : Fut z ⟨upd z.S a (.frz od (.dK ps)), upd z.H a (.frz od (.dK ps)), z.ms⟩ := fut_lk h1 hs mem trivial
            have c1 : Cells G ⟨upd z.S a (.frz od (.dK ps)), upd z.H a (.frz od (.dK ps)), z.ms⟩ (τ.set n .dead) := cells_lk c hm h1 hs trivial
            have en1 : EnvR G ⟨upd z.S a (.frz od (.dK ps)), upd z.H a (.frz od (.dK ps)), z.ms⟩ (ρ.set i (some (.d (.dct kvs)))) σ := by
              have := (en.fut f1).set (i := i) (RepU.d (.dct upd_same (RepK.mono (same_upd hs) _ _ h2)) : RepU G ⟨upd z.S a (.frz od (.dK ps)), upd z.H a (.frz od (.dK ps)), z.ms⟩ (.d (.dct kvs)) (.ref a))
              have es : σ.set i (some (.ref a)) = σ := by
                obtain ⟨hi, ei⟩ := List.getElem?_eq_some_iff.mp sv
                rw [← ei]
                exact List.set_getElem_self hi
              rwa [es] at this
            refine thn (he.run pins s σ _ (fun v' H' => H' a = some (.frz od (.dK ps)) ∧ Q v' (upd H' a (.dK ps))) I1 ⟨_, _, _, rfl, c1, en1, ?_⟩) fun u s1 ⟨v', H', I2, rv', e2, q2⟩ => ⟨v', _, I2.unlock e2 (I.nofrz h1 trivial), rv', q2⟩
            cases ef : f (ρ.set i (some (.d (.dct kvs)))) (τ.set n .dead) with
            | bad => rw [ef] at q; exact q.elim
            | exc _ _ _ => rw [ef] at q; exact q.elim
            | ok u2 τ2 =>
              rw [ef] at q
              match u2, q with
              | .loc _, q => exact q.elim
              | .fn, q => exact q.elim
              | .d x, q =>
                simp only at q
                by_cases hn : x.nd = true ∧ τ2.all Cell.nd = true
                · rw [if_pos hn] at q
                  intro z2 v2 f2 c2 r2
                  have ha2 : z2.S a = some (.frz od (.dK ps)) := f2.ss a _ upd_same
                  have hH2 : z2.H a = some (.frz od (.dK ps)) := c2.sub a _ ha2
                  refine ⟨hH2, ?_⟩
                  have Hne : ∀ b, b ≠ a → upd z.H a (.frz od (.dK ps)) b = z.H b := fun b hb => upd_ne hb
                  have nea : ∀ b o, z.S b = some o → b ≠ a := fun b o eb e => by rw [e, hs] at eb; cases eb
                  have f3 : Fut z ⟨hole z2.S a, upd z2.H a (.dK ps), z2.ms⟩ := by
                    refine ⟨fun b o eb => ?_, f2.pre, fun b o eb nb tb => ?_, fun b o eb tb => ?_, fun b o eb tb nb => ?_, fun b mb => ?_⟩
                    · have nb := nea b o eb
                      exact (hole_ne nb).trans (f2.ss b o ((upd_ne nb).trans eb))
                    · have n1 : b ≠ a := fun e => nb (e ▸ mem)
                      exact (upd_ne n1).trans (f2.frame b o ((upd_ne n1).trans eb) nb tb)
                    · by_cases n1 : b = a
                      · exact ⟨.dK ps, by rw [n1]; exact upd_same, fun ps' e => nomatch e⟩
                      · obtain ⟨o', g1, g2⟩ := f2.dom b o ((upd_ne n1).trans eb) tb
                        exact ⟨o', (upd_ne n1).trans g1, g2⟩
                    · have n1 : b ≠ a := fun e => nb (e ▸ mem)
                      exact (hole_ne n1).trans ((f2.claim b o ((upd_ne n1).trans eb) tb nb).trans (upd_ne n1))
                    · rcases f2.new b mb with q1 | q1
                      · exact .inl q1
                      · by_cases n1 : b = a
                        · exact .inl (by rw [n1]; exact mem)
                        · exact .inr fun o eb => q1 o ((upd_ne n1).trans eb)
                  have ss3 : Same z.S (hole z2.S a) := f3.ss
                  have hm2 : z2.ms[n]? = some a := pre_get f2.pre hm
                  have ln : n < τ2.length := by rw [← c2.len]; exact (List.getElem?_eq_some_iff.mp hm2).1
                  have c3 : Cells G ⟨hole z2.S a, upd z2.H a (.dK ps), z2.ms⟩ (τ2.set n (.dct kvs)) := by
                    refine ⟨fun b o eb => ?_, by rw [List.length_set]; exact c2.len, c2.nd, fun b mb => ?_, fun j b cl g1 g2 => ?_, tabs_upd c2.tab hH2 trivial, fun b o eb => ?_⟩
                    · have nb : b ≠ a := fun e => by
                        have eb : hole z2.S a b = some o := eb
                        rw [e, hole_at] at eb; cases eb
                      have eb : hole z2.S a b = some o := eb
                      rw [hole_ne nb] at eb
                      exact (upd_ne nb).trans (c2.sub b o eb)
                    · by_cases nb : b = a
                      · exact ⟨.dK ps, by rw [nb]; exact upd_same, trivial⟩
                      · obtain ⟨o, g1, g2⟩ := c2.al b mb
                        exact ⟨o, (upd_ne nb).trans g1, g2⟩
                    · by_cases hj : n = j
                      · subst hj
                        have g1 : z2.ms[n]? = some b := g1
                        rw [hm2] at g1; cases g1
                        rw [List.getElem?_set_self ln] at g2
                        cases g2
                        exact ⟨hole_at, ps, upd_same, RepK.mono ss3 _ _ h2⟩
                      · rw [List.getElem?_set_ne hj] at g2
                        have nb : b ≠ a := fun e => by
                          subst e
                          exact hj (nd_ix c2.nd hm2 g1)
                        have w2 := c2.at_ j b cl g1 g2
                        have nn : cl.nd = true := List.all_eq_true.mp hn.2 cl (List.mem_of_getElem? g2)
                        have hs2 : z2.S b = none → hole z2.S a b = none := fun h => (hole_ne nb).trans h
                        cases cl with
                        | dead => exact trivial
                        | lst ds => obtain ⟨w0, vs, w1, w3⟩ := w2; exact ⟨hs2 w0, vs, (upd_ne nb).trans w1, Reps.hole ha2 _ _ w3 nn⟩
                        | dct ds => obtain ⟨w0, vs, w1, w3⟩ := w2; exact ⟨hs2 w0, vs, (upd_ne nb).trans w1, RepK.hole ha2 _ _ w3 nn⟩
                        | dcx ds x0 => cases nn
                        | ins cc ds => obtain ⟨w0, dx, vs, w1, w3⟩ := w2; exact ⟨hs2 w0, dx, vs, (upd_ne nb).trans w1, RepF.hole ha2 _ _ w3 nn⟩
                    · have nb : b ≠ a := fun e => by
                        have eb : hole z2.S a b = some o := eb
                        rw [e, hole_at] at eb; cases eb
                      have eb : hole z2.S a b = some o := eb
                      rw [hole_ne nb] at eb
                      exact c2.nt b o eb
                  have r3 : RepU G ⟨hole z2.S a, upd z2.H a (.dK ps), z2.ms⟩ (.d x) v2 := by
                    cases r2 with
                    | d r2 => exact .d (Rep.hole ha2 _ _ r2 hn.1)
                  exact q _ v2 f3 c3 r3
                · rw [if_neg hn] at q; exact q.elim
          | _ => exact q.elim
end
/-! ### repr(x), x an instance -/
structure ReprI (K : PySem.W.Frag) (C f : Addr) : Prop where
  at_ : PySem.W.findIn K (.ref C) "__repr__" = some (some (.ref f))
  fn : PySem.W.isFn K (.ref f) = true
section
variable {X : Cx} {G : Gd} {W : WX} {e a b : Expr} {fe fa fb : EV} {pos p p2 : Pos} {c k : Nat} {f : Addr} {fd : FuncData} {ps : List Str} {F : List U → Store → R U} {y : Str}
theorem call_reprI (S : ReprI X.K (G.ca c) f) (Vf : FnV X.prog X.w X.K X.mg X.base k f fd ps (spV G 1 F)) (hb : Bnd0 fd ps 1) (hr : Room (k + 2) X.A) (hgd : X.A.guards = some []) : CallR X (.builtin "repr") (rStrI X G c F) := by
  intro pins s σ H xs us Q I r h
  obtain ⟨z, fs, v, τ, hz, cc, rv, rfl, q⟩ := h
  subst hz
  cases rv with
  | ins h1 h2 =>
    rename_i x dx ps2
    have hx := cc.sub _ _ h1
    obtain ⟨ox, od, J⟩ := ins_inst I hx
    obtain ⟨u, rfl, ru⟩ := vals1 r
    cases ru
    unfold gStrI at q
    simp only [if_true] at q
    cases eF : F [.d (.ins c fs)] τ with
    | bad => rw [eF] at q; exact q.elim
    | exc _ _ _ => rw [eF] at q; exact q.elim
    | ok uo τ1 =>
      rw [eF] at q
      match uo, eF, q with
      | .d (.str t), eF, q =>
        refine VX.repr_K (by have := hr.units; omega) I.kIn J S.at_ S.fn ?_
        refine wpAny_mono (run_sub (Q := fun v H' => v = .str t.s ∧ Q (.str t.s) H') Vf (hr.mono (Nat.le_succ _)).in1 rfl (by rw [in1_guards]; exact hgd) I (hb.to s [.ref x] rfl) (vs := [.ref x]) (.cons rfl .nil) ⟨z, [.d (.ins c fs)], τ, rfl, cc, .cons (.d (.ins h1 h2)) .nil, rfl, ?_⟩) (fun w s' hq => ?_) fun _ _ y => y
        · rw [eF]
          intro z' b f' c' rb
          cases rb with
          | d rb => cases rb; exact ⟨rfl, q z' _ f' c' (.d (.str t))⟩
        · obtain ⟨v, H', I', rw', ev, q'⟩ := hq
          subst ev
          obtain ⟨tk, rfl⟩ := (show ∃ tk, w = Value.str t.s tk from rw')
          exact ⟨_, tk, rfl, .str t.s, H', I', ⟨tk, rfl⟩, q'⟩
      | .loc _, eF, q => exact q.elim
theorem v_reprI (S : ReprI X.K (G.ca c) f) (Vf : FnV X.prog X.w X.K X.mg X.base k f fd ps (spV G 1 F)) (hb : Bnd0 fd ps 1) (hr : Room (k + 2) X.A) (hgd : X.A.guards = some []) (hg : Gl X "repr") (hm : X.mg "repr" = none) (he : PE X e (VE G W fe))
    (h1 : starEach [e] X.env = (false, eval e X.env) :: starEach [] X.env := by rfl) (hpl : (backTo pos (starEach [] X.env)).any (·.1) = false := by rfl) : PE X (.Call (.Name "repr" p) [e] [] pos) (VE G W (eStrI c F fe)) := by
  refine pe_weak (pe_callB (call_reprI S Vf hb hr hgd) hg hm rfl (pa_cons he pa_nil h1) (by decide) (by decide) h1 hpl) fun σ H Q ⟨z, ρ, τ, hz, cc, en, q⟩ => ⟨z, ρ, τ, hz, cc, en, (Run.bind q).imp fun v H1 ⟨z1, u, τ1, e1, f1, c1, r1, q1⟩ => ?_⟩
  subst e1
  match u, r1, q1 with
  | .d (.ins c' fs), .d rv, w0 =>
    by_cases h : c' = c
    · subst h
      refine ⟨z1, fs, v, τ1, rfl, c1, rv, rfl, ?_⟩
      unfold gStrI at w0 ⊢
      simp only [if_true] at w0 ⊢
      split at w0
      · exact w0
      · exact w0.elim
    · unfold gStrI at w0
      simp only at w0
      rw [if_neg h] at w0
      exact w0.elim
/-! ### isinstance(x, C), x anything -/
/-- what is no instance of the class -/
def NotC (K : PySem.W.Frag) (C : Addr) : Prop := ∀ a, a ∈ ["NoneType", "bool", "int", "str", "tuple", "list", "dict"] → PySem.W.kitOne K (.type a) (.ref C) = some false
def gIsX' (c : Nat) (u : U) (τ : Store) : R U := match u with
  | .d (.ins c' fs) => gIsC c (.d (.ins c' fs)) τ
  | .d d => match d.ty with
    | some _ => .ok (.d (.bl false)) τ
    | none => .bad
  | _ => .bad
def eIsCA (c : Nat) (f : EV) : EV := fun ρ τ => (f ρ τ).bind fun u τ1 => gIsX' c u τ1
theorem v_isCA (hK : X.K = G.K) (C : InsC X.K (G.ca c)) (NC : NotC X.K (G.ca c)) (hg : Gl X "isinstance") (hm : X.mg "isinstance" = none) (hg2 : Gl X y) (hm2 : X.mg y = some (.ref (G.ca c))) (he : PE X e (VE G W fe)) (hdb : (y == ("__debug__" : Str)) = false := by decide)
    (h1 : starEach [e, .Name y p2] X.env = (false, eval e X.env) :: starEach [.Name y p2] X.env := by rfl) (h2 : starEach [.Name y p2] X.env = (false, eval (.Name y p2) X.env) :: starEach [] X.env := by rfl) (hpl : (backTo pos (starEach [.Name y p2] X.env)).any (·.1) = false := by rfl) :
    PE X (.Call (.Name "isinstance" p) [e, .Name y p2] [] pos) (VE G W (eIsCA c fe)) := by
  have hy2 : PE X (.Name y p2) (tC (.ref (G.ca c))) := pe_glob hg2 hm2 rfl hdb
  refine pe_weak (pe_callB (CallR.or (call_isC C) (call_isiY (X := X))) hg hm rfl (pa_cons he (pa_cons hy2 pa_nil h2) h1) (by decide) (by decide) h1 hpl) fun σ H Q ⟨z, ρ, τ, hz, cc, en, q⟩ => ⟨z, ρ, τ, hz, cc, en, (Run.bind q).imp fun v H1 ⟨z1, u, τ1, e1, f1, c1, r1, q1⟩ => ?_⟩
  subst e1
  unfold gIsX' at q1
  split at q1
  · rename_i c' fs
    cases r1 with
    | d r1 =>
      cases r1 with
      | ins h3 h4 =>
        unfold gIsC at q1
        by_cases h : c' = c
        · simp only at q1
          rw [if_pos h] at q1
          subst h
          exact .inl ⟨_, _, _, rfl, c1.sub _ _ h3, Run.ok (rep := RepU G) q1 c1 (.d (.bl _))⟩
        · simp only at q1
          rw [if_neg h] at q1
          exact q1.elim
  · rename_i d _
    cases e3 : d.ty with
    | none => rw [e3] at q1; exact q1.elim
    | some a =>
      rw [e3] at q1
      obtain ⟨t1, t2⟩ := ty_v c1 (vw_rep c1 r1 (show vw τ1 (.d d) = some d from rfl)) e3
      exact .inr ⟨v, .ref (G.ca c), _, _, false, rfl, .own _, hK ▸ t1, NC a t2, Run.ok (rep := RepU G) q1 c1 (.d (.bl _))⟩
  · exact q1.elim
/-! ### x == y by the own __eq__, y a tuple or None -/
def othD : D → Bool
  | .non => true
  | .tup _ => true
  | _ => false
def gEqO (c : Nat) (F : List U → Store → R U) (u w : U) (τ : Store) : R U := match u, w with
  | .d (.ins c1 fs), .d d => if c1 = c ∧ othD d = true then match F [.d (.ins c1 fs), .d d] τ with
    | .ok (.d (.bl b)) τ1 => .ok (.d (.bl b)) τ1
    | _ => .bad
    else .bad
  | _, _ => .bad
def eEqO (c : Nat) (F : List U → Store → R U) (fa fb : EV) : EV := fun ρ τ => (fa ρ τ).bind fun u τ1 => (fb ρ τ1).bind fun w τ2 => gEqO c F u w τ2
structure NotFirst (K : PySem.W.Frag) (C : Addr) : Prop where
  non : PySem.W.notFirst K C (.type "NoneType") = true
  tup : PySem.W.notFirst K C (.type "tuple") = true
def rEqO (G : Gd) (c : Nat) (F : List U → Store → R U) : R2 := fun x y H Q => ∃ z u w τ, z.H = H ∧ Cells G z τ ∧ RepU G z u x ∧ RepU G z w y ∧ Run G (RepU G) (gEqO c F u w τ) (fun _ _ _ => False) z Q
theorem tup_ty {X : Cx} {pins : List (Addr × Obj)} {σ : L2.St} {H : Hp} {s : Shared} (I : Inv X pins σ H s) {p : Addr} {xs : List V} (h : SqT X.K H p xs) {M : Model} : PySem.W.Looks M s.heap (typeOf (.ref p)) (.type "tuple") := by
  obtain ⟨_, _, ⟨o, ho, hc, n, hd⟩, _⟩ := I.tuple h
  exact PySem.W.kitAt_ty M _ ⟨o, ho, hc⟩
theorem op_eqO (S : EqI X.K (G.ca c) f) (hK : X.K = G.K) (NF : NotFirst X.K (G.ca c)) (Vf : FnV X.prog X.w X.K X.mg X.base k f fd ps (spV G 2 F)) (hb : Bnd0 fd ps 2) (hr : Room k X.A) (hgd : X.A.guards = some []) : OpR X (compareOp .Eq) (rEqO G c F) := by
  intro pins s σ H x y vx vy Q I rx ry h
  obtain ⟨z, u, w, τ, hz, cc, r1, r2, q⟩ := h
  subst hz
  unfold gEqO at q
  split at q
  · rename_i c1 fs d
    by_cases hc : c1 = c ∧ othD d = true
    · rw [if_pos hc] at q
      obtain ⟨rfl, ho⟩ := hc
      cases r1 with
      | d r1 =>
        cases r1 with
        | ins h1 h2 =>
          rename_i xa dx ps1
          cases rx
          have hx := cc.sub _ _ h1
          obtain ⟨ox, od, J⟩ := ins_inst I hx
          obtain ⟨m, hF⟩ := I.fr
          have hty : ∃ tb, PySem.W.Looks (model X.prog X.w) s.heap (typeOf vy) tb ∧ PySem.W.notFirst X.K (G.ca c1) tb = true := by
            cases r2 with
            | d r2 =>
              cases d with
              | non =>
                cases r2
                obtain rfl : vy = Value.none := ry
                exact ⟨_, PySem.W.Looks.of_pure rfl, NF.non⟩
              | tup ds =>
                cases r2 with
                | tup t1 t2 =>
                  cases ry
                  exact ⟨_, tup_ty I (by rw [hK]; exact sqT_mono cc.sub t1), NF.tup⟩
              | _ => cases ho
          obtain ⟨tb, ty, nf⟩ := hty
          cases eF : F [.d (.ins c1 fs), .d d] τ with
          | bad => rw [eF] at q; exact q.elim
          | exc _ _ _ => rw [eF] at q; exact q.elim
          | ok uo τ1 =>
            rw [eF] at q
            match uo, eF, q with
            | .d (.bl b), eF, w1 =>
              show wpAny (model X.prog X.w) X.A (richCompare .Eq (.ref xa) vy) (EP X pins σ Q) X.xe s
              refine PySem.W.cmp_K (op := .Eq) (tb := tb) hr.units0 hF I.ok.mod.kin J ty nf S.at_ S.fn ?_
              refine wpAny_mono (run_sub (Q := fun v H' => v = .bl b ∧ Q (.bl b) H') Vf hr rfl hgd I (hb.to s [.ref xa, vy] rfl) (vs := [.ref xa, y]) (.cons rfl (.cons ry .nil)) ⟨z, [.d (.ins c1 fs), .d d], τ, rfl, cc, .cons (.d (.ins h1 h2)) (.cons r2 .nil), rfl, ?_⟩) (fun w s' hq => ?_) fun _ _ y => y
              · rw [eF]
                intro z' b f' c' rb
                cases rb with
                | d rb => cases rb; exact ⟨rfl, w1 z' _ f' c' (.d (.bl _))⟩
              · obtain ⟨v, H', I', rw', ev, q'⟩ := hq
                subst ev
                obtain rfl : w = Value.bool b := rw'
                exact ⟨.bl b, H', I', rfl, q'⟩
            | .loc _, eF, w1 => exact w1.elim
    · rw [if_neg hc] at q; exact q.elim
  · exact q.elim
theorem rEqO_of {z : Z} {u w : U} {τ : Store} {x y : V} {W : XK} {Q : VK} (cc : Cells G z τ) (r1 : RepU G z u x) (r2 : RepU G z w y) (q : Run G (RepU G) (gEqO c F u w τ) W z Q) : rEqO G c F x y z.H Q := ⟨z, u, w, τ, rfl, cc, r1, r2, by
    unfold gEqO at q ⊢
    split at q
    · split at q
      · rename_i h
        rw [if_pos h]
        split at q
        · exact q
        · exact q.elim
      · exact q.elim
    · exact q.elim⟩
theorem v_eqO (S : EqI X.K (G.ca c) f) (hK : X.K = G.K) (NF : NotFirst X.K (G.ca c)) (Vf : FnV X.prog X.w X.K X.mg X.base k f fd ps (spV G 2 F)) (hb : Bnd0 fd ps 2) (hr : Room k X.A) (hgd : X.A.guards = some []) (ha : PE X a (VE G W fa)) (hbb : PE X b (VE G W fb)) (hm : behindInMarks .Eq b = false := by rfl) :
    PE X (.Compare a [.Eq] [b] pos) (VE G W (eEqO c F fa fb)) :=
  ve_step2 (pe_cmpR (op_eqO S hK NF Vf hb hr hgd) ha hbb hm) (r := rEqO G c F) (fun _ _ _ h => h) fun z u w τ x y W Q cc r1 r2 q => rEqO_of cc r1 r2 q
end
end VL

/-! The value layer, N1: properties, methods, makers by name; shapes of calls. -/
namespace VL
open PySem PySem.Spec PyProof.Rows L2 LamX
/-- a if c else b, as a test -/
def bIf (t a b : EB) : EB := fun ρ τ => (t ρ τ).bind fun c τ1 => if c then a ρ τ1 else b ρ τ1
theorem vb_if {X : Cx} {G : Gd} {W : WX} {c a b : Expr} {t fa fb : EB} {pos : Pos} (hc : PT X c (VB G W t)) (ha : PT X a (VB G W fa)) (hb : PT X b (VB G W fb)) : PT X (.IfExp c a b pos) (VB G W (bIf t fa fb)) := by
  refine ⟨fun pins s σ H Q I ⟨z, ρ, τ, hz, cz, en, q⟩ => ?_⟩
  show wpAny _ _ (do if ← PySem.isTrue c X.env (eval c X.env) then PySem.isTrue a X.env (eval a X.env) else PySem.isTrue b X.env (eval b X.env)) _ _ s
  refine wpAny_bind (thn (hc.run pins s σ H _ I ⟨z, ρ, τ, hz, cz, en, Run.bind q⟩) fun k s1 ⟨H1, I1, z1, k', τ1, e1, f, c1, r1, q1⟩ => ?_)
  subst e1
  have r1 : k' = k := r1
  subst r1
  cases k' with
  | true => exact ha.run pins s1 σ z1.H Q I1 ⟨z1, ρ, τ1, rfl, c1, en.fut f, q1⟩
  | false => exact hb.run pins s1 σ z1.H Q I1 ⟨z1, ρ, τ1, rfl, c1, en.fut f, q1⟩
structure PropD (P : Program) (w : World) (mg : Str → Option Value) (base : Heap) (G : Gd) (c k : Nat) (f : Str) (F : List U → Store → R U) : Prop where
  ex : ∃ p g fd ps, PropOf G.K (G.ca c) f p g ∧ FnV P w G.K mg base k g fd ps (spV G 1 F) ∧ Bnd0 fd ps 1
structure ReprD (P : Program) (w : World) (mg : Str → Option Value) (base : Heap) (G : Gd) (c k : Nat) (F : List U → Store → R U) : Prop where
  ex : ∃ f fd ps, ReprI G.K (G.ca c) f ∧ FnV P w G.K mg base k f fd ps (spV G 1 F) ∧ Bnd0 fd ps 1
/-- a shape of a call: a values by place (the object first), ks by name, dvs by default; os puts them in order -/
structure Shp (K : PySem.W.Frag) (fd : FuncData) (ps : List Str) (a : Nat) (ks : List Str) (dvs : List D) (os : List Nat) : Prop where
  ex : ∃ (vds : List V) (ds : List Value), Bnd K fd ps a ks ds os ∧ Vals vds ds ∧ ∀ (G : Gd) (S : Hp), Reps G S dvs vds
structure MethD (P : Program) (w : World) (mg : Str → Option Value) (base : Heap) (G : Gd) (c k n a : Nat) (m : Str) (ks : List Str) (dvs : List D) (os : List Nat) (F : List U → Store → R U) : Prop where
  ex : ∃ g fd ps, Meth G.K (G.ca c) m g ∧ FnV P w G.K mg base k g fd ps (spV G n F) ∧ Shp G.K fd ps (a + 1) ks dvs os ∧ ps.length = n
structure MakeD (P : Program) (w : World) (mg : Str → Option Value) (base : Heap) (G : Gd) (c k n a : Nat) (ks : List Str) (dvs : List D) (os : List Nat) (F : List U → Store → R U) : Prop where
  ex : ∃ f fd ps, Mk G.K (G.ca c) f ∧ FnV P w G.K mg base k f fd ps (spV G n F) ∧ Shp G.K fd ps (a + 1) ks dvs os ∧ ps.length = n
theorem shp_of {K : PySem.W.Frag} {fd : FuncData} {ps : List Str} {a : Nat} {ks : List Str} {os : List Nat} (h : ∀ (s : Shared) (us ws : List Value), us.length = a → ws.length = ks.length → bindArgs fd ⟨us, ks.zip ws⟩ = pure (ps.zip (pickL os ((us ++ ws) ++ [])))) : Shp K fd ps a ks [] os :=
  ⟨[], [], ⟨fun s us ws _ h1 h2 => .of_eq (h s us ws h1 h2)⟩, .nil, fun _ _ => .nil⟩
/-- keyword-only defaults -/
theorem shp_kw {K : PySem.W.Frag} {fd : FuncData} {ps : List Str} {a : Nat} {ks : List Str} {os : List Nat} {D0 : Addr} (ms : List (Str × Value)) {dvs : List D} {vds : List V} (hv : Vals vds (ms.map (·.2))) (hr : ∀ (G : Gd) (S : Hp), Reps G S dvs vds) (hq : ∀ q ∈ ms, PySem.W.nsIn K D0 q.1 = some (some q.2))
    (h : ∀ (us ws : List Value), us.length = a → ws.length = ks.length → KwChain D0 ms (bindArgs fd ⟨us, ks.zip ws⟩) (ps.zip (pickL os ((us ++ ws) ++ ms.map (·.2))))) : Shp K fd ps a ks dvs os :=
  ⟨vds, ms.map (·.2), ⟨fun s us ws X h1 h2 => BindsTo.of_looks fun M => KwChain.looks X hq (h us ws h1 h2)⟩, hv, hr⟩
section
variable {X : Cx} {G : Gd} {W : WX} {c k j n a' : Nat} {ps ks : List Str} {F : List U → Store → R U} {os : List Nat} {dvs : List D} {x y m nm : Str} {p pos apos p2 kpos : Pos} {e a b o : Expr} {es : List Expr} {kws : List Keyword} {fs fk : EL} {f fe fa fb fo : EV} {fl : List Str}
theorem v_propD {at_ : Str} (V : PropD X.prog X.w X.mg X.base G c k at_ F) (hK : X.K = G.K) (hr : Room j X.A) (hj : k + 1 ≤ j) (hgd : X.A.guards = some []) (D : ClsD X.mg G x c fl) (he : PE X e (VE G W fo)) (hab : attributeBase e at_ X.env (eval e X.env) = eval e X.env := by rfl) :
    PE X (.Attribute e at_ pos) (VE G W (eProp c F fo)) := by
  obtain ⟨p, g, fd, ps, q1, q2, q3⟩ := V.ex
  have cl := D.cl
  rw [← hK] at q1 q2 cl
  exact v_prop q2 (hr.mono hj) hgd cl q1 q3 he hab
theorem v_reprD (V : ReprD X.prog X.w X.mg X.base G c k F) (hK : X.K = G.K) (hr : Room j X.A) (hj : k + 2 ≤ j) (hgd : X.A.guards = some []) (hm : X.mg "repr" = none) (hg : Gl X "repr") (he : PE X e (VE G W fe))
    (h1 : starEach [e] X.env = (false, eval e X.env) :: starEach [] X.env := by rfl) (hpl : (backTo pos (starEach [] X.env)).any (·.1) = false := by rfl) : PE X (.Call (.Name "repr" p) [e] [] pos) (VE G W (eStrI c F fe)) := by
  obtain ⟨f, fd, ps, q1, q2, q3⟩ := V.ex
  rw [← hK] at q1 q2
  exact v_reprI q1 q2 q3 (hr.mono hj) hgd hg hm he h1 hpl
theorem v_methD {mt : T} {b' : Nat} {pl : Sem Bool} (V : MethD X.prog X.w X.mg X.base G c k n a' m ks dvs os F) (hK : X.K = G.K) (hr : Room j X.A) (hj : k ≤ j) (hgd : X.A.guards = some []) (tk : Takes X W) (D : ClsD X.mg G x c fl) (em : m = mt.s)
    (hmk : ks.length = b') (hos : ∀ l : List U, l.length = a' + 1 + b' + dvs.length → (pickL os l).length = n)
    (ho : PE X o (VE G W fo)) (ha : PA X (e :: es) (VA G W fs)) (hkw : PK X kws (VA G W fk)) (hall : (backToKw pos (keywordEach kws X.env)).all (·.1.isSome) = true := by rfl) (hks : (backToKw pos (keywordEach kws X.env)).filterMap (·.1) = ks := by rfl)
    (he : starEach (e :: es) X.env = (false, eval e X.env) :: starEach es X.env := by rfl) (hpl : ((backTo pos (starEach (e :: es) X.env)).any (·.1) || (backToKw pos (keywordEach kws X.env)).any (·.1.isNone)) = false := by rfl)
    (ht : eval (.Call (.Attribute o m apos) (e :: es) kws pos) X.env = (do
      let ov ← eval o X.env
      standAt apos.atName
      let (f, first) ← holding [ov] (getMethod ov m pl)
      callWith pos f first (backTo pos (starEach (e :: es) X.env)) (backToKw pos (keywordEach kws X.env))) := by rfl) :
    PE X (.Call (.Attribute o m apos) (e :: es) kws pos) (VE G W (eMeth c n mt os dvs F a' b' fo fs fk)) := by
  obtain ⟨g, fd, ps, q1, q2, ⟨vds, ds, q3, q4, q5⟩, q6⟩ := V.ex
  have cl := D.cl
  rw [← hK] at q1 q2 q3 cl
  exact v_meth (pl := pl) q2 hK (hr.mono hj) hgd tk cl q1 em q3 q4 (q5 G) q6 hmk hos ho ha hkw hall hks he hpl ht
theorem v_methKD {mt : T} {b' : Nat} {pl : Sem Bool} (V : MethD X.prog X.w X.mg X.base G c k n 0 m ks dvs os F) (hK : X.K = G.K) (hr : Room j X.A) (hj : k ≤ j) (hgd : X.A.guards = some []) (tk : Takes X W) (D : ClsD X.mg G x c fl) (em : m = mt.s)
    (hmk : ks.length = b') (hos : ∀ l : List U, l.length = 0 + 1 + b' + dvs.length → (pickL os l).length = n)
    (ho : PE X o (VE G W fo)) (hkw : PK X kws (VA G W fk)) (hall : (backToKw pos (keywordEach kws X.env)).all (·.1.isSome) = true := by rfl) (hks : (backToKw pos (keywordEach kws X.env)).filterMap (·.1) = ks := by rfl)
    (hpl : ((backTo pos (starEach [] X.env)).any (·.1) || (backToKw pos (keywordEach kws X.env)).any (·.1.isNone)) = false := by rfl)
    (ht : eval (.Call (.Attribute o m apos) [] kws pos) X.env = (do
      let ov ← eval o X.env
      standAt apos.atName
      let (f, first) ← holding [ov] (getMethod ov m pl)
      callWith pos f first (backTo pos (starEach [] X.env)) (backToKw pos (keywordEach kws X.env))) := by rfl) :
    PE X (.Call (.Attribute o m apos) [] kws pos) (VE G W (eMeth c n mt os dvs F 0 b' fo elNil fk)) := by
  obtain ⟨g, fd, ps, q1, q2, ⟨vds, ds, q3, q4, q5⟩, q6⟩ := V.ex
  have cl := D.cl
  rw [← hK] at q1 q2 q3 cl
  exact v_methK (pl := pl) q2 hK (hr.mono hj) hgd tk cl q1 em q3 q4 (q5 G) q6 hmk hos ho hkw hall hks hpl ht
theorem v_makeSD {b' : Nat} (V : MakeD X.prog X.w X.mg X.base G c k n a' ks dvs os F) (hK : X.K = G.K) (hr : Room j X.A) (hj : k + 1 ≤ j) (hgd : X.A.guards = some []) (tk : Takes X W) (D : ClsD X.mg G x c fl) (hmk : ks.length = b') (hos : ∀ l : List U, l.length = a' + 1 + b' + dvs.length → (pickL os l).length = n)
    (ha : PA X (e :: es) (VA G W fs)) (hkw : PK X kws (VA G W fk)) (hg : Gl X x) (hall : (backToKw pos (keywordEach kws X.env)).all (·.1.isSome) = true := by rfl) (hks : (backToKw pos (keywordEach kws X.env)).filterMap (·.1) = ks := by rfl)
    (hdb : (x == ("__debug__" : Str)) = false := by decide) (he : starEach (e :: es) X.env = (false, eval e X.env) :: starEach es X.env := by rfl)
    (hpl : ((backTo pos (starEach (e :: es) X.env)).any (·.1) || (backToKw pos (keywordEach kws X.env)).any (·.1.isNone)) = false := by rfl) : PE X (.Call (.Name x p) (e :: es) kws pos) (VE G W (eMakeD c a' b' F os dvs fs fk)) := by
  obtain ⟨f, fd, ps, q1, q2, ⟨vds, ds, q3, q4, q5⟩, q6⟩ := V.ex
  rw [← hK] at q1 q2 q3
  exact v_makeP q1 q2 (hr.mono hj) hgd tk D.g q3 q4 (q5 G) q6 hmk hos ha hkw hg hall hks hdb he hpl
theorem v_makeSK {b' : Nat} (V : MakeD X.prog X.w X.mg X.base G c k n 0 ks dvs os F) (hK : X.K = G.K) (hr : Room j X.A) (hj : k + 1 ≤ j) (hgd : X.A.guards = some []) (tk : Takes X W) (D : ClsD X.mg G x c fl) (hmk : ks.length = b') (hos : ∀ l : List U, l.length = 0 + 1 + b' + dvs.length → (pickL os l).length = n)
    (hkw : PK X kws (VA G W fk)) (hg : Gl X x) (hall : (backToKw pos (keywordEach kws X.env)).all (·.1.isSome) = true := by rfl) (hks : (backToKw pos (keywordEach kws X.env)).filterMap (·.1) = ks := by rfl)
    (hdb : (x == ("__debug__" : Str)) = false := by decide)
    (hpl : ((backTo pos (starEach [] X.env)).any (·.1) || (backToKw pos (keywordEach kws X.env)).any (·.1.isNone)) = false := by rfl) : PE X (.Call (.Name x p) [] kws pos) (VE G W (eMakeD c 0 b' F os dvs elNil fk)) := by
  obtain ⟨f, fd, ps, q1, q2, ⟨vds, ds, q3, q4, q5⟩, q6⟩ := V.ex
  rw [← hK] at q1 q2 q3
  exact v_makeKO q1 q2 (hr.mono hj) hgd tk D.g q3 q4 (q5 G) q6 hmk hos hkw hg hall hks hdb hpl
theorem v_eqOD (V : EqD X.prog X.w X.mg X.base G c k F) (hK : X.K = G.K) (NF : NotFirst G.K (G.ca c)) (hr : Room j X.A) (hj : k ≤ j) (hgd : X.A.guards = some []) (ha : PE X a (VE G W fa)) (hbb : PE X b (VE G W fb)) (hm : behindInMarks .Eq b = false := by rfl) :
    PE X (.Compare a [.Eq] [b] pos) (VE G W (eEqO c F fa fb)) := by
  obtain ⟨f, fd, ps, q1, q2, q3⟩ := V.ex
  rw [← hK] at q1 q2 NF
  exact v_eqO ⟨q1.at_, q1.fn⟩ hK NF q2 q3 (hr.mono hj) hgd ha hbb hm
theorem vb_eqOD (V : EqD X.prog X.w X.mg X.base G c k F) (hK : X.K = G.K) (NF : NotFirst G.K (G.ca c)) (hr : Room j X.A) (hj : k ≤ j) (hgd : X.A.guards = some []) (ha : PE X a (VE G W fa)) (hbb : PE X b (VE G W fb)) (hm : behindInMarks .Eq b = false := by rfl) :
    PT X (.Compare a [.Eq] [b] pos) (VB G W (bOf (eEqO c F fa fb))) := by
  obtain ⟨f, fd, ps, q1, q2, q3⟩ := V.ex
  rw [← hK] at q1 q2 NF
  exact vb_cmpU (op_eqO ⟨q1.at_, q1.fn⟩ hK NF q2 q3 (hr.mono hj) hgd) (fun z u w τ x y W Q cc r1 r2 q => rEqO_of cc r1 r2 q) ha hbb hm
end
end VL

/-! The draws of the laws: a pen, digits of great cells, mixed cells; for any constants (the slots as the printer orders them). -/
namespace VD
open PySem PySem.Spec PySem.NumText PyProof.Rows L2 LamX VL
theorem sl_eq : sizeLine = 16777216 := rfl
theorem atI_nat {α : Type} (l : List α) (k : Nat) : atI l (k : Int) = l[k]? := by
  unfold atI ixN
  rw [if_pos (by omega)]
  by_cases h : k < l.length
  · rw [if_pos (by omega)]
    rfl
  · rw [if_neg (by omega)]
    show none = _
    rw [List.getElem?_eq_none (by omega)]
/-- the constants of a law -/
structure DK (A B C E F : Int) : Prop where
  a : 0 ≤ A ∧ A ≤ 1000000
  b : 0 ≤ B ∧ B ≤ 1000000
  c : 0 ≤ C ∧ C ≤ 1000000
  e : 0 ≤ E ∧ E ≤ 1000000
  f : 0 ≤ F ∧ F ≤ 1000000
def PenC (ns : List Int) (a : Nat) (c : Int) : Cell := .lst [.lst (ns.map .int), .int a, .int c]
theorem pys_ints : ∀ ns : List Int, pys (ns.map D.int) = some (ns.map PyData.int)
  | [] => rfl
  | n :: ns => by
    show (match D.py (.int n), pys (ns.map D.int) with
      | some x, some xs => some (x :: xs)
      | _, _ => none) = _
    rw [pys_ints ns]
    rfl
theorem lay_ints : ∀ ns : List Int, PyData.canLayAll0 (ns.map PyData.int) = true ∧ PyData.depthAll (ns.map PyData.int) = 0
  | [] => by simp [PyData.canLayAll0, PyData.depthAll]
  | n :: ns => by
    obtain ⟨i1, i2⟩ := lay_ints ns
    simp [PyData.canLayAll0, PyData.canLay0, PyData.depthAll, PyData.depth, i1, i2]
theorem ne_ints (ns : List Int) (τ : Store) : oNe (.lst (ns.map .int)) (.lst []) τ = .ok (.d (.bl (!ns.isEmpty))) τ := by
  obtain ⟨l1, l2⟩ := lay_ints ns
  have e1 : D.py (.lst (ns.map .int)) = some (.list (ns.map PyData.int)) := by simp [D.py, pys_ints]
  have e2 : D.py (.lst []) = some (.list []) := by simp [D.py, pys]
  have s1 : shp (.list (ns.map PyData.int)) = true := by
    unfold shp SeqAt.shaped
    simp [PyData.canLay0, PyData.depth, l1, l2]
  have s2 : shp (.list []) = true := by decide
  have : oEq (.lst (ns.map .int)) (.lst []) τ = .ok (.d (.bl ns.isEmpty)) τ := by
    unfold oEq
    simp only [e1, e2]
    rw [if_pos ⟨s1, s2⟩]
    cases ns <;> simp [PyData.eqv, PyData.eqvAll]
  unfold oNe
  rw [this]
  rfl
theorem pen_at {ns : List Int} {a : Nat} {c : Int} : atI [D.lst (ns.map .int), .int a, .int c] 0 = some (.lst (ns.map .int)) ∧ atI [D.lst (ns.map .int), .int a, .int c] 1 = some (.int a) ∧ atI [D.lst (ns.map .int), .int a, .int c] 2 = some (.int c) := ⟨atI_nat _ 0, atI_nat _ 1, atI_nat _ 2⟩
theorem ix3 : ixN 3 1 = some 1 ∧ ixN 3 2 = some 2 := by decide
variable {A B C E F : Int}
def D1 (B C : Int) : EV := (eOp oMod (eCB (c1 fInt) (elCons (eOp oPow (eOp (oAdd false) (eOp (oAdd false) (eOp oMod (eCB (c1 fInt) (elCons (eVar 4) elNil)) (eC (.int 2147483563))) (eOp oMul (eC (.int B)) (eVar 3))) (eC (.int C))) (eC (.int 5))) elNil)) (eC (.int 2147483587)))
def D2 (A E F : Int) : EV := (eOp oMod (eCB (c1 fInt) (elCons (eOp oPow (eOp (oAdd false) (eOp (oAdd false) (eOp oMul (eVar 6) (eOp (oAdd false) (eOp oMul (eC (.int 2)) (eVar 3)) (eC (.int E)))) (eOp oMul (eOp oMul (eC (.int A)) (eVar 3)) (eVar 3))) (eC (.int F))) (eC (.int 3))) elNil)) (eC (.int 2147483629)))
def gDC (A B C E F : Int) : GS := (gSeq (gSet 6 (D1 B C)) (gSeq (gSet 6 (D2 A E F)) (gRet (eOp oMod (eCB (c1 fInt) (elCons (eOp oDiv (eVar 6) (eC (.int 16))) elNil)) (eVar 1)))))
def gDB (A B C E F : Int) : GS := (gSeq (gIf (bAnd (bOf (eOp oLt (eVar 3) (eCB (c1 fLen) (elCons (eIx (eVar 0) (eC (.int 0))) elNil)))) (bOf (eOp oGe (eCB (c1 fAbs) (elCons (eVar 4) elNil)) (eOp oPow (eC (.int 10)) (eC (.int 18))))))
  (gSeq (gSet 5 (eOp (oAdd false) (eOp oMul (eC (.int 2)) (eOp oSub (eCB (c1 fAbs) (elCons (eVar 4) elNil)) (eOp oPow (eC (.int 10)) (eC (.int 18))))) (eCB (c1 fInt) (elCons (eOp oLt (eVar 4) (eC (.int 0))) elNil))))
  (gSeq (gSetI (eVar 0) (eC (.int 2)) (eOp oDiv (eCB (c1 fInt) (elCons (eVar 5) elNil)) (eVar 1)))
  (gRet (eOp oMod (eCB (c1 fInt) (elCons (eVar 5) elNil)) (eVar 1)))))
  VL.gNil)
  (gDC A B C E F))
def gDraw (A B C E F : Int) : GS := (gSeq (gIf (bOf (eOp oGt (eIx (eVar 0) (eC (.int 2))) (eC (.int 0))))
  (gSeq (gSet 2 (eOp oMod (eCB (c1 fInt) (elCons (eIx (eVar 0) (eC (.int 2))) elNil)) (eVar 1)))
  (gSeq (gSetI (eVar 0) (eC (.int 2)) (eOp oDiv (eCB (c1 fInt) (elCons (eIx (eVar 0) (eC (.int 2))) elNil)) (eVar 1)))
  (gRet (eVar 2))))
  VL.gNil)
  (gSeq (gSet 3 (eIx (eVar 0) (eC (.int 1))))
  (gSeq (gSetI (eVar 0) (eC (.int 1)) (eOp (oAdd false) (eVar 3) (eC (.int 1))))
  (gSeq (gSet 4 (eOp (oAdd false) (eOp oMul (eC (.int A)) (eVar 3)) (eC (.int B))))
  (gSeq (gIf (bOf (eOp oNe (eIx (eVar 0) (eC (.int 0))) (eLst false elNil)))
  (gSet 4 (eIx (eIx (eVar 0) (eC (.int 0))) (eOp oMod (eCB (c1 fInt) (elCons (eVar 3) elNil)) (eCB (c1 fLen) (elCons (eIx (eVar 0) (eC (.int 0))) elNil)))))
  VL.gNil)
  (gDB A B C E F))))))
def dDraw (A B C E F : Int) : List U → Store → R U := callD 7 (gDraw A B C E F)
section
variable {ns : List Int} {σ : Store} {p a m : Nat} {c v : Int}
theorem nat_mod (h1 : 1 ≤ m) (x : Int) : ∃ i : Nat, x % (m : Int) = i ∧ i < m := by
  have lo := Int.emod_nonneg x (b := (m : Int)) (by omega)
  have hi := Int.emod_lt_of_pos x (b := (m : Int)) (by omega)
  exact ⟨(x % (m : Int)).toNat, by omega, by omega⟩
theorem c_mul {x : Int} (h : 0 ≤ x ∧ x ≤ 1000000) (ha : a ≤ 100000) : 0 ≤ x * (a : Int) ∧ x * (a : Int) ≤ 100000000000 := by
  refine ⟨Int.mul_nonneg h.1 (by omega), ?_⟩
  have : x * (a : Int) ≤ 1000000 * 100000 := Int.mul_le_mul h.2 (by omega) (by omega) (by omega)
  omega
theorem c_b1 (K : DK A B C E F) {q : Int} (h : 0 ≤ q ∧ q < 2147483563) (ha : a ≤ 100000) : (q + B * (a : Int) + C).natAbs < 18446744073709551616 := by
  have := c_mul K.b ha
  have := K.c
  omega
theorem c_b2 {r : Int} (h : 0 ≤ r ∧ r < 2147483587) : -18446744073709551616 < r ∧ r < 18446744073709551616 := by omega
theorem c_b3 (K : DK A B C E F) (ha : a ≤ 100000) : -18446744073709551616 < A * (a : Int) ∧ A * (a : Int) < 18446744073709551616 := by
  have := c_mul K.a ha
  omega
theorem c_s1 (K : DK A B C E F) {r : Int} (h : 0 ≤ r ∧ r < 2147483587) (ha : a ≤ 100000) : 0 ≤ r * (2 * (a : Int) + E) ∧ r * (2 * (a : Int) + E) ≤ 2576980304400000 := by
  have he := K.e
  refine ⟨Int.mul_nonneg h.1 (by omega), ?_⟩
  have : r * (2 * (a : Int) + E) ≤ 2147483587 * 1200000 := Int.mul_le_mul (by omega) (by omega) (by omega) (by omega)
  omega
theorem c_s2 (K : DK A B C E F) (ha : a ≤ 100000) : 0 ≤ A * (a : Int) * (a : Int) ∧ A * (a : Int) * (a : Int) ≤ 10000000000000000 := by
  have := c_mul K.a ha
  refine ⟨Int.mul_nonneg (by omega) (by omega), ?_⟩
  have : A * (a : Int) * (a : Int) ≤ 100000000000 * 100000 := Int.mul_le_mul (by omega) (by omega) (by omega) (by omega)
  omega
theorem c_b4 (K : DK A B C E F) {s1 s2 : Int} (h1 : 0 ≤ s1 ∧ s1 ≤ 2576980304400000) (h2 : 0 ≤ s2 ∧ s2 ≤ 10000000000000000) : (s1 + s2 + F).natAbs < 18446744073709551616 := by
  have := K.f
  omega
theorem c_mod (x : Int) {k : Int} (h : 0 < k) : ∃ r, x % k = r ∧ 0 ≤ r ∧ r < k := ⟨_, rfl, Int.emod_nonneg _ (by omega), Int.emod_lt_of_pos _ h⟩
theorem e_mod {x y : Int} (h : 0 < y) (σ : Store) : oMod (.int x) (.int y) σ = .ok (.d (.int (x % y))) σ := if_pos h
theorem e_pow5 {x : Int} (h : x.natAbs < 18446744073709551616) (σ : Store) : oPow (.int x) (.int 5) σ = .ok (.d (.int (x ^ 5))) σ := if_pos ⟨by omega, by omega, h⟩
theorem e_pow3 {x : Int} (h : x.natAbs < 18446744073709551616) (σ : Store) : oPow (.int x) (.int 3) σ = .ok (.d (.int (x ^ 3))) σ := if_pos ⟨by omega, by omega, h⟩
theorem e_mul {x y : Int} (h : -18446744073709551616 < x ∧ x < 18446744073709551616) (σ : Store) : oMul (.int x) (.int y) σ = .ok (.d (.int (x * y))) σ := if_pos (.inl h)
theorem e_op {g : D → D → Store → R U} {fa fb : EV} {ρ : VL.Env} {x y : D} {r : R U} (h1 : fa ρ σ = .ok (.d x) σ) (h2 : fb ρ σ = .ok (.d y) σ) (h3 : g x y σ = r) : eOp g fa fb ρ σ = r := by
  unfold eOp
  rw [h1, R.bind_ok, h2, R.bind_ok, opD_d, h3]
theorem e_int1 {fa : EV} {ρ : VL.Env} {x : Int} (h : fa ρ σ = .ok (.d (.int x)) σ) : eCB (c1 fInt) (elCons fa elNil) ρ σ = .ok (.d (.int x)) σ := by
  unfold eCB elCons
  rw [h]
  rfl
theorem e_cst (x : D) (ρ : VL.Env) : eC x ρ σ = .ok (.d x) σ := rfl
theorem e_add (x y : Int) : oAdd false (.int x) (.int y) σ = .ok (.d (.int (x + y))) σ := rfl
theorem e_D1 {q r : Int} {x0 x1 x2 x5 x6 : Option U} (hB : 0 ≤ B ∧ B ≤ 1000000) (hq : v % 2147483563 = q) (b1 : (q + B * (a : Int) + C).natAbs < 18446744073709551616) (hr : (q + B * (a : Int) + C) ^ 5 % 2147483587 = r) : D1 B C [x0, x1, x2, some (.d (.int a)), some (.d (.int v)), x5, x6] σ = .ok (.d (.int r)) σ := by
  subst hq hr
  exact e_op (e_int1 (e_op (e_op (e_op (e_op (e_int1 rfl) (e_cst _ _) (e_mod (by omega) σ)) (e_op (e_cst _ _) rfl (e_mul (by omega) σ)) (e_add _ _)) (e_cst _ _) (e_add _ _)) (e_cst _ _) (e_pow5 b1 σ))) (e_cst _ _) (e_mod (by omega) σ)
theorem e_D2 {r s1 s2 t : Int} {x0 x1 x2 x4 x5 : Option U} (hA : 0 ≤ A ∧ A ≤ 1000000) (b2 : -18446744073709551616 < r ∧ r < 18446744073709551616) (b3 : -18446744073709551616 < A * (a : Int) ∧ A * (a : Int) < 18446744073709551616) (hs1 : r * (2 * (a : Int) + E) = s1) (hs3 : A * (a : Int) * (a : Int) = s2)
    (b4 : (s1 + s2 + F).natAbs < 18446744073709551616) (ht : (s1 + s2 + F) ^ 3 % 2147483629 = t) : D2 A E F [x0, x1, x2, some (.d (.int a)), x4, x5, some (.d (.int r))] σ = .ok (.d (.int t)) σ := by
  subst hs1 hs3 ht
  exact e_op (e_int1 (e_op (e_op (e_op (e_op rfl (e_op (e_op (e_cst _ _) rfl (e_mul (by omega) σ)) (e_cst _ _) (e_add _ _)) (e_mul b2 σ)) (e_op (e_op (e_cst _ _) rfl (e_mul (by omega) σ)) rfl (e_mul b3 σ)) (e_add _ _)) (e_cst _ _) (e_add _ _)) (e_cst _ _) (e_pow3 b4 σ))) (e_cst _ _) (e_mod (by omega) σ)
theorem e_drawC (K : DK A B C E F) (h1 : 1 ≤ m) (h2 : m ≤ 100000) (ha : a ≤ 100000) (x2 x5 : Option U) :
    ∃ i : Nat, gDC A B C E F [some (.loc p), some (.d (.int m)), x2, some (.d (.int a)), some (.d (.int v)), x5, none] σ = .rt (.d (.int i)) σ ∧ i < m := by
  have n0 : 0 < m := by omega
  obtain ⟨q, hq, hq2⟩ := c_mod v (k := 2147483563) (by omega)
  have b1 := c_b1 K hq2 ha
  obtain ⟨r, hr, hr2⟩ := c_mod ((q + B * (a : Int) + C) ^ 5) (k := 2147483587) (by omega)
  have b4 := c_b4 K (c_s1 K hr2 ha) (c_s2 K ha)
  have f1 := fun x0 x1 x2 x5 x6 => e_D1 (σ := σ) (x0 := x0) (x1 := x1) (x2 := x2) (x5 := x5) (x6 := x6) K.b hq b1 hr
  have f2 := fun x0 x1 x2 x4 x5 => e_D2 (σ := σ) (x0 := x0) (x1 := x1) (x2 := x2) (x4 := x4) (x5 := x5) K.a (c_b2 hr2) (c_b3 K ha) rfl rfl b4 rfl
  generalize (r * (2 * (a : Int) + E) + A * (a : Int) * (a : Int) + F) ^ 3 % 2147483629 = t at f2
  obtain ⟨i, e1, e2⟩ := nat_mod h1 (t / 16)
  refine ⟨i, ?_, e2⟩
  simp [callD, outR, retU, gSeq, gIf, gRet, gRetN, gSet, gExpr, VL.gNil, gNever, gUnp, gPar, gPar3, eVar, eC, elNil, elCons, eCall, gCall, eCB, gCB, vws_cons, vws_nil, c1, c2, eOp, opD, bOf, bAnd, bOr, bNeg, eAnd, eOr, eNot, eIf, eIs, isN, eIsi, D.ty, isTy, eChain, oLe, oLt, oGt, oGe, oEq, oNe, bNot, oAdd, oSub, fLen, fLenD, D.seq, eTup, gTupD, frzs, eLst, gLstD, allocL, eIx, oIx, fMin, take_self, R.bind, liftE, RS.seq, tName, tTupN, tNames, eMt, gMt, tyD, gDC, f1, f2, fInt, oDiv, oMod, n0, e1]
theorem e_drawB (K : DK A B C E F) (hp : σ[p]? = some (PenC ns a c)) (h1 : 1 ≤ m) (h2 : m ≤ 100000) (a' : Nat) (ha : a' ≤ 100000) :
    ∃ (i : Nat) (c' : Int), gDB A B C E F [some (.loc p), some (.d (.int m)), none, some (.d (.int a')), some (.d (.int v)), none, none] σ = .rt (.d (.int i)) (σ.set p (PenC ns a c')) ∧ i < m := by
  have hlt : p < σ.length := (List.getElem?_eq_some_iff.mp hp).1
  have hself : σ.set p (PenC ns a c) = σ := by
    obtain ⟨h, e⟩ := List.getElem?_eq_some_iff.mp hp
    rw [← e]
    exact List.set_getElem_self h
  obtain ⟨p0, p1, p2⟩ := pen_at (ns := ns) (a := a) (c := c)
  have n0 : 0 < m := by omega
  have m1 : (m : Int) < 1073741824 := by omega
  obtain ⟨i0, d1, d2⟩ := e_drawC (σ := σ) (p := p) (v := v) K h1 h2 ha none none
  have hp' := hp
  unfold PenC at hp
  by_cases q1 : (a' : Int) < (ns.length : Int)
  · by_cases q2 : (1000000000000000000 : Int) ≤ (if v < 0 then -v else v)
    · obtain ⟨i, e1, e2⟩ := nat_mod h1 (2 * ((if v < 0 then -v else v) - 1000000000000000000) + (if v < 0 then 1 else 0))
      refine ⟨i, (2 * ((if v < 0 then -v else v) - 1000000000000000000) + (if v < 0 then 1 else 0)) / (m : Int), ?_, e2⟩
      simp [callD, outR, retU, gSeq, gIf, gRet, gRetN, gSet, gExpr, VL.gNil, gNever, gUnp, gPar, gPar3, eVar, eC, elNil, elCons, eCall, gCall, eCB, gCB, vws_cons, vws_nil, c1, c2, eOp, opD, bOf, bAnd, bOr, bNeg, eAnd, eOr, eNot, eIf, eIs, isN, eIsi, D.ty, isTy, eChain, oLe, oLt, oGt, oGe, oEq, oNe, bNot, oAdd, oSub, fLen, fLenD, D.seq, eTup, gTupD, frzs, eLst, gLstD, allocL, eIx, oIx, fMin, take_self, R.bind, liftE, RS.seq, tName, tTupN, tNames, eMt, gMt, tyD, gDB, vw, hp, p0, q1, q2, fAbs, oPow, oMul, fInt, gSetI, setAt, oDiv, oMod, n0, m1, ix3.2, e1, PenC]
    · refine ⟨i0, c, ?_, d2⟩
      rw [hself]
      simp [callD, outR, retU, gSeq, gIf, gRet, gRetN, gSet, gExpr, VL.gNil, gNever, gUnp, gPar, gPar3, eVar, eC, elNil, elCons, eCall, gCall, eCB, gCB, vws_cons, vws_nil, c1, c2, eOp, opD, bOf, bAnd, bOr, bNeg, eAnd, eOr, eNot, eIf, eIs, isN, eIsi, D.ty, isTy, eChain, oLe, oLt, oGt, oGe, oEq, oNe, bNot, oAdd, oSub, fLen, fLenD, D.seq, eTup, gTupD, frzs, eLst, gLstD, allocL, eIx, oIx, fMin, take_self, R.bind, liftE, RS.seq, tName, tTupN, tNames, eMt, gMt, tyD, gDB, vw, hp, p0, q1, q2, fAbs, oPow, d1]
  · refine ⟨i0, c, ?_, d2⟩
    rw [hself]
    simp [callD, outR, retU, gSeq, gIf, gRet, gRetN, gSet, gExpr, VL.gNil, gNever, gUnp, gPar, gPar3, eVar, eC, elNil, elCons, eCall, gCall, eCB, gCB, vws_cons, vws_nil, c1, c2, eOp, opD, bOf, bAnd, bOr, bNeg, eAnd, eOr, eNot, eIf, eIs, isN, eIsi, D.ty, isTy, eChain, oLe, oLt, oGt, oGe, oEq, oNe, bNot, oAdd, oSub, fLen, fLenD, D.seq, eTup, gTupD, frzs, eLst, gLstD, allocL, eIx, oIx, fMin, take_self, R.bind, liftE, RS.seq, tName, tTupN, tNames, eMt, gMt, tyD, gDB, vw, hp, p0, q1, d1]
end
section
variable {ns : List Int} {τ : Store} {p a m : Nat} {c : Int}
theorem e_draw (K : DK A B C E F) (hp : τ[p]? = some (PenC ns a c)) (h1 : 1 ≤ m) (h2 : m ≤ 100000) (ha : a ≤ 100000) :
    ∃ (i a' : Nat) (c' : Int), dDraw A B C E F [.loc p, .d (.int m)] τ = .ok (.d (.int i)) (τ.set p (PenC ns a' c')) ∧ i < m ∧ a' ≤ a + 1 := by
  have hlt : p < τ.length := (List.getElem?_eq_some_iff.mp hp).1
  have hs : ∀ X, (τ.set p X)[p]? = some X := fun X => List.getElem?_set_self hlt
  obtain ⟨p0, p1, p2⟩ := pen_at (ns := ns) (a := a) (c := c)
  have m0 : (0 : Int) < (m : Int) := by omega
  have m1 : (m : Int) < 1073741824 := by omega
  have n0 : 0 < m := by omega
  have lo : ∀ x : Int, 0 ≤ x % (m : Int) := fun x => Int.emod_nonneg _ (by omega)
  have hi : ∀ x : Int, x % (m : Int) < m := fun x => Int.emod_lt_of_pos _ m0
  have nat : ∀ x : Int, ∃ i : Nat, x % (m : Int) = i ∧ i < m := fun x => ⟨(x % (m : Int)).toNat, by have := lo x; omega, by have := lo x; have := hi x; omega⟩
  have ht : ∀ X : Cell, (τ.set p X).take τ.length = τ.set p X := fun X => List.take_of_length_le (by simp)
  unfold PenC at hp
  by_cases hc : (0 : Int) < c
  · obtain ⟨i, e1, e2⟩ := nat c
    refine ⟨i, a, c / m, ?_, e2, by omega⟩
    simp [callD, outR, retU, gSeq, gIf, gRet, gRetN, gSet, gExpr, VL.gNil, gNever, gUnp, gPar, gPar3, eVar, eC, elNil, elCons, eCall, gCall, eCB, gCB, vws_cons, vws_nil, c1, c2, eOp, opD, bOf, bAnd, bOr, bNeg, eAnd, eOr, eNot, eIf, eIs, isN, eIsi, D.ty, isTy, eChain, oLe, oLt, oGt, oGe, oEq, oNe, bNot, oAdd, oSub, fLen, fLenD, D.seq, eTup, gTupD, frzs, eLst, gLstD, allocL, eIx, oIx, fMin, take_self, R.bind, liftE, RS.seq, tName, tTupN, tNames, eMt, gMt, tyD, dDraw, gDraw, vw, hp, p2, hc, fInt, oMod, m0, n0, e1, gSetI, setAt, oDiv, m1, ix3.2, hs, PenC, ht]
  · have hp1 : (τ.set p (PenC ns (a + 1) c))[p]? = some (PenC ns (a + 1) c) := hs _
    have hq : ∀ v : Int, ∃ (i : Nat) (c' : Int), gDB A B C E F [some (.loc p), some (.d (.int m)), none, some (.d (.int a)), some (.d (.int v)), none, none] (τ.set p (PenC ns (a + 1) c)) = .rt (.d (.int i)) (τ.set p (PenC ns (a + 1) c')) ∧ i < m := fun v => by
      obtain ⟨i, c', q1, q2⟩ := e_drawB (v := v) K hp1 h1 h2 a ha
      rw [List.set_set] at q1
      exact ⟨i, c', q1, q2⟩
    have hne := ne_ints ns (τ.set p (PenC ns (a + 1) c))
    have hz := e_mul (x := A) (y := (a : Int)) (by have := K.a; omega) (τ.set p (PenC ns (a + 1) c))
    have ec : PenC ns (a + 1) c = .lst [.lst (ns.map .int), .int ((a : Int) + 1), .int c] := rfl
    obtain ⟨p0', _, _⟩ := pen_at (ns := ns) (a := a + 1) (c := c)
    have p0'' : atI [D.lst (ns.map .int), .int ((a : Int) + 1), .int c] 0 = some (.lst (ns.map .int)) := p0'
    cases ns with
    | nil =>
      obtain ⟨i, c', q1, q2⟩ := hq (A * (a : Int) + B)
      refine ⟨i, a + 1, c', ?_, q2, by omega⟩
      have hie : (!([] : List Int).isEmpty) = false := rfl
      rw [hie] at hne
      rw [ec] at q1 hne hz
      generalize ([] : List Int).map D.int = ds at *
      simp [callD, outR, retU, gSeq, gIf, gRet, gRetN, gSet, gExpr, VL.gNil, gNever, gUnp, gPar, gPar3, eVar, eC, elNil, elCons, eCall, gCall, eCB, gCB, vws_cons, vws_nil, c1, c2, eOp, opD, bOf, bAnd, bOr, bNeg, eAnd, eOr, eNot, eIf, eIs, isN, eIsi, D.ty, isTy, eChain, oLe, oLt, oGt, oGe, oAdd, oSub, fLen, fLenD, D.seq, eTup, gTupD, frzs, eLst, gLstD, allocL, eIx, oIx, fMin, take_self, R.bind, liftE, RS.seq, tName, tTupN, tNames, eMt, gMt, tyD, dDraw, gDraw, vw, hp, p1, p2, hc, gSetI, setAt, ix3.1, hs, hz, p0'', hne, q1, ht]
    | cons x xs =>
      have hl : (0 : Int) < ((x :: xs).length : Int) := by rw [List.length_cons]; omega
      have hm := e_mod (x := (a : Int)) hl (τ.set p (PenC (x :: xs) (a + 1) c))
      obtain ⟨k, hk⟩ : ∃ k : Nat, (a : Int) % ((x :: xs).length : Int) = k := ⟨a % (x :: xs).length, by simp⟩
      have hk2 : k < (x :: xs).length := by
        have := Int.emod_lt_of_pos (a : Int) hl
        omega
      have hat : atI ((x :: xs).map D.int) (k : Int) = some (.int (x :: xs)[k]) := by
        rw [atI_nat, List.getElem?_map, List.getElem?_eq_getElem hk2]
        rfl
      obtain ⟨i, c', q1, q2⟩ := hq ((x :: xs)[k])
      refine ⟨i, a + 1, c', ?_, q2, by omega⟩
      rw [hk] at hm
      rw [ec] at q1 hne hz hm
      have hlen : ((x :: xs).map D.int).length = (x :: xs).length := List.length_map _
      have hie : (!(x :: xs).isEmpty) = true := rfl
      rw [hie] at hne
      generalize (x :: xs)[k] = v at hat q1
      generalize (x :: xs).length = len at hm hlen hl
      generalize (x :: xs).map D.int = ds at *
      have hlen' : (ds.length : Int) = (len : Int) := by rw [hlen]
      simp [callD, outR, retU, gSeq, gIf, gRet, gRetN, gSet, gExpr, VL.gNil, gNever, gUnp, gPar, gPar3, eVar, eC, elNil, elCons, eCall, gCall, eCB, gCB, vws_cons, vws_nil, c1, c2, eOp, opD, bOf, bAnd, bOr, bNeg, eAnd, eOr, eNot, eIf, eIs, isN, eIsi, D.ty, isTy, eChain, oLe, oLt, oGt, oGe, oAdd, oSub, fLen, fLenD, D.seq, eTup, gTupD, frzs, eLst, gLstD, allocL, eIx, oIx, fMin, take_self, R.bind, liftE, RS.seq, tName, tTupN, tNames, eMt, gMt, tyD, dDraw, gDraw, vw, hp, p1, p2, hc, gSetI, setAt, ix3.1, hs, hz, p0'', hne, fInt, hlen, hm, hat, q1, ht]
end
/-! ### one of some things -/
def gPick (d : List U → Store → R U) : GS := (gRet (eIx (eVar 1) (eCall 2 d (elCons (eVar 0) (elCons (eCB (c1 fLen) (elCons (eVar 1) elNil)) elNil)))))
def dPick (d : List U → Store → R U) : List U → Store → R U := callD 2 (gPick d)
section
variable {ns : List Int} {τ : Store} {p a : Nat} {c : Int}
theorem e_pick (K : DK A B C E F) {ds : List D} (hp : τ[p]? = some (PenC ns a c)) (h1 : 1 ≤ ds.length) (h2 : ds.length ≤ 100000) (ha : a ≤ 100000) :
    ∃ (x : D) (a' : Nat) (c' : Int), dPick (dDraw A B C E F) [.loc p, .d (.lst ds)] τ = .ok (.d x) (τ.set p (PenC ns a' c')) ∧ x ∈ ds ∧ a' ≤ a + 1 := by
  obtain ⟨i, a', c', e, hi, hl⟩ := e_draw K hp h1 h2 ha
  have ht : ∀ X : Cell, (τ.set p X).take τ.length = τ.set p X := fun X => List.take_of_length_le (by simp)
  have hat : atI ds (i : Int) = some ds[i] := by rw [atI_nat, List.getElem?_eq_getElem hi]
  refine ⟨ds[i], a', c', ?_, List.getElem_mem hi, hl⟩
  generalize ds[i] = x at hat
  simp [callD, outR, retU, gSeq, gIf, gRet, gRetN, gSet, gExpr, VL.gNil, gNever, gUnp, gPar, gPar3, eVar, eC, elNil, elCons, eCall, gCall, eCB, gCB, vws_cons, vws_nil, c1, c2, eOp, opD, bOf, bAnd, bOr, bNeg, eAnd, eOr, eNot, eIf, eIs, isN, eIsi, D.ty, isTy, eChain, oLe, oLt, oGt, oGe, oEq, oNe, bNot, oAdd, oSub, fLen, fLenD, D.seq, eTup, gTupD, frzs, eLst, gLstD, allocL, eIx, oIx, fMin, take_self, R.bind, liftE, RS.seq, tName, tTupN, tNames, eMt, gMt, tyD, dPick, gPick, e, hat, ht]
end
end VD

/-! Plain data, shown and compared. -/
namespace VD
open PySem PySem.Spec PySem.NumText PyProof.Rows L2 LamX VL
mutual
/-- None, bools, small ints, plain texts, rows of such -/
def nice : D → Bool
  | .non => true
  | .bl _ => true
  | .int i => decide (i.natAbs < 10 ^ 45)
  | .str t => t.all fun c => decide (c < 1114112)
  | .tup ds => niceL ds
  | .tpl ds => niceL ds
  | .lst ds => niceL ds
  | _ => false
def niceL : List D → Bool
  | [] => true
  | d :: ds => nice d && niceL ds
end
mutual
def pyD : D → PyData
  | .bl b => .bool b
  | .int i => .int i
  | .str t => .str t.s
  | .tup ds => .tuple (pyL ds)
  | .tpl ds => .tuple (pyL ds)
  | .lst ds => .list (pyL ds)
  | _ => .none
def pyL : List D → List PyData
  | [] => []
  | d :: ds => pyD d :: pyL ds
end
mutual
/-- how long it is when shown, at most -/
def wt : D → Nat
  | .bl _ => 5
  | .int _ => 46
  | .str t => 10 * t.length + 2
  | .tup ds => wtL ds + 3
  | .tpl ds => wtL ds + 3
  | .lst ds => wtL ds + 3
  | _ => 4
def wtL : List D → Nat
  | [] => 0
  | d :: ds => wt d + 2 + wtL ds
end
mutual
def dep : D → Nat
  | .tup ds => depL ds + 1
  | .tpl ds => depL ds + 1
  | .lst ds => depL ds + 1
  | _ => 0
def depL : List D → Nat
  | [] => 0
  | d :: ds => max (dep d) (depL ds)
end
theorem pyL_map : ∀ ds : List D, pyL ds = ds.map pyD
  | [] => rfl
  | d :: ds => by simp [pyL, pyL_map ds]
theorem niceL_iff : ∀ {ds : List D}, niceL ds = true ↔ ∀ d ∈ ds, nice d = true
  | [] => by simp [niceL]
  | d :: ds => by simp [niceL, niceL_iff (ds := ds)]
mutual
theorem py_nice : ∀ d : D, nice d = true → d.py = some (pyD d)
  | .non, _ => rfl
  | .bl b, _ => rfl
  | .int i, _ => rfl
  | .str t, _ => rfl
  | .tup ds, h => by
    have e := pys_nice ds (by simpa [nice] using h)
    simp [D.py, e, pyD]
  | .tpl ds, h => by
    have e := pys_nice ds (by simpa [nice] using h)
    simp [D.py, e, pyD]
  | .lst ds, h => by
    have e := pys_nice ds (by simpa [nice] using h)
    simp [D.py, e, pyD]
  | .fl _, h => by simp [nice] at h
  | .dct _, h => by simp [nice] at h
  | .dcu _, h => by simp [nice] at h
  | .dcx _ _, h => by simp [nice] at h
  | .ins _ _, h => by simp [nice] at h
  | .cls _, h => by simp [nice] at h
  | .exn _ _, h => by simp [nice] at h
theorem pys_nice : ∀ ds : List D, niceL ds = true → pys ds = some (pyL ds)
  | [], _ => rfl
  | d :: ds, h => by
    have h := Bool.and_eq_true_iff.mp (show (nice d && niceL ds) = true from h)
    show (match D.py d, pys ds with
      | some x, some xs => some (x :: xs)
      | _, _ => none) = _
    rw [py_nice d h.1, pys_nice ds h.2]
    rfl
end
mutual
theorem lay_nice : ∀ d : D, nice d = true → (pyD d).canLay0 = true
  | .non, _ => by simp [pyD, PyData.canLay0]
  | .bl b, _ => by simp [pyD, PyData.canLay0]
  | .int i, _ => by simp [pyD, PyData.canLay0]
  | .str t, h => by
    have h : (t.all fun c => decide (c < 1114112)) = true := by simpa [nice] using h
    simp only [pyD, PyData.canLay0]
    unfold PyData.strOk T.s
    rw [← Array.all_toList]
    exact List.all_eq_true.mpr fun c hc => List.all_eq_true.mp h c (by simpa using hc)
  | .tup ds, h => by simp only [pyD, PyData.canLay0]; exact layL_nice ds (by simpa [nice] using h)
  | .tpl ds, h => by simp only [pyD, PyData.canLay0]; exact layL_nice ds (by simpa [nice] using h)
  | .lst ds, h => by simp only [pyD, PyData.canLay0]; exact layL_nice ds (by simpa [nice] using h)
  | .fl _, h => by simp [nice] at h
  | .dct _, h => by simp [nice] at h
  | .dcu _, h => by simp [nice] at h
  | .dcx _ _, h => by simp [nice] at h
  | .ins _ _, h => by simp [nice] at h
  | .cls _, h => by simp [nice] at h
  | .exn _ _, h => by simp [nice] at h
theorem layL_nice : ∀ ds : List D, niceL ds = true → PyData.canLayAll0 (pyL ds) = true
  | [], _ => by simp [pyL, PyData.canLayAll0]
  | d :: ds, h => by
    have h := Bool.and_eq_true_iff.mp (show (nice d && niceL ds) = true from h)
    simp only [pyL, PyData.canLayAll0, lay_nice d h.1, layL_nice ds h.2, Bool.and_self]
end
mutual
theorem dep_py : ∀ d : D, (pyD d).depth ≤ dep d
  | .non => by simp [pyD, PyData.depth]
  | .bl b => by simp [pyD, PyData.depth]
  | .int i => by simp [pyD, PyData.depth]
  | .str t => by simp [pyD, PyData.depth]
  | .tup ds => by have := depL_py ds; simp only [pyD, PyData.depth, dep]; omega
  | .tpl ds => by have := depL_py ds; simp only [pyD, PyData.depth, dep]; omega
  | .lst ds => by have := depL_py ds; simp only [pyD, PyData.depth, dep]; omega
  | .fl _ => by simp [pyD, PyData.depth]
  | .dct _ => by simp [pyD, PyData.depth]
  | .dcu _ => by simp [pyD, PyData.depth]
  | .dcx _ _ => by simp [pyD, PyData.depth]
  | .ins _ _ => by simp [pyD, PyData.depth]
  | .cls _ => by simp [pyD, PyData.depth]
  | .exn _ _ => by simp [pyD, PyData.depth]
theorem depL_py : ∀ ds : List D, PyData.depthAll (pyL ds) ≤ depL ds
  | [] => by simp [pyL, PyData.depthAll]
  | d :: ds => by
    have h1 := dep_py d
    have h2 := depL_py ds
    simp only [pyL, PyData.depthAll, depL]
    omega
end
mutual
theorem show_ok : ∀ d : D, nice d = true → (pyD d).showable = true
  | .non, _ => by simp [pyD, PyData.showable]
  | .bl b, _ => by simp [pyD, PyData.showable]
  | .int i, h => by
    have h : i.natAbs < 10 ^ 45 := of_decide_eq_true (by simpa only [nice] using h)
    simp only [pyD, PyData.showable]
    refine decide_eq_true ?_
    by_cases e : i.natAbs = 0
    · rw [e]; decide
    · have : i.natAbs.log2 < 150 := (Nat.log2_lt e).mpr (Nat.lt_of_lt_of_le h (by decide))
      omega
  | .str t, _ => by simp [pyD, PyData.showable]
  | .tup ds, h => by simp only [pyD, PyData.showable]; exact showL_ok ds (by simpa [nice] using h)
  | .tpl ds, h => by simp only [pyD, PyData.showable]; exact showL_ok ds (by simpa [nice] using h)
  | .lst ds, h => by simp only [pyD, PyData.showable]; exact showL_ok ds (by simpa [nice] using h)
  | .fl _, h => by simp [nice] at h
  | .dct _, h => by simp [nice] at h
  | .dcu _, h => by simp [nice] at h
  | .dcx _ _, h => by simp [nice] at h
  | .ins _ _, h => by simp [nice] at h
  | .cls _, h => by simp [nice] at h
  | .exn _ _, h => by simp [nice] at h
theorem showL_ok : ∀ ds : List D, niceL ds = true → PyData.showableAll (pyL ds) = true
  | [], _ => by simp [pyL, PyData.showableAll]
  | d :: ds, h => by
    have h := Bool.and_eq_true_iff.mp (show (nice d && niceL ds) = true from h)
    simp only [pyL, PyData.showableAll, show_ok d h.1, showL_ok ds h.2, Bool.and_self]
end
mutual
theorem wt_ok : ∀ d : D, nice d = true → (pyD d).shown.length ≤ wt d
  | .non, _ => by simp only [pyD, PyData.shown, wt]; decide
  | .bl b, _ => by cases b <;> (simp only [pyD, PyData.shown, wt]; decide)
  | .int i, h => by
    have h : i.natAbs < 10 ^ 45 := of_decide_eq_true (by simpa only [nice] using h)
    simp only [pyD, PyData.shown, wt]
    have := int_text_length_le10 (a := i) (k := 45) (by decide) h
    have e : (PySem.Str.ofString (toString i)).length = (toString i).length := PySem.ofString_length _
    omega
  | .str t, h => by
    have h : (t.all fun c => decide (c < 1114112)) = true := by simpa [nice] using h
    simp only [pyD, PyData.shown, wt]
    have := PySem.StrLaws.reprText_len t.s fun c hc => by
      have := of_decide_eq_true (List.all_eq_true.mp h c (by simpa [T.s] using hc))
      have e : (16 : Nat) ^ 8 = 4294967296 := by decide
      omega
    rw [T.len] at this
    exact this
  | .tup ds, h => by
    obtain ⟨h1, h2⟩ := wtL_ok ds (by simpa [nice] using h)
    simp only [pyD, PyData.shown, wt]
    have := tupleText_len_le (PyData.shownAll (pyL ds))
    omega
  | .tpl ds, h => by
    obtain ⟨h1, h2⟩ := wtL_ok ds (by simpa [nice] using h)
    simp only [pyD, PyData.shown, wt]
    have := tupleText_len_le (PyData.shownAll (pyL ds))
    omega
  | .lst ds, h => by
    obtain ⟨h1, h2⟩ := wtL_ok ds (by simpa [nice] using h)
    simp only [pyD, PyData.shown, wt]
    have := listText_len_le (PyData.shownAll (pyL ds))
    omega
  | .fl _, h => by simp [nice] at h
  | .dct _, h => by simp [nice] at h
  | .dcu _, h => by simp [nice] at h
  | .dcx _ _, h => by simp [nice] at h
  | .ins _ _, h => by simp [nice] at h
  | .cls _, h => by simp [nice] at h
  | .exn _ _, h => by simp [nice] at h
theorem wtL_ok : ∀ ds : List D, niceL ds = true → ((PyData.shownAll (pyL ds)).map (·.length)).sum + 2 * (PyData.shownAll (pyL ds)).length ≤ wtL ds ∧ True
  | [], _ => by simp [pyL, PyData.shownAll, wtL]
  | d :: ds, h => by
    have h := Bool.and_eq_true_iff.mp (show (nice d && niceL ds) = true from h)
    have h1 := wt_ok d h.1
    obtain ⟨h2, _⟩ := wtL_ok ds h.2
    refine ⟨?_, trivial⟩
    simp only [pyL, PyData.shownAll, wtL, List.map_cons, List.sum_cons, List.length_cons]
    omega
end
theorem shp_nice {d : D} (h : nice d = true) (hd : dep d ≤ 64) : shp (pyD d) = true := by
  unfold shp SeqAt.shaped
  rw [lay_nice d h, decide_eq_true (Nat.le_trans (dep_py d) hd)]
  rfl
/-- a == b of plain data -/
theorem eq_nice {a b : D} (ha : nice a = true) (hb : nice b = true) (da : dep a ≤ 64) (db : dep b ≤ 64) (τ : Store) : oEq a b τ = .ok (.d (.bl (PyData.eqv (pyD a) (pyD b)))) τ := by
  have gen : (match a.py, b.py with
    | some x, some y => if shp x = true ∧ shp y = true then (.ok (.d (.bl (PyData.eqv x y))) τ : R U) else .bad
    | _, _ => .bad) = .ok (.d (.bl (PyData.eqv (pyD a) (pyD b)))) τ := by
    rw [py_nice a ha, py_nice b hb]
    simp only
    rw [if_pos ⟨shp_nice ha da, shp_nice hb db⟩]
  unfold oEq
  split
  · rename_i i j
    simp only [pyD, PyData.eqv]
    by_cases e : i = j
    · subst e; simp
    · simp [e]
  · rename_i s t
    simp only [pyD, PyData.eqv]
    by_cases e : s = t
    · subst e; simp
    · have : ¬ s.s = t.s := fun q => e (T.inj q)
      simp [e, this]
  · rename_i s t
    cases s <;> cases t <;> rfl
  · exact gen
theorem eq_same {a : D} (ha : nice a = true) (da : dep a ≤ 64) (τ : Store) : oEq a a τ = .ok (.d (.bl true)) τ := by
  rw [eq_nice ha ha da da, SeqAt.eqv_refl _ (lay_nice a ha)]
theorem ne_same {a : D} (ha : nice a = true) (da : dep a ≤ 64) (τ : Store) : oNe a a τ = .ok (.d (.bl false)) τ := by
  unfold oNe
  rw [eq_same ha da]
  rfl
/-- repr(x) of plain data -/
def shD (d : D) : T := showT (pyD d)
theorem repr_nice {d : D} (h : nice d = true) (hl : (∃ ds, d = .lst ds) ∨ ∃ ds, d = .tup ds) (hd : dep d ≤ 30) (hw : wt d ≤ 16777216) (τ : Store) : fRepr d τ = .ok (.d (.str (shD d))) τ := by
  have e : fRepr.rp d τ = .ok (.d (.str (shD d))) τ := by
    unfold fRepr.rp
    rw [py_nice d h]
    simp only
    rw [if_pos ⟨show_ok d h, PyData.hasDict_of_canLay _ (lay_nice d h), Nat.le_trans (dep_py d) hd, Nat.le_trans (wt_ok d h) hw⟩]
    rfl
  rcases hl with ⟨ds, rfl⟩ | ⟨ds, rfl⟩ <;> exact e
theorem str_eq (t : T) (τ : Store) : oEq (.str t) (.str t) τ = .ok (.d (.bl true)) τ := by simp [oEq]
theorem str_ne (t : T) (τ : Store) : oNe (.str t) (.str t) τ = .ok (.d (.bl false)) τ := by simp [oNe, str_eq, bNot]
end VD

/-! Steps of expressions and statements, one by one. -/
namespace VD
open PySem PySem.Spec PySem.NumText PyProof.Rows L2 LamX VL
section
variable {ρ ρ1 : VL.Env} {τ τ1 τ2 : Store} {fa f g h : EV} {fr fs fk : EL} {u w x : U} {us xs : List U} {i j n : Nat} {F : List U → Store → R U} {r : R U}
theorem e_var (h : ρ[i]? = some (some u)) (τ : Store) : eVar i ρ τ = .ok u τ := by simp only [eVar, h]
theorem el0 (ρ : VL.Env) (τ : Store) : elNil ρ τ = .ok [] τ := rfl
theorem el_c (h1 : fa ρ τ = .ok x τ1) (h2 : fr ρ τ1 = .ok xs τ2) : elCons fa fr ρ τ = .ok (x :: xs) τ2 := by
  unfold elCons
  rw [h1, R.bind_ok, h2, R.bind_ok]
theorem el1 (h : fa ρ τ = .ok x τ1) : elCons fa elNil ρ τ = .ok [x] τ1 := el_c h rfl
theorem e_call (h1 : fs ρ τ = .ok us τ1) (hn : us.length = n) (h2 : F us τ1 = r) : eCall n F fs ρ τ = r := by
  unfold eCall
  rw [h1, R.bind_ok]
  unfold gCall
  rw [if_pos hn]
  exact h2
theorem e_call1 (h1 : fs ρ τ = .ok [u] τ1) (h2 : F [u] τ1 = r) : eCall 1 F fs ρ τ = r := e_call h1 rfl h2
theorem e_call2 (h1 : fs ρ τ = .ok [u, w] τ1) (h2 : F [u, w] τ1 = r) : eCall 2 F fs ρ τ = r := e_call h1 rfl h2
theorem e_call3 (h1 : fs ρ τ = .ok [u, w, x] τ1) (h2 : F [u, w, x] τ1 = r) : eCall 3 F fs ρ τ = r := e_call h1 rfl h2
theorem e_call4 {y : U} (h1 : fs ρ τ = .ok [u, w, x, y] τ1) (h2 : F [u, w, x, y] τ1 = r) : eCall 4 F fs ρ τ = r := e_call h1 rfl h2
theorem g_set (h : f ρ τ = .ok u τ1) : gSet i f ρ τ = .nx (ρ.set i (some u)) τ1 := by
  unfold gSet
  rw [h]
  rfl
theorem g_par (h : fs ρ τ = .ok [u, w] τ1) : gPar i j fs ρ τ = .nx ((ρ.set i (some u)).set j (some w)) τ1 := by
  unfold gPar
  rw [h]
  rfl
theorem g_par3 {k : Nat} (h : fs ρ τ = .ok [u, w, x] τ1) : gPar3 i j k fs ρ τ = .nx (((ρ.set i (some u)).set j (some w)).set k (some x)) τ1 := by
  unfold gPar3
  rw [h]
  rfl
theorem g_if {t : EB} {g h : GS} {b : Bool} (e : t ρ τ = .ok b τ1) : gIf t g h ρ τ = if b then g ρ τ1 else h ρ τ1 := by
  unfold gIf
  rw [e]
  rfl
theorem g_ifF {t : EB} {g : GS} (e : t ρ τ = .ok false τ1) : gIf t g VL.gNil ρ τ = .nx ρ τ1 := by rw [g_if e]; rfl
theorem g_seq {g h : GS} (e : g ρ τ = .nx ρ1 τ1) : gSeq g h ρ τ = h ρ1 τ1 := by
  unfold gSeq
  rw [e]
  rfl
theorem g_ret (h : f ρ τ = .ok u τ1) : gRet f ρ τ = .rt u τ1 := by
  unfold gRet
  rw [h]
  rfl
theorem g_expr (h : f ρ τ = .ok u τ1) : gExpr f ρ τ = .nx ρ τ1 := by
  unfold gExpr
  rw [h]
  rfl
theorem b_of {b : Bool} (h : f ρ τ = .ok (.d (.bl b)) τ1) : bOf f ρ τ = .ok b τ1 := by
  unfold bOf
  rw [h]
  rfl
theorem b_neg {f : EB} {b : Bool} (h : f ρ τ = .ok b τ1) : bNeg f ρ τ = .ok (!b) τ1 := by
  unfold bNeg
  rw [h]
  rfl
theorem b_orF {f g : EB} {b : Bool} (h : f ρ τ = .ok false τ1) (h2 : g ρ τ1 = .ok b τ2) : bOr f g ρ τ = .ok b τ2 := by
  unfold bOr
  rw [h, R.bind_ok]
  exact h2
theorem b_if {t f g : EB} {b c : Bool} (h : t ρ τ = .ok c τ1) (h2 : (if c then f ρ τ1 else g ρ τ1) = .ok b τ2) : bIf t f g ρ τ = .ok b τ2 := by
  unfold bIf
  rw [h, R.bind_ok]
  exact h2
theorem sg_self {x : Option U} (h : i < ρ.length) : (ρ.set i x)[i]? = some x := List.getElem?_set_self h
theorem sg_ne {x : Option U} (h : i ≠ j) {y : Option (Option U)} (e : ρ[j]? = y) : (ρ.set i x)[j]? = y := by rw [List.getElem?_set_ne h]; exact e
theorem e_op2 {o : D → D → Store → R U} {x y : D} {fa fb : EV} (h1 : fa ρ τ = .ok (.d x) τ1) (h2 : fb ρ τ1 = .ok (.d y) τ2) (h3 : o x y τ2 = r) : eOp o fa fb ρ τ = r := by
  unfold eOp
  rw [h1, R.bind_ok, h2, R.bind_ok, opD_d, h3]
theorem e_cb1 {F : D → Store → R U} {x : D} (h1 : fa ρ τ = .ok (.d x) τ1) (h2 : F x τ1 = r) : eCB (c1 F) (elCons fa elNil) ρ τ = r := by
  unfold eCB
  rw [el1 h1, R.bind_ok]
  unfold gCB
  exact h2
theorem e_andT (h1 : f ρ τ = .ok (.d (.bl true)) τ1) (h2 : g ρ τ1 = r) : eAnd f g ρ τ = r := by
  unfold eAnd
  rw [h1, R.bind_ok]
  exact h2
theorem set_pen {X Y : Cell} {r : Store} : (X :: r).set 0 Y = Y :: r := rfl
end
/-! ### slices -/
theorem cut_to (l : List D) (k : Nat) : cut l none (some (k : Int)) = l.take k := by
  unfold cut
  rw [HT.sIx_nat]
  show (l.drop 0).take (min k l.length - 0) = l.take k
  rw [List.drop_zero, Nat.sub_zero]
  rcases Nat.le_total k l.length with h | h
  · rw [Nat.min_eq_left h]
  · rw [Nat.min_eq_right h, List.take_of_length_le (Nat.le_refl _), List.take_of_length_le h]
theorem cut_from (l : List D) (k : Nat) : cut l (some (k : Int)) none = l.drop k := by
  unfold cut
  rw [HT.sIx_nat]
  show (l.drop (min k l.length)).take (l.length - min k l.length) = l.drop k
  rcases Nat.le_total k l.length with h | h
  · rw [Nat.min_eq_left h, List.take_of_length_le (by simp)]
  · rw [Nat.min_eq_right h, List.drop_eq_nil_of_le (Nat.le_refl _), List.drop_eq_nil_of_le h]
    simp
/-! ### the pen -/
def gPen : GS := (gRet (eLst true (elCons (eCB (c1 (fList false)) (elCons (eSl false (eVar 0) eoNone (eoSome (eC (.int 63)))) elNil)) (elCons (eC (.int 0)) (elCons (eC (.int 0)) elNil)))))
theorem e_pen (ns : List Int) (hl : ns.length ≤ 63) : callO 1 gPen [.d (.fl (ns.map .int))] [] = .ok (.loc 0) [PenC ns 0 0] := by
  have hc : cut (ns.map D.int) none (some ((63 : Nat) : Int)) = ns.map D.int := by
    rw [cut_to, List.take_of_length_le (by simpa using hl)]
  have hc : cut (ns.map D.int) none (some 63) = ns.map D.int := hc
  have three : 3 ≤ sizeLine := by rw [sl_eq]; omega
  unfold PenC
  generalize ns.map D.int = ds at *
  simp [gPen, callO, outO, retO, eSl, gSl, eoNone, eoSome, oSl, fList, hc, three, gRet, eLst, gLstD, allocL, elNil, elCons, eCB, gCB, vws_cons, vws_nil, c1, eC, eVar, R.bind, liftE, frzs, D.seq]
end VD

namespace K80
open PySem PySem.Spec PyProof.Rows L2 LamX VL
/-! ### printed by gen3.py: the defs of duskwishes_k80_ledgers_made_and_refused -/
def top (i : Nat) : Stmt := PySem.Challenge.pw_duskwishes_k80_ledgers_made_and_refused.main.body.getD i (.Pass ⟨0, 0, 0, 0⟩)
theorem lit0 : (PySem.Str.ofString "q") = T.s [113] := by decide +kernel
theorem lit1 : (PySem.Str.ofString "r") = T.s [114] := by decide +kernel
theorem lit2 : (PySem.Str.ofString "with_load") = T.s [119, 105, 116, 104, 95, 108, 111, 97, 100] := by decide +kernel
theorem lit3 : (PySem.Str.ofString "with_rush") = T.s [119, 105, 116, 104, 95, 114, 117, 115, 104] := by decide +kernel
theorem lit4 : (PySem.Str.ofString "n") = T.s [110] := by decide +kernel
theorem lit5 : (PySem.Str.ofString "Ledger(") = T.s [76, 101, 100, 103, 101, 114, 40] := by decide +kernel
theorem lit6 : (PySem.Str.ofString " weights)") = T.s [32, 119, 101, 105, 103, 104, 116, 115, 41] := by decide +kernel
theorem lit7 : (PySem.Str.ofString "a") = T.s [97] := by decide +kernel
theorem lit8 : (PySem.Str.ofString "b") = T.s [98] := by decide +kernel
theorem lit9 : (PySem.Str.ofString "shores") = T.s [115, 104, 111, 114, 101, 115] := by decide +kernel
theorem lit10 : (PySem.Str.ofString "zzzzzzzz") = T.s [122, 122, 122, 122, 122, 122, 122, 122] := by decide +kernel
theorem lit11 : (PySem.Str.ofString "m") = T.s [109] := by decide +kernel
theorem lit12 : (PySem.Str.ofString "k") = T.s [107] := by decide +kernel
theorem lit13 : (PySem.Str.ofString "ab") = T.s [97, 98] := by decide +kernel
theorem lit14 : (PySem.Str.ofString "aa") = T.s [97, 97] := by decide +kernel
theorem lit15 : (PySem.Str.ofString "weights") = T.s [119, 101, 105, 103, 104, 116, 115] := by decide +kernel
theorem lit16 : (PySem.Str.ofString "load") = T.s [108, 111, 97, 100] := by decide +kernel
theorem lit17 : (PySem.Str.ofString "rush") = T.s [114, 117, 115, 104] := by decide +kernel
theorem lit18 : (PySem.Str.ofString "entries") = T.s [101, 110, 116, 114, 105, 101, 115] := by decide +kernel
theorem lit19 : (PySem.Str.ofString "limits") = T.s [108, 105, 109, 105, 116, 115] := by decide +kernel
theorem lit20 : (PySem.Str.ofString "shore") = T.s [115, 104, 111, 114, 101] := by decide +kernel
theorem lit21 : (PySem.Str.ofString "abcdefghijklmnopqrstuvwxyz") = T.s [97, 98, 99, 100, 101, 102, 103, 104, 105, 106, 107, 108, 109, 110, 111, 112, 113, 114, 115, 116, 117, 118, 119, 120, 121, 122] := by decide +kernel
theorem lit22 : (PySem.Str.ofString "1") = T.s [49] := by decide +kernel
theorem lit23 : (PySem.Str.ofString "") = T.s [] := by decide +kernel
theorem lit24 : (PySem.Str.ofString "A") = T.s [65] := by decide +kernel
theorem lit25 : (PySem.Str.ofString "ninesigns") = T.s [110, 105, 110, 101, 115, 105, 103, 110, 115] := by decide +kernel
theorem lit26 : (PySem.Str.ofString "a1") = T.s [97, 49] := by decide +kernel
theorem lit27 : (PySem.Str.ofString "a b") = T.s [97, 32, 98] := by decide +kernel
theorem lit28 : (PySem.Str.ofString "abcdefghi") = T.s [97, 98, 99, 100, 101, 102, 103, 104, 105] := by decide +kernel
theorem lit29 : (PySem.Str.ofString "part") = T.s [112, 97, 114, 116] := by decide +kernel
theorem lit30 : (PySem.Str.ofString "odd") = T.s [111, 100, 100] := by decide +kernel
/-- what the top has bound: no name over a built-in, the constants, the errors, the class -/
structure Bnds (P : Program) (mg : Str → Option Value) (G : Gd) : Prop where
  n_abs : mg "abs" = none
  n_all : mg "all" = none
  n_bool : mg "bool" = none
  n_dict : mg "dict" = none
  n_int : mg "int" = none
  n_isinstance : mg "isinstance" = none
  n_len : mg "len" = none
  n_list : mg "list" = none
  n_range : mg "range" = none
  n_repr : mg "repr" = none
  n_sorted : mg "sorted" = none
  n_str : mg "str" = none
  n_tuple : mg "tuple" = none
  c_LETTERS : ∃ u, mg "LETTERS" = some u ∧ RelV (.str (PySem.Str.ofString "abcdefghijklmnopqrstuvwxyz")) u
  c_MOST_CAP : ∃ u, mg "MOST_CAP" = some u ∧ RelV (.int 10000000000) u
  c_MOST_ISLES : ∃ u, mg "MOST_ISLES" = some u ∧ RelV (.int 8) u
  c_MOST_LETTERS : ∃ u, mg "MOST_LETTERS" = some u ∧ RelV (.int 8) u
  c_MOST_WEIGHT : ∃ u, mg "MOST_WEIGHT" = some u ∧ RelV (.int 1000000000) u
  c_SHORE : ∃ u, mg "SHORE" = some u ∧ RelV (.str (PySem.Str.ofString "shore")) u
  e_InvalidLedger : VX.Txt P G.K mg "InvalidLedger" (G.ca 0) (T.s [112, 97, 114, 116] :: ([] : List T).map T.s)
  x_InvalidLedger : InsX G.K (G.ca 0)
  nf_part : PySem.W.findIn G.K (.ref (G.ca 0)) "part" = some none
  te_InvalidLedger : PySem.W.exmOne G.K (.ref (G.ca 0)) (.ref (G.ca 0)) = some true
  g_DuskError : mg "DuskError" = some (.ref (G.ca 2))
  te_DuskError : PySem.W.exmOne G.K (.ref (G.ca 0)) (.ref (G.ca 2)) = some true
  k_Ledger : ClsD mg G "Ledger" 1 [("entries" : Str), ("limits" : Str)]
  nc_Ledger : NotC G.K (G.ca 1)
  nf1_Ledger : NotFirst G.K (G.ca 1)
abbrev st__law_pen : Stmt := top 27
abbrev N__law_pen : List Str := [(PySem.Str.ofString "script")]
theorem sc__law_pen : FnScope N__law_pen [(PySem.Str.ofString "script")] (defScope st__law_pen) := ⟨rfl, rfl, rfl, by decide +kernel, rfl, by decide +kernel, by decide +kernel⟩
def g__law_pen : GS := (gRet (eLst true (elCons (eCB (c1 (fList false)) (elCons (eSl false (eVar 0) eoNone (eoSome (eC (.int 63)))) elNil)) (elCons (eC (.int 0)) (elCons (eC (.int 0)) elNil)))))
def d__law_pen : List U → Store → R U := callO 1 g__law_pen
abbrev st__law_draw : Stmt := top 28
abbrev N__law_draw : List Str := [(PySem.Str.ofString "pen"), (PySem.Str.ofString "many"), (PySem.Str.ofString "digit"), (PySem.Str.ofString "at"), (PySem.Str.ofString "cell"), (PySem.Str.ofString "great"), (PySem.Str.ofString "mixed")]
theorem sc__law_draw : FnScope N__law_draw [(PySem.Str.ofString "pen"), (PySem.Str.ofString "many")] (defScope st__law_draw) := ⟨rfl, rfl, rfl, by decide +kernel, rfl, by decide +kernel, by decide +kernel⟩
def g__law_draw : GS := (gSeq (gIf (bOf (eOp oGt (eIx (eVar 0) (eC (.int 2))) (eC (.int 0))))
  (gSeq (gSet 2 (eOp oMod (eCB (c1 fInt) (elCons (eIx (eVar 0) (eC (.int 2))) elNil)) (eVar 1)))
  (gSeq (gSetI (eVar 0) (eC (.int 2)) (eOp oDiv (eCB (c1 fInt) (elCons (eIx (eVar 0) (eC (.int 2))) elNil)) (eVar 1)))
  (gRet (eVar 2))))
  gNil)
  (gSeq (gSet 3 (eIx (eVar 0) (eC (.int 1))))
  (gSeq (gSetI (eVar 0) (eC (.int 1)) (eOp (oAdd false) (eVar 3) (eC (.int 1))))
  (gSeq (gSet 4 (eOp (oAdd false) (eOp oMul (eC (.int 65011)) (eVar 3)) (eC (.int 5501))))
  (gSeq (gIf (bOf (eOp oNe (eIx (eVar 0) (eC (.int 0))) (eLst false elNil)))
  (gSet 4 (eIx (eIx (eVar 0) (eC (.int 0))) (eOp oMod (eCB (c1 fInt) (elCons (eVar 3) elNil)) (eCB (c1 fLen) (elCons (eIx (eVar 0) (eC (.int 0))) elNil)))))
  gNil)
  (gSeq (gIf (bAnd (bOf (eOp oLt (eVar 3) (eCB (c1 fLen) (elCons (eIx (eVar 0) (eC (.int 0))) elNil)))) (bOf (eOp oGe (eCB (c1 fAbs) (elCons (eVar 4) elNil)) (eOp oPow (eC (.int 10)) (eC (.int 18))))))
  (gSeq (gSet 5 (eOp (oAdd false) (eOp oMul (eC (.int 2)) (eOp oSub (eCB (c1 fAbs) (elCons (eVar 4) elNil)) (eOp oPow (eC (.int 10)) (eC (.int 18))))) (eCB (c1 fInt) (elCons (eOp oLt (eVar 4) (eC (.int 0))) elNil))))
  (gSeq (gSetI (eVar 0) (eC (.int 2)) (eOp oDiv (eCB (c1 fInt) (elCons (eVar 5) elNil)) (eVar 1)))
  (gRet (eOp oMod (eCB (c1 fInt) (elCons (eVar 5) elNil)) (eVar 1)))))
  gNil)
  (gSeq (gSet 6 (eOp oMod (eCB (c1 fInt) (elCons (eOp oPow (eOp (oAdd false) (eOp (oAdd false) (eOp oMod (eCB (c1 fInt) (elCons (eVar 4) elNil)) (eC (.int 2147483563))) (eOp oMul (eC (.int 5501)) (eVar 3))) (eC (.int 101))) (eC (.int 5))) elNil)) (eC (.int 2147483587))))
  (gSeq (gSet 6 (eOp oMod (eCB (c1 fInt) (elCons (eOp oPow (eOp (oAdd false) (eOp (oAdd false) (eOp oMul (eVar 6) (eOp (oAdd false) (eOp oMul (eC (.int 2)) (eVar 3)) (eC (.int 135)))) (eOp oMul (eOp oMul (eC (.int 65011)) (eVar 3)) (eVar 3))) (eC (.int 29))) (eC (.int 3))) elNil)) (eC (.int 2147483629))))
  (gRet (eOp oMod (eCB (c1 fInt) (elCons (eOp oDiv (eVar 6) (eC (.int 16))) elNil)) (eVar 1)))))))))))
def d__law_draw : List U → Store → R U := callD 7 g__law_draw
abbrev st__law_pick : Stmt := top 29
abbrev N__law_pick : List Str := [(PySem.Str.ofString "pen"), (PySem.Str.ofString "some")]
theorem sc__law_pick : FnScope N__law_pick [(PySem.Str.ofString "pen"), (PySem.Str.ofString "some")] (defScope st__law_pick) := ⟨rfl, rfl, rfl, by decide +kernel, rfl, by decide +kernel, by decide +kernel⟩
def g__law_pick : GS := (gRet (eIx (eVar 1) (eCall 2 d__law_draw (elCons (eVar 0) (elCons (eCB (c1 fLen) (elCons (eVar 1) elNil)) elNil)))))
def d__law_pick : List U → Store → R U := callD 2 g__law_pick
abbrev st__law_weights : Stmt := top 30
abbrev N__law_weights : List Str := [(PySem.Str.ofString "pen"), (PySem.Str.ofString "left"), (PySem.Str.ofString "found"), (PySem.Str.ofString "turn"), (PySem.Str.ofString "tag")]
theorem sc__law_weights : FnScope N__law_weights [(PySem.Str.ofString "pen")] (defScope st__law_weights) := ⟨rfl, rfl, rfl, by decide +kernel, rfl, by decide +kernel, by decide +kernel⟩
def g__law_weights : GS := (gSeq (gPar 1 2 (elCons (eLst true (elCons (eC (.str [97])) (elCons (eC (.str [98])) (elCons (eC (.str [115, 104, 111, 114, 101, 115])) (elCons (eC (.str [122, 122, 122, 122, 122, 122, 122, 122])) (elCons (eC (.str [109])) (elCons (eC (.str [107])) (elCons (eC (.str [97, 98])) (elCons (eC (.str [97, 97])) elNil))))))))) (elCons eDN elNil)))
  (gSeq (gFor (dRange1 (elCons (eCall 2 d__law_draw (elCons (eVar 0) (elCons (eC (.int 9)) elNil))) elNil)) (tName 3)
  (gSeq (gSet 4 (ePopA (eVar 1) (eCall 2 d__law_draw (elCons (eVar 0) (elCons (eCB (c1 fLen) (elCons (eVar 1) elNil)) elNil)))))
  (gPutX (eVar 2) (eVar 4) (eCall 2 d__law_pick (elCons (eVar 0) (elCons (eLst false (elCons (eC (.int 0)) (elCons (eC (.int 1)) (elCons (eC (.int 2)) (elCons (eC (.int 7)) (elCons (eOp oPow (eC (.int 10)) (eC (.int 9))) (elCons (eCall 2 d__law_draw (elCons (eVar 0) (elCons (eC (.int 1000)) elNil))) elNil))))))) elNil))))))
  (gRet (eLk (eVar 2)))))
def d__law_weights : List U → Store → R U := callD 5 g__law_weights
abbrev st__law_cap : Stmt := top 31
abbrev N__law_cap : List Str := [(PySem.Str.ofString "pen")]
theorem sc__law_cap : FnScope N__law_cap [(PySem.Str.ofString "pen")] (defScope st__law_cap) := ⟨rfl, rfl, rfl, by decide +kernel, rfl, by decide +kernel, by decide +kernel⟩
def g__law_cap : GS := (gRet (eCall 2 d__law_pick (elCons (eVar 0) (elCons (eLst false (elCons (eC .non) (elCons (eC (.int 0)) (elCons (eC (.int 1)) (elCons (eOp oPow (eC (.int 10)) (eC (.int 10))) (elCons (eCall 2 d__law_draw (elCons (eVar 0) (elCons (eC (.int 100)) elNil))) elNil)))))) elNil))))
def d__law_cap : List U → Store → R U := callD 1 g__law_cap
abbrev st_is_name : Stmt := top 10
abbrev N_is_name : List Str := [(PySem.Str.ofString "value"), (PySem.Str.ofString "letter")]
theorem sc_is_name : FnScope N_is_name [(PySem.Str.ofString "value")] (defScope st_is_name) := ⟨rfl, rfl, rfl, by decide +kernel, rfl, by decide +kernel, by decide +kernel⟩
def g_is_name : GS := (gSeq (gIf (bOr (bNeg (bOf (eIsi "str" (eVar 0)))) (bNeg (bOf (eChain oLe oLe (eC (.int 1)) (eCB (c1 fLen) (elCons (eVar 0) elNil)) (eC (.int 8))))))
  (gRet (eC (.bl false)))
  gNil)
  (gRet (eCB (c1 (fBls fun bs => bs.all id)) (elCons (eLc false (dSigns (eVar 0)) (tName 1) bYes (eOp (oInG false) (eVar 1) (eC (.str [97, 98, 99, 100, 101, 102, 103, 104, 105, 106, 107, 108, 109, 110, 111, 112, 113, 114, 115, 116, 117, 118, 119, 120, 121, 122]))) [1]) elNil))))
def d_is_name : List U → Store → R U := callD 2 g_is_name
abbrev st_is_own_name : Stmt := top 11
abbrev N_is_own_name : List Str := [(PySem.Str.ofString "value")]
theorem sc_is_own_name : FnScope N_is_own_name [(PySem.Str.ofString "value")] (defScope st_is_own_name) := ⟨rfl, rfl, rfl, by decide +kernel, rfl, by decide +kernel, by decide +kernel⟩
def g_is_own_name : GS := (gRet (eAnd (eCall 1 d_is_name (elCons (eVar 0) elNil)) (eOp oNe (eVar 0) (eC (.str [115, 104, 111, 114, 101])))))
def d_is_own_name : List U → Store → R U := callD 1 g_is_own_name
abbrev st_is_integer : Stmt := top 9
abbrev N_is_integer : List Str := [(PySem.Str.ofString "value")]
theorem sc_is_integer : FnScope N_is_integer [(PySem.Str.ofString "value")] (defScope st_is_integer) := ⟨rfl, rfl, rfl, by decide +kernel, rfl, by decide +kernel, by decide +kernel⟩
def g_is_integer : GS := (gRet (eAnd (eIsi "int" (eVar 0)) (eNot (eIsi "bool" (eVar 0)))))
def d_is_integer : List U → Store → R U := callD 1 g_is_integer
abbrev st_is_between : Stmt := top 17
abbrev N_is_between : List Str := [(PySem.Str.ofString "value"), (PySem.Str.ofString "most")]
theorem sc_is_between : FnScope N_is_between [(PySem.Str.ofString "value"), (PySem.Str.ofString "most")] (defScope st_is_between) := ⟨rfl, rfl, rfl, by decide +kernel, rfl, by decide +kernel, by decide +kernel⟩
def g_is_between : GS := (gRet (eAnd (eCall 1 d_is_integer (elCons (eVar 0) elNil)) (eChain oLe oLe (eC (.int 0)) (eVar 0) (eVar 1))))
def d_is_between : List U → Store → R U := callD 2 g_is_between
abbrev st_are_weights : Stmt := top 19
abbrev N_are_weights : List Str := [(PySem.Str.ofString "value"), (PySem.Str.ofString "name")]
theorem sc_are_weights : FnScope N_are_weights [(PySem.Str.ofString "value")] (defScope st_are_weights) := ⟨rfl, rfl, rfl, by decide +kernel, rfl, by decide +kernel, by decide +kernel⟩
def g_are_weights : GS := (gSeq (gIf (bOr (bNeg (bOf (eIsi "dict" (eVar 0)))) (bOf (eOp oGt (eCB (c1 fLenX) (elCons (eVar 0) elNil)) (eC (.int 8)))))
  (gRet (eC (.bl false)))
  gNil)
  (gRet (eCB (c1 (fBls fun bs => bs.all id)) (elCons (eLc false (dKeysX (eVar 0)) (tName 1) bYes (eAnd (eCall 1 d_is_own_name (elCons (eVar 1) elNil)) (eCall 2 d_is_between (elCons (eDGetX (eVar 0) (eVar 1)) (elCons (eC (.int 1000000000)) elNil)))) [1]) elNil))))
def d_are_weights : List U → Store → R U := callD 2 g_are_weights
abbrev st_is_cap : Stmt := top 18
abbrev N_is_cap : List Str := [(PySem.Str.ofString "value")]
theorem sc_is_cap : FnScope N_is_cap [(PySem.Str.ofString "value")] (defScope st_is_cap) := ⟨rfl, rfl, rfl, by decide +kernel, rfl, by decide +kernel, by decide +kernel⟩
def g_is_cap : GS := (gRet (eOr (eIs false (eVar 0)) (eCall 2 d_is_between (elCons (eVar 0) (elCons (eC (.int 10000000000)) elNil)))))
def d_is_cap : List U → Store → R U := callD 1 g_is_cap
abbrev st_Ledger___init__ : Stmt := inClass (top 25) 0
abbrev N_Ledger___init__ : List Str := [(PySem.Str.ofString "self"), (PySem.Str.ofString "weights"), (PySem.Str.ofString "load"), (PySem.Str.ofString "rush")]
theorem sc_Ledger___init__ : FnScope N_Ledger___init__ [(PySem.Str.ofString "self"), (PySem.Str.ofString "weights"), (PySem.Str.ofString "load"), (PySem.Str.ofString "rush")] (defScope st_Ledger___init__) := ⟨rfl, rfl, rfl, by decide +kernel, rfl, by decide +kernel, by decide +kernel⟩
def g_Ledger___init__ : GS := (gSeq (gIf (bNeg (bOf (eCall 1 d_are_weights (elCons (eVar 1) elNil))))
  (gRaise 0 [[112, 97, 114, 116]] (elCons (eC (.str [119, 101, 105, 103, 104, 116, 115])) elNil))
  gNil)
  (gSeq (gIf (bNeg (bOf (eCall 1 d_is_cap (elCons (eVar 2) elNil))))
  (gRaise 0 [[112, 97, 114, 116]] (elCons (eC (.str [108, 111, 97, 100])) elNil))
  gNil)
  (gSeq (gIf (bNeg (bOf (eCall 1 d_is_cap (elCons (eVar 3) elNil))))
  (gRaise 0 [[112, 97, 114, 116]] (elCons (eC (.str [114, 117, 115, 104])) elNil))
  gNil)
  (gSeq (gSetF 1 [101, 110, 116, 114, 105, 101, 115] (eVar 0) (eCB (c1 fTupP) (elCons (eSortIt false [false, true] (eVar 1)) elNil)))
  (gSetF 1 [108, 105, 109, 105, 116, 115] (eVar 0) (eTup (elCons (eVar 2) (elCons (eVar 3) elNil))))))))
def d_Ledger___init__ : List U → Store → R U := callD 4 g_Ledger___init__
abbrev st_Ledger_weights : Stmt := inClass (top 25) 2
abbrev N_Ledger_weights : List Str := [(PySem.Str.ofString "self")]
theorem sc_Ledger_weights : FnScope N_Ledger_weights [(PySem.Str.ofString "self")] (defScope st_Ledger_weights) := ⟨rfl, rfl, rfl, by decide +kernel, rfl, by decide +kernel, by decide +kernel⟩
def g_Ledger_weights : GS := (gRet (eCB (c1 fDict) (elCons (eFld 1 [101, 110, 116, 114, 105, 101, 115] (eVar 0)) elNil)))
def d_Ledger_weights : List U → Store → R U := callO 1 g_Ledger_weights
abbrev st_Ledger_names : Stmt := inClass (top 25) 3
abbrev N_Ledger_names : List Str := [(PySem.Str.ofString "self"), (PySem.Str.ofString "name"), (PySem.Str.ofString "weight")]
theorem sc_Ledger_names : FnScope N_Ledger_names [(PySem.Str.ofString "self")] (defScope st_Ledger_names) := ⟨rfl, rfl, rfl, by decide +kernel, rfl, by decide +kernel, by decide +kernel⟩
def g_Ledger_names : GS := (gRet (eCB (c1 fTuple) (elCons (eLc false (dTup (eFld 1 [101, 110, 116, 114, 105, 101, 115] (eVar 0))) (tTupN [1, 2]) bYes (eVar 1) [1, 2]) elNil)))
def d_Ledger_names : List U → Store → R U := callD 3 g_Ledger_names
abbrev st_Ledger_load_cap : Stmt := inClass (top 25) 4
abbrev N_Ledger_load_cap : List Str := [(PySem.Str.ofString "self")]
theorem sc_Ledger_load_cap : FnScope N_Ledger_load_cap [(PySem.Str.ofString "self")] (defScope st_Ledger_load_cap) := ⟨rfl, rfl, rfl, by decide +kernel, rfl, by decide +kernel, by decide +kernel⟩
def g_Ledger_load_cap : GS := (gRet (eIx (eFld 1 [108, 105, 109, 105, 116, 115] (eVar 0)) (eC (.int 0))))
def d_Ledger_load_cap : List U → Store → R U := callD 1 g_Ledger_load_cap
abbrev st_Ledger_rush_cap : Stmt := inClass (top 25) 5
abbrev N_Ledger_rush_cap : List Str := [(PySem.Str.ofString "self")]
theorem sc_Ledger_rush_cap : FnScope N_Ledger_rush_cap [(PySem.Str.ofString "self")] (defScope st_Ledger_rush_cap) := ⟨rfl, rfl, rfl, by decide +kernel, rfl, by decide +kernel, by decide +kernel⟩
def g_Ledger_rush_cap : GS := (gRet (eIx (eFld 1 [108, 105, 109, 105, 116, 115] (eVar 0)) (eC (.int 1))))
def d_Ledger_rush_cap : List U → Store → R U := callD 1 g_Ledger_rush_cap
abbrev st__law_told : Stmt := top 33
abbrev N__law_told : List Str := [(PySem.Str.ofString "ledger")]
theorem sc__law_told : FnScope N__law_told [(PySem.Str.ofString "ledger")] (defScope st__law_told) := ⟨rfl, rfl, rfl, by decide +kernel, rfl, by decide +kernel, by decide +kernel⟩
def g__law_told : GS := (gRet (eLst false (elCons (eItems (eProp 1 d_Ledger_weights (eVar 0))) (elCons (eProp 1 d_Ledger_names (eVar 0)) (elCons (eProp 1 d_Ledger_load_cap (eVar 0)) (elCons (eProp 1 d_Ledger_rush_cap (eVar 0)) elNil))))))
def d__law_told : List U → Store → R U := callD 1 g__law_told
abbrev st__law_due : Stmt := top 34
abbrev N__law_due : List Str := [(PySem.Str.ofString "weights"), (PySem.Str.ofString "load"), (PySem.Str.ofString "rush"), (PySem.Str.ofString "rows"), (PySem.Str.ofString "tag"), (PySem.Str.ofString "weight")]
theorem sc__law_due : FnScope N__law_due [(PySem.Str.ofString "weights"), (PySem.Str.ofString "load"), (PySem.Str.ofString "rush")] (defScope st__law_due) := ⟨rfl, rfl, rfl, by decide +kernel, rfl, by decide +kernel, by decide +kernel⟩
def g__law_due : GS := (gSeq (gSet 3 (eCB (c1 (fSorted false)) (elCons (eLc false (dKeysX (eVar 0)) (tName 4) bYes (eTup (elCons (eCB (c1 fStr) (elCons (eVar 4) elNil)) (elCons (eDGetX (eVar 0) (eVar 4)) elNil))) [4]) elNil)))
  (gRet (eLst false (elCons (eVar 3) (elCons (eCB (c1 fTuple) (elCons (eLc false (dList (eVar 3)) (tTupN [4, 5]) bYes (eVar 4) [4, 5]) elNil)) (elCons (eVar 1) (elCons (eVar 2) elNil)))))))
def d__law_due : List U → Store → R U := callD 6 g__law_due
abbrev st_Ledger_with_load : Stmt := inClass (top 25) 6
abbrev N_Ledger_with_load : List Str := [(PySem.Str.ofString "self"), (PySem.Str.ofString "load")]
theorem sc_Ledger_with_load : FnScope N_Ledger_with_load [(PySem.Str.ofString "self"), (PySem.Str.ofString "load")] (defScope st_Ledger_with_load) := ⟨rfl, rfl, rfl, by decide +kernel, rfl, by decide +kernel, by decide +kernel⟩
def g_Ledger_with_load : GS := (gRet (eMakeD 1 1 2 d_Ledger___init__ [0, 1, 2, 3] [] (elCons (eLk (eProp 1 d_Ledger_weights (eVar 0))) elNil) (elCons (eVar 1) (elCons (eIx (eFld 1 [108, 105, 109, 105, 116, 115] (eVar 0)) (eC (.int 1))) elNil))))
def d_Ledger_with_load : List U → Store → R U := callD 2 g_Ledger_with_load
abbrev st_Ledger_with_rush : Stmt := inClass (top 25) 7
abbrev N_Ledger_with_rush : List Str := [(PySem.Str.ofString "self"), (PySem.Str.ofString "rush")]
theorem sc_Ledger_with_rush : FnScope N_Ledger_with_rush [(PySem.Str.ofString "self"), (PySem.Str.ofString "rush")] (defScope st_Ledger_with_rush) := ⟨rfl, rfl, rfl, by decide +kernel, rfl, by decide +kernel, by decide +kernel⟩
def g_Ledger_with_rush : GS := (gRet (eMakeD 1 1 2 d_Ledger___init__ [0, 1, 2, 3] [] (elCons (eLk (eProp 1 d_Ledger_weights (eVar 0))) elNil) (elCons (eIx (eFld 1 [108, 105, 109, 105, 116, 115] (eVar 0)) (eC (.int 0))) (elCons (eVar 1) elNil))))
def d_Ledger_with_rush : List U → Store → R U := callD 2 g_Ledger_with_rush
abbrev st_Ledger___eq__ : Stmt := inClass (top 25) 13
abbrev N_Ledger___eq__ : List Str := [(PySem.Str.ofString "self"), (PySem.Str.ofString "other")]
theorem sc_Ledger___eq__ : FnScope N_Ledger___eq__ [(PySem.Str.ofString "self"), (PySem.Str.ofString "other")] (defScope st_Ledger___eq__) := ⟨rfl, rfl, rfl, by decide +kernel, rfl, by decide +kernel, by decide +kernel⟩
def g_Ledger___eq__ : GS := (gSeq (gIf (bNeg (bOf (eIsCA 1 (eVar 1))))
  (gRet (eC (.bl false)))
  gNil)
  (gRet (eOp oEq (eTup (elCons (eFld 1 [101, 110, 116, 114, 105, 101, 115] (eVar 0)) (elCons (eFld 1 [108, 105, 109, 105, 116, 115] (eVar 0)) elNil))) (eTup (elCons (eFld 1 [101, 110, 116, 114, 105, 101, 115] (eVar 1)) (elCons (eFld 1 [108, 105, 109, 105, 116, 115] (eVar 1)) elNil))))))
def d_Ledger___eq__ : List U → Store → R U := callD 2 g_Ledger___eq__
abbrev st_Ledger___repr__ : Stmt := inClass (top 25) 15
abbrev N_Ledger___repr__ : List Str := [(PySem.Str.ofString "self")]
theorem sc_Ledger___repr__ : FnScope N_Ledger___repr__ [(PySem.Str.ofString "self")] (defScope st_Ledger___repr__) := ⟨rfl, rfl, rfl, by decide +kernel, rfl, by decide +kernel, by decide +kernel⟩
def g_Ledger___repr__ : GS := (gRet (eJs [(eC (.str [76, 101, 100, 103, 101, 114, 40])), (eFmt (eCB (c1 fLen) (elCons (eFld 1 [101, 110, 116, 114, 105, 101, 115] (eVar 0)) elNil))), (eC (.str [32, 119, 101, 105, 103, 104, 116, 115, 41]))]))
def d_Ledger___repr__ : List U → Store → R U := callD 1 g_Ledger___repr__
abbrev st__law_bad_weights : Stmt := top 35
abbrev N__law_bad_weights : List Str := [(PySem.Str.ofString "pen"), (PySem.Str.ofString "weights"), (PySem.Str.ofString "found"), (PySem.Str.ofString "way"), (PySem.Str.ofString "tag")]
theorem sc__law_bad_weights : FnScope N__law_bad_weights [(PySem.Str.ofString "pen"), (PySem.Str.ofString "weights")] (defScope st__law_bad_weights) := ⟨rfl, rfl, rfl, by decide +kernel, rfl, by decide +kernel, by decide +kernel⟩
def g__law_bad_weights : GS := (gSeq (gPar 2 3 (elCons (eCB (c1 fDict) (elCons (eVar 1) elNil)) (elCons (eCall 2 d__law_draw (elCons (eVar 0) (elCons (eC (.int 4)) elNil))) elNil)))
  (gSeq (gIf (bOf (eOp oEq (eVar 3) (eC (.int 0))))
  (gRet (eCall 2 d__law_pick (elCons (eVar 0) (elCons (eLst false (elCons (eC .non) (elCons (eLst false elNil) (elCons (eTup elNil) (elCons (eC (.str [97])) (elCons (eC (.int 5)) (elCons (eC (.bl true)) (elCons (eLst false (elCons (eTup (elCons (eC (.str [97])) (elCons (eC (.int 1)) elNil))) elNil)) elNil)))))))) elNil))))
  gNil)
  (gSeq (gIf (bOf (eOp oEq (eVar 3) (eC (.int 1))))
  (gPutX (eVar 2) (eCall 2 d__law_pick (elCons (eVar 0) (elCons (eLst false (elCons (eC (.str [])) (elCons (eC (.str [65])) (elCons (eC (.str [110, 105, 110, 101, 115, 105, 103, 110, 115])) (elCons (eC (.str [115, 104, 111, 114, 101])) (elCons (eC (.int 3)) (elCons (eC .non) (elCons (eTup (elCons (eC (.str [97])) elNil)) (elCons (eC (.str [97, 49])) (elCons (eC (.str [97, 32, 98])) elNil)))))))))) elNil))) (eC (.int 1)))
  (gIf (bOf (eOp oEq (eVar 3) (eC (.int 2))))
  (gPutX (eVar 2) (eC (.str [97])) (eCall 2 d__law_pick (elCons (eVar 0) (elCons (eLst false (elCons (eC .non) (elCons (eNeg (eC (.int 1))) (elCons (eOp (oAdd false) (eOp oPow (eC (.int 10)) (eC (.int 9))) (eC (.int 1))) (elCons (eC (.bl true)) (elCons (eC (.str [49])) (elCons (eTup (elCons (eC (.int 1)) elNil)) (elCons (eOp oPow (eC (.int 10)) (eC (.int 40))) elNil)))))))) elNil))))
  (gSet 2 (eCB (c1 fDict) (elCons (eLc false (dSigns (eC (.str [97, 98, 99, 100, 101, 102, 103, 104, 105]))) (tName 4) bYes (eTup (elCons (eVar 4) (elCons (eC (.int 1)) elNil))) [4]) elNil)))))
  (gRet (eLk (eVar 2))))))
def d__law_bad_weights : List U → Store → R U := callD 5 g__law_bad_weights
abbrev st__law_heard : Stmt := top 32
abbrev N__law_heard : List Str := [(PySem.Str.ofString "ask"), (PySem.Str.ofString "caught"), (PySem.Str.ofString "found"), (PySem.Str.ofString "error")]
theorem sc__law_heard : FnScope N__law_heard [(PySem.Str.ofString "ask")] (defScope st__law_heard) := ⟨rfl, rfl, rfl, by decide +kernel, rfl, by decide +kernel, by decide +kernel⟩
def gH__law_heard (F0 : Store → R U) : GS := (gSeq (gUnp (tTupN [1, 2]) (eTup (elCons (eC .non) (elCons (eC .non) elNil))))
  (gSeq (gTryK 0 3 1
  (gSet 2 (eAct 0 F0)))
  (gSeq (gIf (bOf (eIs false (eVar 1)))
  (gRet (eLst false (elCons (eVar 2) elNil)))
  gNil)
  (gRet (eIf (bOf (eIsX 0 (eVar 1))) (eExF 0 [112, 97, 114, 116] (eVar 1)) (eC (.str [111, 100, 100])))))))
abbrev st__law_refused_right : Stmt := top 36
abbrev N__law_refused_right : List Str := [(PySem.Str.ofString "pen"), (PySem.Str.ofString "weights"), (PySem.Str.ofString "load"), (PySem.Str.ofString "rush"), (PySem.Str.ofString "odd"), (PySem.Str.ofString "none"), (PySem.Str.ofString "heard"), (PySem.Str.ofString "made")]
theorem sc__law_refused_right : FnScope N__law_refused_right [(PySem.Str.ofString "pen"), (PySem.Str.ofString "weights"), (PySem.Str.ofString "load"), (PySem.Str.ofString "rush")] (defScope st__law_refused_right) := ⟨rfl, rfl, rfl, by decide +kernel, rfl, by decide +kernel, by decide +kernel⟩
def g__law_refused_right : GS := (gSeq (gParN [4, 5] (elCons (eCall 2 d__law_bad_weights (elCons (eVar 0) (elCons (eVar 1) elNil))) (elCons (eCall 2 d__law_pick (elCons (eVar 0) (elCons (eLst false (elCons (eNeg (eC (.int 1))) (elCons (eC (.bl true)) (elCons (eC (.str [49])) (elCons (eTup elNil) (elCons (eOp (oAdd false) (eOp oPow (eC (.int 10)) (eC (.int 10))) (eC (.int 1))) (elCons (eLst false (elCons (eC (.int 2)) elNil)) (elCons eD0 elNil)))))))) elNil))) elNil)))
  (gSeq (gSet 6 (eLst true (elCons (eLam 4 gH__law_heard (eMakeD 1 1 2 d_Ledger___init__ [0, 1, 2, 3] [] (elCons (eVar 4) elNil) (elCons (eVar 5) (elCons (eVar 5) elNil)))) (elCons (eLam 4 gH__law_heard (eMakeD 1 1 2 d_Ledger___init__ [0, 1, 2, 3] [] (elCons (eVar 1) elNil) (elCons (eVar 5) (elCons (eVar 5) elNil)))) elNil))))
  (gSeq (gExpr (eAppend (eVar 6) (elCons (eLam 4 gH__law_heard (eMakeD 1 1 2 d_Ledger___init__ [0, 1, 2, 3] [] (elCons (eVar 1) elNil) (elCons (eVar 2) (elCons (eVar 5) elNil)))) elNil)))
  (gSeq (gExpr (eAppend (eVar 6) (elCons (eLam 4 gH__law_heard (eMakeD 1 1 2 d_Ledger___init__ [0, 1, 3, 2] [] (elCons (eVar 1) elNil) (elCons (eVar 3) (elCons (eVar 5) elNil)))) elNil)))
  (gSeq (gSet 7 (eMakeD 1 1 2 d_Ledger___init__ [0, 1, 2, 3] [] (elCons (eVar 1) elNil) (elCons (eVar 2) (elCons (eVar 3) elNil))))
  (gSeq (gExpr (eAppend (eVar 6) (elCons (eLam 4 gH__law_heard (eMeth 1 2 [119, 105, 116, 104, 95, 108, 111, 97, 100] [0, 1] [] d_Ledger_with_load 1 0 (eVar 7) (elCons (eVar 5) elNil) elNil)) elNil)))
  (gSeq (gExpr (eAppend (eVar 6) (elCons (eLam 4 gH__law_heard (eMeth 1 2 [119, 105, 116, 104, 95, 114, 117, 115, 104] [0, 1] [] d_Ledger_with_rush 0 1 (eVar 7) elNil (elCons (eVar 5) elNil))) elNil)))
  (gRet (eAnd (eOp oEq (eVar 6) (eLst false (elCons (eC (.str [119, 101, 105, 103, 104, 116, 115])) (elCons (eC (.str [108, 111, 97, 100])) (elCons (eC (.str [114, 117, 115, 104])) (elCons (eC (.str [108, 111, 97, 100])) (elCons (eC (.str [108, 111, 97, 100])) (elCons (eC (.str [114, 117, 115, 104])) elNil)))))))) (eOp oEq (eCall 1 d__law_told (elCons (eVar 7) elNil)) (eCall 3 d__law_due (elCons (eVar 1) (elCons (eVar 2) (elCons (eVar 3) elNil))))))))))))))
def d__law_refused_right : List U → Store → R U := callD 8 g__law_refused_right
abbrev st_law : Stmt := top 37
abbrev N_law : List Str := [(PySem.Str.ofString "script"), (PySem.Str.ofString "pen"), (PySem.Str.ofString "turn"), (PySem.Str.ofString "weights"), (PySem.Str.ofString "load"), (PySem.Str.ofString "rush"), (PySem.Str.ofString "given"), (PySem.Str.ofString "made"), (PySem.Str.ofString "told"), (PySem.Str.ofString "other"), (PySem.Str.ofString "less"), (PySem.Str.ofString "again"), (PySem.Str.ofString "more")]
theorem sc_law : FnScope N_law [(PySem.Str.ofString "script")] (defScope st_law) := ⟨rfl, rfl, rfl, by decide +kernel, rfl, by decide +kernel, by decide +kernel⟩
def g_law : GS := (gSeq (gSet 1 (eCall 1 d__law_pen (elCons (eVar 0) elNil)))
  (gSeq (gFor (dRange1 (elCons (eC (.int 8)) elNil)) (tName 2)
  (gSeq (gPar3 3 4 5 (elCons (eCall 1 d__law_weights (elCons (eVar 1) elNil)) (elCons (eCall 1 d__law_cap (elCons (eVar 1) elNil)) (elCons (eCall 1 d__law_cap (elCons (eVar 1) elNil)) elNil))))
  (gSeq (gSet 6 (eCB (c1 fDict) (elCons (eVar 3) elNil)))
  (gSeq (gSet 7 (eLoan 6 (eMakeD 1 1 2 d_Ledger___init__ [0, 1, 2, 3] [] (elCons (eVar 6) elNil) (elCons (eVar 4) (elCons (eVar 5) elNil)))))
  (gSeq (gPutX (eVar 6) (eC (.str [113])) (eC (.int 3)))
  (gSeq (gSet 8 (eProp 1 d_Ledger_weights (eVar 7)))
  (gSeq (gPutX (eVar 8) (eC (.str [114])) (eC (.int 4)))
  (gSeq (gIf (bOf (eOp oNe (eCB (c1 fRepr) (elCons (eCall 1 d__law_told (elCons (eVar 7) elNil)) elNil)) (eCB (c1 fRepr) (elCons (eCall 3 d__law_due (elCons (eVar 3) (elCons (eVar 4) (elCons (eVar 5) elNil)))) elNil))))
  (gRet (eC (.bl false)))
  gNil)
  (gSeq (gPar 9 10 (elCons (eCall 1 d__law_cap (elCons (eVar 1) elNil)) (elCons (eCall 1 d__law_cap (elCons (eVar 1) elNil)) elNil)))
  (gSeq (gIf (bOf (eOp oNe (eCB (c1 fRepr) (elCons (eCall 1 d__law_told (elCons (eMeth 1 2 [119, 105, 116, 104, 95, 108, 111, 97, 100] [0, 1] [] d_Ledger_with_load 0 1 (eVar 7) elNil (elCons (eVar 9) elNil)) elNil)) elNil)) (eCB (c1 fRepr) (elCons (eCall 3 d__law_due (elCons (eVar 3) (elCons (eVar 9) (elCons (eVar 5) elNil)))) elNil))))
  (gRet (eC (.bl false)))
  gNil)
  (gSeq (gIf (bOr (bOf (eOp oNe (eCB (c1 fRepr) (elCons (eCall 1 d__law_told (elCons (eMeth 1 2 [119, 105, 116, 104, 95, 114, 117, 115, 104] [0, 1] [] d_Ledger_with_rush 1 0 (eVar 7) (elCons (eVar 10) elNil) elNil) elNil)) elNil)) (eCB (c1 fRepr) (elCons (eCall 3 d__law_due (elCons (eVar 3) (elCons (eVar 4) (elCons (eVar 10) elNil)))) elNil)))) (bOf (eOp oNe (eEqI 1 d_Ledger___eq__ (eMeth 1 2 [119, 105, 116, 104, 95, 108, 111, 97, 100] [0, 1] [] d_Ledger_with_load 1 0 (eVar 7) (elCons (eVar 9) elNil) elNil) (eVar 7)) (eOp oEq (eVar 9) (eVar 4)))))
  (gRet (eC (.bl false)))
  gNil)
  (gSeq (gSet 11 (eMakeD 1 0 3 d_Ledger___init__ [0, 1, 3, 2] [] elNil (elCons (eLk (eCB (c1 fDict) (elCons (eRev false (eItems (eVar 3))) elNil))) (elCons (eVar 5) (elCons (eVar 4) elNil)))))
  (gSeq (gIf (bOr (bOf (eNeI 1 d_Ledger___eq__ (eVar 11) (eVar 7))) (bOr (bOf (eOp oNe (eNeI 1 d_Ledger___eq__ (eMeth 1 2 [119, 105, 116, 104, 95, 114, 117, 115, 104] [0, 1] [] d_Ledger_with_rush 1 0 (eVar 7) (elCons (eVar 10) elNil) elNil) (eVar 7)) (eOp oNe (eVar 10) (eVar 5)))) (bOr (bOf (eEqO 1 d_Ledger___eq__ (eVar 7) (eTup (elCons (eVar 3) (elCons (eVar 4) (elCons (eVar 5) elNil)))))) (bOf (eEqO 1 d_Ledger___eq__ (eVar 7) (eC .non))))))
  (gRet (eC (.bl false)))
  gNil)
  (gSeq (gSet 12 (eCB (c1 fDict) (elCons (eVar 3) elNil)))
  (gSeq (gPutX (eVar 12) (eC (.str [110])) (eC (.int 0)))
  (gSeq (gIf (bOr (bIf (bOf (eOp oLt (eCB (c1 fLenX) (elCons (eVar 12) elNil)) (eC (.int 9)))) (bOf (eEqI 1 d_Ledger___eq__ (eMakeD 1 1 2 d_Ledger___init__ [0, 1, 2, 3] [] (elCons (eLk (eVar 12)) elNil) (elCons (eVar 4) (elCons (eVar 5) elNil))) (eVar 7))) (bOf (eC (.bl false)))) (bOf (eOp oNe (eStrI 1 d_Ledger___repr__ (eVar 7)) (eOp (oAdd false) (eOp (oAdd false) (eC (.str [76, 101, 100, 103, 101, 114, 40])) (eCB (c1 fStr) (elCons (eCB (c1 fLenX) (elCons (eVar 3) elNil)) elNil))) (eC (.str [32, 119, 101, 105, 103, 104, 116, 115, 41]))))))
  (gRet (eC (.bl false)))
  gNil)
  (gIf (bNeg (bOf (eCall 4 d__law_refused_right (elCons (eVar 1) (elCons (eVar 3) (elCons (eVar 4) (elCons (eVar 5) elNil)))))))
  (gRet (eC (.bl false)))
  gNil)))))))))))))))))
  (gRet (eAnd (eOp oEq (eCall 1 d__law_told (elCons (eMakeD 1 1 0 d_Ledger___init__ [0, 1, 2, 3] [.non, .non] (elCons eD0 elNil) elNil) elNil)) (eLst false (elCons (eLst false elNil) (elCons (eTup elNil) (elCons (eC .non) (elCons (eC .non) elNil)))))) (eAnd (eEqI 1 d_Ledger___eq__ (eMakeD 1 1 0 d_Ledger___init__ [0, 1, 2, 3] [.non, .non] (elCons eD0 elNil) elNil) (eMakeD 1 1 1 d_Ledger___init__ [0, 1, 2, 3] [.non] (elCons eD0 elNil) (elCons (eC .non) elNil))) (eNeI 1 d_Ledger___eq__ (eMakeD 1 1 0 d_Ledger___init__ [0, 1, 2, 3] [.non, .non] (elCons eD0 elNil) elNil) (eMakeD 1 1 1 d_Ledger___init__ [0, 1, 2, 3] [.non] (elCons eD0 elNil) (elCons (eC (.int 0)) elNil))))))))
def d_law : List U → Store → R U := callD 13 g_law
section
variable {P : Program} {mg : Str → Option Value} {base : Heap} {G : Gd} {f : Addr} {fd : FuncData}
theorem ok__law_pen (B : Bnds P mg G) (F : Fun G.K "_law_pen" "_law_pen" st__law_pen f fd) : FnV P G.w G.K mg base 1 f fd [(PySem.Str.ofString "script")] (spV G 1 d__law_pen) :=
  fn_bodyO (n := 1) F sc__law_pen rfl fun cdv A outer s H E hr hg => ((ss_one (s_ret (v_lst (own := true) (va_cons (v_ct call_list_of (c_list (own := false)) rfl B.n_list rfl (va_cons (v_sl (own := false) rfl (v_var 0 rfl (.inl rfl)) vo_none (vo_some v_int)) va_nil)) (va_cons v_int (va_cons v_int va_nil)))))))
theorem def__law_pen (B : Bnds P mg G) (F : Fun G.K "_law_pen" "_law_pen" st__law_pen f fd) (hm : mg "_law_pen" = some (.ref f)) : DefE P G.w mg base G "_law_pen" 1 1 [(PySem.Str.ofString "script")] d__law_pen :=
  ⟨f, fd, hm, F.kp, ok__law_pen B F, bnd0_of F (fun _ _ _ _ _ _ us hl => match us, hl with | [_], _ => rfl), fun h => bnd1_of F fun _ _ _ _ _ _ _ => rfl⟩
theorem ok__law_draw (B : Bnds P mg G) (F : Fun G.K "_law_draw" "_law_draw" st__law_draw f fd) : FnV P G.w G.K mg base 1 f fd [(PySem.Str.ofString "pen"), (PySem.Str.ofString "many")] (spV G 2 d__law_draw) :=
  fn_body (n := 2) F sc__law_draw rfl fun cdv A outer s H E hr hg => ((ss_cons (s_if (vb_cmp op_gt' s_gt (v_ix rfl (v_var 0 rfl (.inl rfl)) v_int fun _ _ => rfl) v_int (by with_unfolding_all rfl))
  (ss_cons (s_set 2 sc__law_draw.nd rfl (.inl rfl) (v_op op_mod s_mod (v_ct call_int1 c_int rfl B.n_int rfl (va_cons (v_ix rfl (v_var 0 rfl (.inl rfl)) v_int fun _ _ => rfl) va_nil)) (v_var 1 rfl (.inl rfl))))
  (ss_cons (s_setI (v_op op_fdiv s_div (v_ct call_int1 c_int rfl B.n_int rfl (va_cons (v_ix rfl (v_var 0 rfl (.inl rfl)) v_int fun _ _ => rfl) va_nil)) (v_var 1 rfl (.inl rfl))) (v_var 0 rfl (.inl rfl)) v_int)
  (ss_one (s_ret (v_var 2 rfl (.inl rfl))))))
  ss_nil)
  (ss_cons (s_set 3 sc__law_draw.nd rfl (.inl rfl) (v_ix rfl (v_var 0 rfl (.inl rfl)) v_int fun _ _ => rfl))
  (ss_cons (s_setI (v_op op_add' (s_add (own := false)) (v_var 3 rfl (.inl rfl)) v_int) (v_var 0 rfl (.inl rfl)) v_int)
  (ss_cons (s_set 4 sc__law_draw.nd rfl (.inl rfl) (v_op op_add' (s_add (own := false)) (v_op op_mul s_mul v_int (v_var 3 rfl (.inl rfl))) v_int))
  (ss_cons (s_if (vb_cmp (op_ne' hr.units) s_ne (v_ix rfl (v_var 0 rfl (.inl rfl)) v_int fun _ _ => rfl) (v_lst (own := false) va_nil) (by with_unfolding_all rfl))
  (ss_one (s_set 4 sc__law_draw.nd rfl (.inl rfl) (v_ix rfl (v_ix rfl (v_var 0 rfl (.inl rfl)) v_int fun _ _ => rfl) (v_op op_mod s_mod (v_ct call_int1 c_int rfl B.n_int rfl (va_cons (v_var 3 rfl (.inl rfl)) va_nil)) (v_cb call_len' c_len rfl B.n_len rfl (va_cons (v_ix rfl (v_var 0 rfl (.inl rfl)) v_int fun _ _ => rfl) va_nil))) fun _ _ => rfl)))
  ss_nil)
  (ss_cons (s_if (PW.pt (wb_and (vb_cmp op_lt' s_lt (v_var 3 rfl (.inl rfl)) (v_cb call_len' c_len rfl B.n_len rfl (va_cons (v_ix rfl (v_var 0 rfl (.inl rfl)) v_int fun _ _ => rfl) va_nil)) (by with_unfolding_all rfl)) (wb_and1 (vb_cmp op_ge' s_ge (v_cb call_abs c_abs rfl B.n_abs rfl (va_cons (v_var 4 rfl (.inl rfl)) va_nil)) (v_op op_pow s_pow v_int v_int) (by with_unfolding_all rfl)))))
  (ss_cons (s_set 5 sc__law_draw.nd rfl (.inl rfl) (v_op op_add' (s_add (own := false)) (v_op op_mul s_mul v_int (v_op op_sub s_sub (v_cb call_abs c_abs rfl B.n_abs rfl (va_cons (v_var 4 rfl (.inl rfl)) va_nil)) (v_op op_pow s_pow v_int v_int))) (v_ct call_int1 c_int rfl B.n_int rfl (va_cons (v_cmp op_lt' s_lt (v_var 4 rfl (.inl rfl)) v_int (by with_unfolding_all rfl)) va_nil))))
  (ss_cons (s_setI (v_op op_fdiv s_div (v_ct call_int1 c_int rfl B.n_int rfl (va_cons (v_var 5 rfl (.inl rfl)) va_nil)) (v_var 1 rfl (.inl rfl))) (v_var 0 rfl (.inl rfl)) v_int)
  (ss_one (s_ret (v_op op_mod s_mod (v_ct call_int1 c_int rfl B.n_int rfl (va_cons (v_var 5 rfl (.inl rfl)) va_nil)) (v_var 1 rfl (.inl rfl)))))))
  ss_nil)
  (ss_cons (s_set 6 sc__law_draw.nd rfl (.inl rfl) (v_op op_mod s_mod (v_ct call_int1 c_int rfl B.n_int rfl (va_cons (v_op op_pow s_pow (v_op op_add' (s_add (own := false)) (v_op op_add' (s_add (own := false)) (v_op op_mod s_mod (v_ct call_int1 c_int rfl B.n_int rfl (va_cons (v_var 4 rfl (.inl rfl)) va_nil)) v_int) (v_op op_mul s_mul v_int (v_var 3 rfl (.inl rfl)))) v_int) v_int) va_nil)) v_int))
  (ss_cons (s_set 6 sc__law_draw.nd rfl (.inl rfl) (v_op op_mod s_mod (v_ct call_int1 c_int rfl B.n_int rfl (va_cons (v_op op_pow s_pow (v_op op_add' (s_add (own := false)) (v_op op_add' (s_add (own := false)) (v_op op_mul s_mul (v_var 6 rfl (.inl rfl)) (v_op op_add' (s_add (own := false)) (v_op op_mul s_mul v_int (v_var 3 rfl (.inl rfl))) v_int)) (v_op op_mul s_mul (v_op op_mul s_mul v_int (v_var 3 rfl (.inl rfl))) (v_var 3 rfl (.inl rfl)))) v_int) v_int) va_nil)) v_int))
  (ss_one (s_ret (v_op op_mod s_mod (v_ct call_int1 c_int rfl B.n_int rfl (va_cons (v_op op_fdiv s_div (v_var 6 rfl (.inl rfl)) v_int) va_nil)) (v_var 1 rfl (.inl rfl))))))))))))))
theorem def__law_draw (B : Bnds P mg G) (F : Fun G.K "_law_draw" "_law_draw" st__law_draw f fd) (hm : mg "_law_draw" = some (.ref f)) : DefE P G.w mg base G "_law_draw" 1 2 [(PySem.Str.ofString "pen"), (PySem.Str.ofString "many")] d__law_draw :=
  ⟨f, fd, hm, F.kp, ok__law_draw B F, bnd0_of F (fun _ _ _ _ _ _ us hl => match us, hl with | [_, _], _ => rfl), fun h => absurd h (by decide)⟩
theorem ok__law_pick (B : Bnds P mg G) (F : Fun G.K "_law_pick" "_law_pick" st__law_pick f fd) (D__law_draw : DefE P G.w mg base G "_law_draw" 1 2 [(PySem.Str.ofString "pen"), (PySem.Str.ofString "many")] d__law_draw) : FnV P G.w G.K mg base 2 f fd [(PySem.Str.ofString "pen"), (PySem.Str.ofString "some")] (spV G 2 d__law_pick) :=
  fn_body (n := 2) F sc__law_pick rfl fun cdv A outer s H E hr hg => ((ss_one (s_ret (v_ix rfl (v_var 1 rfl (.inl rfl)) (v_callE D__law_draw rfl hr (by decide) hg (takes_of rfl rfl rfl rfl) (va_cons (v_var 0 rfl (.inl rfl)) (va_cons (v_cb call_len' c_len rfl B.n_len rfl (va_cons (v_var 1 rfl (.inl rfl)) va_nil)) va_nil)) rfl) fun _ _ => rfl))))
theorem def__law_pick (B : Bnds P mg G) (F : Fun G.K "_law_pick" "_law_pick" st__law_pick f fd) (hm : mg "_law_pick" = some (.ref f)) (D__law_draw : DefE P G.w mg base G "_law_draw" 1 2 [(PySem.Str.ofString "pen"), (PySem.Str.ofString "many")] d__law_draw) : DefE P G.w mg base G "_law_pick" 2 2 [(PySem.Str.ofString "pen"), (PySem.Str.ofString "some")] d__law_pick :=
  ⟨f, fd, hm, F.kp, ok__law_pick B F D__law_draw, bnd0_of F (fun _ _ _ _ _ _ us hl => match us, hl with | [_, _], _ => rfl), fun h => absurd h (by decide)⟩
theorem ok__law_weights (B : Bnds P mg G) (F : Fun G.K "_law_weights" "_law_weights" st__law_weights f fd) (D__law_draw : DefE P G.w mg base G "_law_draw" 1 2 [(PySem.Str.ofString "pen"), (PySem.Str.ofString "many")] d__law_draw) (D__law_pick : DefE P G.w mg base G "_law_pick" 2 2 [(PySem.Str.ofString "pen"), (PySem.Str.ofString "some")] d__law_pick) : FnV P G.w G.K mg base 3 f fd [(PySem.Str.ofString "pen")] (spV G 1 d__law_weights) :=
  fn_body (n := 1) F sc__law_weights rfl fun cdv A outer s H E hr hg => ((ss_cons (s_par (i := 1) (j := 2) rfl sc__law_weights.nd rfl rfl (by decide) rfl rfl (va_cons (v_lst (own := true) (va_cons (v_str [97] lit7) (va_cons (v_str [98] lit8) (va_cons (v_str [115, 104, 111, 114, 101, 115] lit9) (va_cons (v_str [122, 122, 122, 122, 122, 122, 122, 122] lit10) (va_cons (v_str [109] lit11) (va_cons (v_str [107] lit12) (va_cons (v_str [97, 98] lit13) (va_cons (v_str [97, 97] lit14) va_nil))))))))) (va_cons v_dN va_nil)) rfl)
  (ss_cons (s_for (passes_of rfl) rfl (vi_range1 rfl B.n_range (va_cons (v_callE D__law_draw rfl hr (by decide) hg (takes_of rfl rfl rfl rfl) (va_cons (v_var 0 rfl (.inl rfl)) (va_cons v_int va_nil)) rfl) va_nil)) (pg_name (i := 3) sc__law_weights.nd rfl (.inl rfl)) (tg_name 3)
  (ss_cons (s_set 4 sc__law_weights.nd rfl (.inl rfl) (v_popA rfl (v_var 1 rfl (.inl rfl)) (v_callE D__law_draw rfl hr (by decide) hg (takes_of rfl rfl rfl rfl) (va_cons (v_var 0 rfl (.inl rfl)) (va_cons (v_cb call_len' c_len rfl B.n_len rfl (va_cons (v_var 1 rfl (.inl rfl)) va_nil)) va_nil)) rfl)))
  (ss_one (s_putX hr.units rfl rfl (v_callE D__law_pick rfl hr (by decide) hg (takes_of rfl rfl rfl rfl) (va_cons (v_var 0 rfl (.inl rfl)) (va_cons (v_lst (own := false) (va_cons v_int (va_cons v_int (va_cons v_int (va_cons v_int (va_cons (v_op op_pow s_pow v_int v_int) (va_cons (v_callE D__law_draw rfl hr (by decide) hg (takes_of rfl rfl rfl rfl) (va_cons (v_var 0 rfl (.inl rfl)) (va_cons v_int va_nil)) rfl) va_nil))))))) va_nil)) rfl) (v_var 2 rfl (.inl rfl)) (v_var 4 rfl (.inl rfl))))))
  (ss_one (s_ret (v_lk (v_var 2 rfl (.inl rfl))))))))
theorem def__law_weights (B : Bnds P mg G) (F : Fun G.K "_law_weights" "_law_weights" st__law_weights f fd) (hm : mg "_law_weights" = some (.ref f)) (D__law_draw : DefE P G.w mg base G "_law_draw" 1 2 [(PySem.Str.ofString "pen"), (PySem.Str.ofString "many")] d__law_draw) (D__law_pick : DefE P G.w mg base G "_law_pick" 2 2 [(PySem.Str.ofString "pen"), (PySem.Str.ofString "some")] d__law_pick) : DefE P G.w mg base G "_law_weights" 3 1 [(PySem.Str.ofString "pen")] d__law_weights :=
  ⟨f, fd, hm, F.kp, ok__law_weights B F D__law_draw D__law_pick, bnd0_of F (fun _ _ _ _ _ _ us hl => match us, hl with | [_], _ => rfl), fun h => bnd1_of F fun _ _ _ _ _ _ _ => rfl⟩
theorem ok__law_cap (B : Bnds P mg G) (F : Fun G.K "_law_cap" "_law_cap" st__law_cap f fd) (D__law_pick : DefE P G.w mg base G "_law_pick" 2 2 [(PySem.Str.ofString "pen"), (PySem.Str.ofString "some")] d__law_pick) (D__law_draw : DefE P G.w mg base G "_law_draw" 1 2 [(PySem.Str.ofString "pen"), (PySem.Str.ofString "many")] d__law_draw) : FnV P G.w G.K mg base 3 f fd [(PySem.Str.ofString "pen")] (spV G 1 d__law_cap) :=
  fn_body (n := 1) F sc__law_cap rfl fun cdv A outer s H E hr hg => ((ss_one (s_ret (v_callE D__law_pick rfl hr (by decide) hg (takes_of rfl rfl rfl rfl) (va_cons (v_var 0 rfl (.inl rfl)) (va_cons (v_lst (own := false) (va_cons v_non (va_cons v_int (va_cons v_int (va_cons (v_op op_pow s_pow v_int v_int) (va_cons (v_callE D__law_draw rfl hr (by decide) hg (takes_of rfl rfl rfl rfl) (va_cons (v_var 0 rfl (.inl rfl)) (va_cons v_int va_nil)) rfl) va_nil)))))) va_nil)) rfl))))
theorem def__law_cap (B : Bnds P mg G) (F : Fun G.K "_law_cap" "_law_cap" st__law_cap f fd) (hm : mg "_law_cap" = some (.ref f)) (D__law_pick : DefE P G.w mg base G "_law_pick" 2 2 [(PySem.Str.ofString "pen"), (PySem.Str.ofString "some")] d__law_pick) (D__law_draw : DefE P G.w mg base G "_law_draw" 1 2 [(PySem.Str.ofString "pen"), (PySem.Str.ofString "many")] d__law_draw) : DefE P G.w mg base G "_law_cap" 3 1 [(PySem.Str.ofString "pen")] d__law_cap :=
  ⟨f, fd, hm, F.kp, ok__law_cap B F D__law_pick D__law_draw, bnd0_of F (fun _ _ _ _ _ _ us hl => match us, hl with | [_], _ => rfl), fun h => bnd1_of F fun _ _ _ _ _ _ _ => rfl⟩
theorem ok_is_name (B : Bnds P mg G) (F : Fun G.K "is_name" "is_name" st_is_name f fd) : FnV P G.w G.K mg base 1 f fd [(PySem.Str.ofString "value")] (spV G 1 d_is_name) :=
  fn_body (n := 1) F sc_is_name rfl fun cdv A outer s H E hr hg => ((ss_cons (s_if (PW.pt (wb_or (vb_not (vb_val (v_isi kit_str rfl rfl B.n_isinstance rfl B.n_str rfl (v_var 0 rfl (.inl rfl))))) (wb_or1 (vb_not (vb_chain op_le' op_le' s_le s_le v_int (v_cb call_len' c_len rfl B.n_len rfl (va_cons (v_var 0 rfl (.inl rfl)) va_nil)) (v_globE B.c_MOST_LETTERS rfl fun _ => .int _))))))
  (ss_one (s_ret v_bl))
  ss_nil)
  (ss_one (s_ret (v_cb (cr_all rfl) c_all rfl B.n_all rfl (va_cons (v_lc (own := false) rfl sc_is_name.nd (vsl := [((PySem.Str.ofString "letter"), 1)]) (vi_str (v_var 0 rfl (.inl rfl))) (blkOk_by (by show blkC N_is_name (defScope st_is_name) _ _ = true; decide +kernel)) (fun _ _ _ _ _ => (pg_name (i := 1) sc_is_name.nd rfl (.inl rfl))) (tg_name 1) (by decide) (fun _ _ _ _ _ => vts_nil) (fun _ _ _ _ _ => (v_cmp op_in' (s_inG (neg := false)) (v_var 1 rfl (.inl rfl)) (v_globE B.c_LETTERS rfl (fun _ => by rw [lit21]; exact .str _)) (by with_unfolding_all rfl)))) va_nil))))))
theorem def_is_name (B : Bnds P mg G) (F : Fun G.K "is_name" "is_name" st_is_name f fd) (hm : mg "is_name" = some (.ref f)) : DefE P G.w mg base G "is_name" 1 1 [(PySem.Str.ofString "value")] d_is_name :=
  ⟨f, fd, hm, F.kp, ok_is_name B F, bnd0_of F (fun _ _ _ _ _ _ us hl => match us, hl with | [_], _ => rfl), fun h => bnd1_of F fun _ _ _ _ _ _ _ => rfl⟩
theorem ok_is_own_name (B : Bnds P mg G) (F : Fun G.K "is_own_name" "is_own_name" st_is_own_name f fd) (D_is_name : DefE P G.w mg base G "is_name" 1 1 [(PySem.Str.ofString "value")] d_is_name) : FnV P G.w G.K mg base 2 f fd [(PySem.Str.ofString "value")] (spV G 1 d_is_own_name) :=
  fn_body (n := 1) F sc_is_own_name rfl fun cdv A outer s H E hr hg => ((ss_one (s_ret (v_and (v_callE D_is_name rfl hr (by decide) hg (takes_of rfl rfl rfl rfl) (va_cons (v_var 0 rfl (.inl rfl)) va_nil) rfl) (v_one (v_cmp (op_ne' hr.units) s_ne (v_var 0 rfl (.inl rfl)) (v_globE B.c_SHORE rfl (fun _ => by rw [lit20]; exact .str _)) (by with_unfolding_all rfl)))))))
theorem def_is_own_name (B : Bnds P mg G) (F : Fun G.K "is_own_name" "is_own_name" st_is_own_name f fd) (hm : mg "is_own_name" = some (.ref f)) (D_is_name : DefE P G.w mg base G "is_name" 1 1 [(PySem.Str.ofString "value")] d_is_name) : DefE P G.w mg base G "is_own_name" 2 1 [(PySem.Str.ofString "value")] d_is_own_name :=
  ⟨f, fd, hm, F.kp, ok_is_own_name B F D_is_name, bnd0_of F (fun _ _ _ _ _ _ us hl => match us, hl with | [_], _ => rfl), fun h => bnd1_of F fun _ _ _ _ _ _ _ => rfl⟩
theorem ok_is_integer (B : Bnds P mg G) (F : Fun G.K "is_integer" "is_integer" st_is_integer f fd) : FnV P G.w G.K mg base 1 f fd [(PySem.Str.ofString "value")] (spV G 1 d_is_integer) :=
  fn_body (n := 1) F sc_is_integer rfl fun cdv A outer s H E hr hg => ((ss_one (s_ret (v_and (v_isi kit_int rfl rfl B.n_isinstance rfl B.n_int rfl (v_var 0 rfl (.inl rfl))) (v_one (v_not (v_isi kit_bool rfl rfl B.n_isinstance rfl B.n_bool rfl (v_var 0 rfl (.inl rfl)))))))))
theorem def_is_integer (B : Bnds P mg G) (F : Fun G.K "is_integer" "is_integer" st_is_integer f fd) (hm : mg "is_integer" = some (.ref f)) : DefE P G.w mg base G "is_integer" 1 1 [(PySem.Str.ofString "value")] d_is_integer :=
  ⟨f, fd, hm, F.kp, ok_is_integer B F, bnd0_of F (fun _ _ _ _ _ _ us hl => match us, hl with | [_], _ => rfl), fun h => bnd1_of F fun _ _ _ _ _ _ _ => rfl⟩
theorem ok_is_between (B : Bnds P mg G) (F : Fun G.K "is_between" "is_between" st_is_between f fd) (D_is_integer : DefE P G.w mg base G "is_integer" 1 1 [(PySem.Str.ofString "value")] d_is_integer) : FnV P G.w G.K mg base 2 f fd [(PySem.Str.ofString "value"), (PySem.Str.ofString "most")] (spV G 2 d_is_between) :=
  fn_body (n := 2) F sc_is_between rfl fun cdv A outer s H E hr hg => ((ss_one (s_ret (v_and (v_callE D_is_integer rfl hr (by decide) hg (takes_of rfl rfl rfl rfl) (va_cons (v_var 0 rfl (.inl rfl)) va_nil) rfl) (v_one (v_chain op_le' op_le' s_le s_le v_int (v_var 0 rfl (.inl rfl)) (v_var 1 rfl (.inl rfl))))))))
theorem def_is_between (B : Bnds P mg G) (F : Fun G.K "is_between" "is_between" st_is_between f fd) (hm : mg "is_between" = some (.ref f)) (D_is_integer : DefE P G.w mg base G "is_integer" 1 1 [(PySem.Str.ofString "value")] d_is_integer) : DefE P G.w mg base G "is_between" 2 2 [(PySem.Str.ofString "value"), (PySem.Str.ofString "most")] d_is_between :=
  ⟨f, fd, hm, F.kp, ok_is_between B F D_is_integer, bnd0_of F (fun _ _ _ _ _ _ us hl => match us, hl with | [_, _], _ => rfl), fun h => absurd h (by decide)⟩
theorem ok_are_weights (B : Bnds P mg G) (F : Fun G.K "are_weights" "are_weights" st_are_weights f fd) (D_is_own_name : DefE P G.w mg base G "is_own_name" 2 1 [(PySem.Str.ofString "value")] d_is_own_name) (D_is_between : DefE P G.w mg base G "is_between" 2 2 [(PySem.Str.ofString "value"), (PySem.Str.ofString "most")] d_is_between) : FnV P G.w G.K mg base 3 f fd [(PySem.Str.ofString "value")] (spV G 1 d_are_weights) :=
  fn_body (n := 1) F sc_are_weights rfl fun cdv A outer s H E hr hg => ((ss_cons (s_if (PW.pt (wb_or (vb_not (vb_val (v_isi kit_dict rfl rfl B.n_isinstance rfl B.n_dict rfl (v_var 0 rfl (.inr (.inl rfl)))))) (wb_or1 (vb_cmp op_gt' s_gt (v_cb call_lenXX c_lenX rfl B.n_len rfl (va_cons (v_var 0 rfl (.inr (.inl rfl))) va_nil)) (v_globE B.c_MOST_ISLES rfl fun _ => .int _) (by with_unfolding_all rfl)))))
  (ss_one (s_ret v_bl))
  ss_nil)
  (ss_one (s_ret (v_cb (cr_all rfl) c_all rfl B.n_all rfl (va_cons (v_lc (own := false) rfl sc_are_weights.nd (vsl := [((PySem.Str.ofString "name"), 1)]) (vi_keysX (v_var 0 rfl (.inr (.inl rfl)))) (blkOk_by (by show blkC N_are_weights (defScope st_are_weights) _ _ = true; decide +kernel)) (fun _ _ _ _ _ => (pg_name (i := 1) sc_are_weights.nd rfl (.inl rfl))) (tg_name 1) (by decide) (fun _ _ _ _ _ => vts_nil) (fun _ _ _ _ _ => (v_and (v_callE D_is_own_name rfl hr (by decide) hg LamX.takes0 (va_cons (v_var 1 rfl (.inl rfl)) va_nil) rfl) (v_one (v_callE D_is_between rfl hr (by decide) hg LamX.takes0 (va_cons (v_getX hr.units rfl rfl (v_var 0 rfl (.inr (by first | exact .inl rfl | exact .inr rfl))) (v_var 1 rfl (.inl rfl)) fun _ _ => rfl) (va_cons (v_globE B.c_MOST_WEIGHT rfl fun _ => .int _) va_nil)) rfl))))) va_nil))))))
theorem def_are_weights (B : Bnds P mg G) (F : Fun G.K "are_weights" "are_weights" st_are_weights f fd) (hm : mg "are_weights" = some (.ref f)) (D_is_own_name : DefE P G.w mg base G "is_own_name" 2 1 [(PySem.Str.ofString "value")] d_is_own_name) (D_is_between : DefE P G.w mg base G "is_between" 2 2 [(PySem.Str.ofString "value"), (PySem.Str.ofString "most")] d_is_between) : DefE P G.w mg base G "are_weights" 3 1 [(PySem.Str.ofString "value")] d_are_weights :=
  ⟨f, fd, hm, F.kp, ok_are_weights B F D_is_own_name D_is_between, bnd0_of F (fun _ _ _ _ _ _ us hl => match us, hl with | [_], _ => rfl), fun h => bnd1_of F fun _ _ _ _ _ _ _ => rfl⟩
theorem ok_is_cap (B : Bnds P mg G) (F : Fun G.K "is_cap" "is_cap" st_is_cap f fd) (D_is_between : DefE P G.w mg base G "is_between" 2 2 [(PySem.Str.ofString "value"), (PySem.Str.ofString "most")] d_is_between) : FnV P G.w G.K mg base 3 f fd [(PySem.Str.ofString "value")] (spV G 1 d_is_cap) :=
  fn_body (n := 1) F sc_is_cap rfl fun cdv A outer s H E hr hg => ((ss_one (s_ret (v_or (v_isN (v_var 0 rfl (.inl rfl))) (v_one (v_callE D_is_between rfl hr (by decide) hg (takes_of rfl rfl rfl rfl) (va_cons (v_var 0 rfl (.inl rfl)) (va_cons (v_globE B.c_MOST_CAP rfl fun _ => .int _) va_nil)) rfl))))))
theorem def_is_cap (B : Bnds P mg G) (F : Fun G.K "is_cap" "is_cap" st_is_cap f fd) (hm : mg "is_cap" = some (.ref f)) (D_is_between : DefE P G.w mg base G "is_between" 2 2 [(PySem.Str.ofString "value"), (PySem.Str.ofString "most")] d_is_between) : DefE P G.w mg base G "is_cap" 3 1 [(PySem.Str.ofString "value")] d_is_cap :=
  ⟨f, fd, hm, F.kp, ok_is_cap B F D_is_between, bnd0_of F (fun _ _ _ _ _ _ us hl => match us, hl with | [_], _ => rfl), fun h => bnd1_of F fun _ _ _ _ _ _ _ => rfl⟩
theorem ok_Ledger___init__ (B : Bnds P mg G) (F : Fun G.K "__init__" "Ledger.__init__" st_Ledger___init__ f fd) (D_are_weights : DefE P G.w mg base G "are_weights" 3 1 [(PySem.Str.ofString "value")] d_are_weights) (D_is_cap : DefE P G.w mg base G "is_cap" 3 1 [(PySem.Str.ofString "value")] d_is_cap) : FnV P G.w G.K mg base 4 f fd [(PySem.Str.ofString "self"), (PySem.Str.ofString "weights"), (PySem.Str.ofString "load"), (PySem.Str.ofString "rush")] (spV G 4 d_Ledger___init__) :=
  fn_body (n := 4) F sc_Ledger___init__ rfl fun cdv A outer s H E hr hg => ((ss_cons (s_if (vb_not (vb_val (v_callE D_are_weights rfl hr (by decide) hg (takes_of rfl rfl rfl rfl) (va_cons (v_var 1 rfl (.inl rfl)) va_nil) rfl)))
  (ss_one (s_raise (c := 0) rfl (takes_of rfl rfl rfl rfl) B.e_InvalidLedger (by decide) hr (by decide) (va_cons (v_str [119, 101, 105, 103, 104, 116, 115] lit15) va_nil) rfl))
  ss_nil)
  (ss_cons (s_if (vb_not (vb_val (v_callE D_is_cap rfl hr (by decide) hg (takes_of rfl rfl rfl rfl) (va_cons (v_var 2 rfl (.inl rfl)) va_nil) rfl)))
  (ss_one (s_raise (c := 0) rfl (takes_of rfl rfl rfl rfl) B.e_InvalidLedger (by decide) hr (by decide) (va_cons (v_str [108, 111, 97, 100] lit16) va_nil) rfl))
  ss_nil)
  (ss_cons (s_if (vb_not (vb_val (v_callE D_is_cap rfl hr (by decide) hg (takes_of rfl rfl rfl rfl) (va_cons (v_var 3 rfl (.inl rfl)) va_nil) rfl)))
  (ss_one (s_raise (c := 0) rfl (takes_of rfl rfl rfl rfl) B.e_InvalidLedger (by decide) hr (by decide) (va_cons (v_str [114, 117, 115, 104] lit17) va_nil) rfl))
  ss_nil)
  (ss_cons (s_setFD rfl B.k_Ledger (by decide +kernel) lit18 (v_ct call_tupP c_tupP rfl B.n_tuple rfl (va_cons (v_sortIt (own := false) rfl rfl rfl B.n_sorted (v_var 1 rfl (.inl rfl))) va_nil)) (v_var 0 rfl (.inl rfl)))
  (ss_one (s_setFD rfl B.k_Ledger (by decide +kernel) lit19 (v_tup (va_cons (v_var 2 rfl (.inl rfl)) (va_cons (v_var 3 rfl (.inl rfl)) va_nil))) (v_var 0 rfl (.inl rfl)))))))))
theorem def_mk_Ledger_1_load_rush (B : Bnds P mg G) (F : Fun G.K "__init__" "Ledger.__init__" st_Ledger___init__ f fd) (M : Mk G.K (G.ca 1) f) (D_are_weights : DefE P G.w mg base G "are_weights" 3 1 [(PySem.Str.ofString "value")] d_are_weights) (D_is_cap : DefE P G.w mg base G "is_cap" 3 1 [(PySem.Str.ofString "value")] d_is_cap) : MakeD P G.w mg base G 1 4 4 1 [(PySem.Str.ofString "load"), (PySem.Str.ofString "rush")] [] [0, 1, 2, 3] d_Ledger___init__ := by
  refine ⟨f, fd, [(PySem.Str.ofString "self"), (PySem.Str.ofString "weights"), (PySem.Str.ofString "load"), (PySem.Str.ofString "rush")], M, ok_Ledger___init__ B F D_are_weights D_is_cap, ?_, rfl⟩
  obtain ⟨oc, od, kV, doc, pm, an, cdv, ct, osl, rfl, lk, hcd⟩ := F.ex
  exact shp_of fun s us ws h1 h2 => match us, ws, h1, h2 with | [_, _], [_, _], _, _ => rfl
theorem def_mk_Ledger_1_rush_load (B : Bnds P mg G) (F : Fun G.K "__init__" "Ledger.__init__" st_Ledger___init__ f fd) (M : Mk G.K (G.ca 1) f) (D_are_weights : DefE P G.w mg base G "are_weights" 3 1 [(PySem.Str.ofString "value")] d_are_weights) (D_is_cap : DefE P G.w mg base G "is_cap" 3 1 [(PySem.Str.ofString "value")] d_is_cap) : MakeD P G.w mg base G 1 4 4 1 [(PySem.Str.ofString "rush"), (PySem.Str.ofString "load")] [] [0, 1, 3, 2] d_Ledger___init__ := by
  refine ⟨f, fd, [(PySem.Str.ofString "self"), (PySem.Str.ofString "weights"), (PySem.Str.ofString "load"), (PySem.Str.ofString "rush")], M, ok_Ledger___init__ B F D_are_weights D_is_cap, ?_, rfl⟩
  obtain ⟨oc, od, kV, doc, pm, an, cdv, ct, osl, rfl, lk, hcd⟩ := F.ex
  exact shp_of fun s us ws h1 h2 => match us, ws, h1, h2 with | [_, _], [_, _], _, _ => rfl
theorem def_mk_Ledger_0_weights_rush_load (B : Bnds P mg G) (F : Fun G.K "__init__" "Ledger.__init__" st_Ledger___init__ f fd) (M : Mk G.K (G.ca 1) f) (D_are_weights : DefE P G.w mg base G "are_weights" 3 1 [(PySem.Str.ofString "value")] d_are_weights) (D_is_cap : DefE P G.w mg base G "is_cap" 3 1 [(PySem.Str.ofString "value")] d_is_cap) : MakeD P G.w mg base G 1 4 4 0 [(PySem.Str.ofString "weights"), (PySem.Str.ofString "rush"), (PySem.Str.ofString "load")] [] [0, 1, 3, 2] d_Ledger___init__ := by
  refine ⟨f, fd, [(PySem.Str.ofString "self"), (PySem.Str.ofString "weights"), (PySem.Str.ofString "load"), (PySem.Str.ofString "rush")], M, ok_Ledger___init__ B F D_are_weights D_is_cap, ?_, rfl⟩
  obtain ⟨oc, od, kV, doc, pm, an, cdv, ct, osl, rfl, lk, hcd⟩ := F.ex
  exact shp_of fun s us ws h1 h2 => match us, ws, h1, h2 with | [_], [_, _, _], _, _ => rfl
theorem def_mk_Ledger_1_ (B : Bnds P mg G) (F : Fun G.K "__init__" "Ledger.__init__" st_Ledger___init__ f fd) (M : Mk G.K (G.ca 1) f) {D0 : Addr} (hkd : fd.kwdefaults = .ref D0) (hq : ∀ q ∈ ([((PySem.Str.ofString "load"), .none), ((PySem.Str.ofString "rush"), .none)] : List (Str × Value)), PySem.W.nsIn G.K D0 q.1 = some (some q.2)) (D_are_weights : DefE P G.w mg base G "are_weights" 3 1 [(PySem.Str.ofString "value")] d_are_weights) (D_is_cap : DefE P G.w mg base G "is_cap" 3 1 [(PySem.Str.ofString "value")] d_is_cap) : MakeD P G.w mg base G 1 4 4 1 [] [.non, .non] [0, 1, 2, 3] d_Ledger___init__ := by
  refine ⟨f, fd, [(PySem.Str.ofString "self"), (PySem.Str.ofString "weights"), (PySem.Str.ofString "load"), (PySem.Str.ofString "rush")], M, ok_Ledger___init__ B F D_are_weights D_is_cap, ?_, rfl⟩
  obtain ⟨oc, od, kV, doc, pm, an, cdv, ct, osl, rfl, lk, hcd⟩ := F.ex
  cases (show kV = _ from hkd)
  exact shp_kw (vds := [.non, .non]) [((PySem.Str.ofString "load"), .none), ((PySem.Str.ofString "rush"), .none)] (.cons rfl (.cons rfl .nil)) (fun _ _ => (.cons .non (.cons .non .nil))) hq fun us ws h1 h2 => match us, ws, h1, h2 with | [_, _], [], _, _ => ⟨_, _, _, _, _, _, rfl, rfl, ⟨_, _, _, _, _, _, rfl, rfl, rfl⟩⟩
theorem def_mk_Ledger_1_load (B : Bnds P mg G) (F : Fun G.K "__init__" "Ledger.__init__" st_Ledger___init__ f fd) (M : Mk G.K (G.ca 1) f) {D0 : Addr} (hkd : fd.kwdefaults = .ref D0) (hq : ∀ q ∈ ([((PySem.Str.ofString "rush"), .none)] : List (Str × Value)), PySem.W.nsIn G.K D0 q.1 = some (some q.2)) (D_are_weights : DefE P G.w mg base G "are_weights" 3 1 [(PySem.Str.ofString "value")] d_are_weights) (D_is_cap : DefE P G.w mg base G "is_cap" 3 1 [(PySem.Str.ofString "value")] d_is_cap) : MakeD P G.w mg base G 1 4 4 1 [(PySem.Str.ofString "load")] [.non] [0, 1, 2, 3] d_Ledger___init__ := by
  refine ⟨f, fd, [(PySem.Str.ofString "self"), (PySem.Str.ofString "weights"), (PySem.Str.ofString "load"), (PySem.Str.ofString "rush")], M, ok_Ledger___init__ B F D_are_weights D_is_cap, ?_, rfl⟩
  obtain ⟨oc, od, kV, doc, pm, an, cdv, ct, osl, rfl, lk, hcd⟩ := F.ex
  cases (show kV = _ from hkd)
  exact shp_kw (vds := [.non]) [((PySem.Str.ofString "rush"), .none)] (.cons rfl .nil) (fun _ _ => (.cons .non .nil)) hq fun us ws h1 h2 => match us, ws, h1, h2 with | [_, _], [_], _, _ => ⟨_, _, _, _, _, _, rfl, rfl, rfl⟩
theorem ok_Ledger_weights (B : Bnds P mg G) (F : Fun G.K "weights" "Ledger.weights" st_Ledger_weights f fd) : FnV P G.w G.K mg base 1 f fd [(PySem.Str.ofString "self")] (spV G 1 d_Ledger_weights) :=
  fn_bodyO (n := 1) F sc_Ledger_weights rfl fun cdv A outer s H E hr hg => ((ss_one (s_ret (v_ct (call_dictA rfl) c_dictA rfl B.n_dict rfl (va_cons (v_fldD rfl B.k_Ledger (by decide +kernel) lit18 (v_var 0 rfl (.inl rfl))) va_nil)))))
theorem def_Ledger_weights (B : Bnds P mg G) (F : Fun G.K "weights" "Ledger.weights" st_Ledger_weights f fd) {p : Addr} (M : PropOf G.K (G.ca 1) (PySem.Str.ofString "weights") p f) : PropD P G.w mg base G 1 1 (PySem.Str.ofString "weights") d_Ledger_weights :=
  ⟨p, f, fd, _, M, ok_Ledger_weights B F, bnd0_of F (fun _ _ _ _ _ _ us hl => match us, hl with | [_], _ => rfl)⟩
theorem ok_Ledger_names (B : Bnds P mg G) (F : Fun G.K "names" "Ledger.names" st_Ledger_names f fd) : FnV P G.w G.K mg base 1 f fd [(PySem.Str.ofString "self")] (spV G 1 d_Ledger_names) :=
  fn_body (n := 1) F sc_Ledger_names rfl fun cdv A outer s H E hr hg => ((ss_one (s_ret (v_ct call_tuple_of c_tuple rfl B.n_tuple rfl (va_cons (v_lc (own := false) rfl sc_Ledger_names.nd (vsl := [((PySem.Str.ofString "name"), 1), ((PySem.Str.ofString "weight"), 2)]) (vi_tup rfl (v_fldD rfl B.k_Ledger (by decide +kernel) lit18 (v_var 0 rfl (.inl rfl)))) (blkOk_by (by show blkC N_Ledger_names (defScope st_Ledger_names) _ _ = true; decide +kernel)) (fun _ _ _ _ _ => (pg_tup rfl (pgs_cons (pg_name (i := 1) sc_Ledger_names.nd rfl (.inl rfl)) (pgs_cons (pg_name (i := 2) sc_Ledger_names.nd rfl (.inl rfl)) pgs_nil)))) (tg_tup (tgs_cons 1 (tgs_cons 2 tgs_nil)) rfl) (by decide) (fun _ _ _ _ _ => vts_nil) (fun _ _ _ _ _ => (v_var 1 rfl (.inl rfl)))) va_nil)))))
theorem def_Ledger_names (B : Bnds P mg G) (F : Fun G.K "names" "Ledger.names" st_Ledger_names f fd) {p : Addr} (M : PropOf G.K (G.ca 1) (PySem.Str.ofString "names") p f) : PropD P G.w mg base G 1 1 (PySem.Str.ofString "names") d_Ledger_names :=
  ⟨p, f, fd, _, M, ok_Ledger_names B F, bnd0_of F (fun _ _ _ _ _ _ us hl => match us, hl with | [_], _ => rfl)⟩
theorem ok_Ledger_load_cap (B : Bnds P mg G) (F : Fun G.K "load_cap" "Ledger.load_cap" st_Ledger_load_cap f fd) : FnV P G.w G.K mg base 1 f fd [(PySem.Str.ofString "self")] (spV G 1 d_Ledger_load_cap) :=
  fn_body (n := 1) F sc_Ledger_load_cap rfl fun cdv A outer s H E hr hg => ((ss_one (s_ret (v_ix rfl (v_fldD rfl B.k_Ledger (by decide +kernel) lit19 (v_var 0 rfl (.inl rfl))) v_int fun _ _ => rfl))))
theorem def_Ledger_load_cap (B : Bnds P mg G) (F : Fun G.K "load_cap" "Ledger.load_cap" st_Ledger_load_cap f fd) {p : Addr} (M : PropOf G.K (G.ca 1) (PySem.Str.ofString "load_cap") p f) : PropD P G.w mg base G 1 1 (PySem.Str.ofString "load_cap") d_Ledger_load_cap :=
  ⟨p, f, fd, _, M, ok_Ledger_load_cap B F, bnd0_of F (fun _ _ _ _ _ _ us hl => match us, hl with | [_], _ => rfl)⟩
theorem ok_Ledger_rush_cap (B : Bnds P mg G) (F : Fun G.K "rush_cap" "Ledger.rush_cap" st_Ledger_rush_cap f fd) : FnV P G.w G.K mg base 1 f fd [(PySem.Str.ofString "self")] (spV G 1 d_Ledger_rush_cap) :=
  fn_body (n := 1) F sc_Ledger_rush_cap rfl fun cdv A outer s H E hr hg => ((ss_one (s_ret (v_ix rfl (v_fldD rfl B.k_Ledger (by decide +kernel) lit19 (v_var 0 rfl (.inl rfl))) v_int fun _ _ => rfl))))
theorem def_Ledger_rush_cap (B : Bnds P mg G) (F : Fun G.K "rush_cap" "Ledger.rush_cap" st_Ledger_rush_cap f fd) {p : Addr} (M : PropOf G.K (G.ca 1) (PySem.Str.ofString "rush_cap") p f) : PropD P G.w mg base G 1 1 (PySem.Str.ofString "rush_cap") d_Ledger_rush_cap :=
  ⟨p, f, fd, _, M, ok_Ledger_rush_cap B F, bnd0_of F (fun _ _ _ _ _ _ us hl => match us, hl with | [_], _ => rfl)⟩
theorem ok__law_told (B : Bnds P mg G) (F : Fun G.K "_law_told" "_law_told" st__law_told f fd) (D_Ledger_weights : PropD P G.w mg base G 1 1 (PySem.Str.ofString "weights") d_Ledger_weights) (D_Ledger_names : PropD P G.w mg base G 1 1 (PySem.Str.ofString "names") d_Ledger_names) (D_Ledger_load_cap : PropD P G.w mg base G 1 1 (PySem.Str.ofString "load_cap") d_Ledger_load_cap) (D_Ledger_rush_cap : PropD P G.w mg base G 1 1 (PySem.Str.ofString "rush_cap") d_Ledger_rush_cap) : FnV P G.w G.K mg base 3 f fd [(PySem.Str.ofString "ledger")] (spV G 1 d__law_told) :=
  fn_body (n := 1) F sc__law_told rfl fun cdv A outer s H E hr hg => ((ss_one (s_ret (v_lst (own := false) (va_cons (v_items rfl rfl rfl B.n_list (v_propD D_Ledger_weights rfl hr (by decide) hg B.k_Ledger (v_var 0 rfl (.inl rfl)))) (va_cons (v_propD D_Ledger_names rfl hr (by decide) hg B.k_Ledger (v_var 0 rfl (.inl rfl))) (va_cons (v_propD D_Ledger_load_cap rfl hr (by decide) hg B.k_Ledger (v_var 0 rfl (.inl rfl))) (va_cons (v_propD D_Ledger_rush_cap rfl hr (by decide) hg B.k_Ledger (v_var 0 rfl (.inl rfl))) va_nil))))))))
theorem def__law_told (B : Bnds P mg G) (F : Fun G.K "_law_told" "_law_told" st__law_told f fd) (hm : mg "_law_told" = some (.ref f)) (D_Ledger_weights : PropD P G.w mg base G 1 1 (PySem.Str.ofString "weights") d_Ledger_weights) (D_Ledger_names : PropD P G.w mg base G 1 1 (PySem.Str.ofString "names") d_Ledger_names) (D_Ledger_load_cap : PropD P G.w mg base G 1 1 (PySem.Str.ofString "load_cap") d_Ledger_load_cap) (D_Ledger_rush_cap : PropD P G.w mg base G 1 1 (PySem.Str.ofString "rush_cap") d_Ledger_rush_cap) : DefE P G.w mg base G "_law_told" 3 1 [(PySem.Str.ofString "ledger")] d__law_told :=
  ⟨f, fd, hm, F.kp, ok__law_told B F D_Ledger_weights D_Ledger_names D_Ledger_load_cap D_Ledger_rush_cap, bnd0_of F (fun _ _ _ _ _ _ us hl => match us, hl with | [_], _ => rfl), fun h => bnd1_of F fun _ _ _ _ _ _ _ => rfl⟩
theorem ok__law_due (B : Bnds P mg G) (F : Fun G.K "_law_due" "_law_due" st__law_due f fd) : FnV P G.w G.K mg base 1 f fd [(PySem.Str.ofString "weights"), (PySem.Str.ofString "load"), (PySem.Str.ofString "rush")] (spV G 3 d__law_due) :=
  fn_body (n := 3) F sc__law_due rfl fun cdv A outer s H E hr hg => ((ss_cons (s_set 3 sc__law_due.nd rfl (.inl rfl) (v_cb call_sortD (c_sorted (own := false)) rfl B.n_sorted rfl (va_cons (v_lc (own := false) rfl sc__law_due.nd (vsl := [((PySem.Str.ofString "tag"), 4)]) (vi_keysX (v_var 0 rfl (.inr (.inl rfl)))) (blkOk_by (by show blkC N__law_due (defScope st__law_due) _ _ = true; decide +kernel)) (fun _ _ _ _ _ => (pg_name (i := 4) sc__law_due.nd rfl (.inl rfl))) (tg_name 4) (by decide) (fun _ _ _ _ _ => vts_nil) (fun _ _ _ _ _ => (v_tup (va_cons (v_ct call_strB c_str rfl B.n_str rfl (va_cons (v_var 4 rfl (.inl rfl)) va_nil)) (va_cons (v_getX hr.units rfl rfl (v_var 0 rfl (.inr (by first | exact .inl rfl | exact .inr rfl))) (v_var 4 rfl (.inl rfl)) fun _ _ => rfl) va_nil))))) va_nil)))
  (ss_one (s_ret (v_lst (own := false) (va_cons (v_var 3 rfl (.inl rfl)) (va_cons (v_ct call_tuple_of c_tuple rfl B.n_tuple rfl (va_cons (v_lc (own := false) rfl sc__law_due.nd (vsl := [((PySem.Str.ofString "tag"), 4), ((PySem.Str.ofString "weight"), 5)]) (vi_list rfl (v_var 3 rfl (.inl rfl))) (blkOk_by (by show blkC N__law_due (defScope st__law_due) _ _ = true; decide +kernel)) (fun _ _ _ _ _ => (pg_tup rfl (pgs_cons (pg_name (i := 4) sc__law_due.nd rfl (.inl rfl)) (pgs_cons (pg_name (i := 5) sc__law_due.nd rfl (.inl rfl)) pgs_nil)))) (tg_tup (tgs_cons 4 (tgs_cons 5 tgs_nil)) rfl) (by decide) (fun _ _ _ _ _ => vts_nil) (fun _ _ _ _ _ => (v_var 4 rfl (.inl rfl)))) va_nil)) (va_cons (v_var 1 rfl (.inl rfl)) (va_cons (v_var 2 rfl (.inl rfl)) va_nil)))))))))
theorem def__law_due (B : Bnds P mg G) (F : Fun G.K "_law_due" "_law_due" st__law_due f fd) (hm : mg "_law_due" = some (.ref f)) : DefE P G.w mg base G "_law_due" 1 3 [(PySem.Str.ofString "weights"), (PySem.Str.ofString "load"), (PySem.Str.ofString "rush")] d__law_due :=
  ⟨f, fd, hm, F.kp, ok__law_due B F, bnd0_of F (fun _ _ _ _ _ _ us hl => match us, hl with | [_, _, _], _ => rfl), fun h => absurd h (by decide)⟩
theorem ok_Ledger_with_load (B : Bnds P mg G) (F : Fun G.K "with_load" "Ledger.with_load" st_Ledger_with_load f fd) (D_mk_Ledger_1_load_rush : MakeD P G.w mg base G 1 4 4 1 [(PySem.Str.ofString "load"), (PySem.Str.ofString "rush")] [] [0, 1, 2, 3] d_Ledger___init__) (D_Ledger_weights : PropD P G.w mg base G 1 1 (PySem.Str.ofString "weights") d_Ledger_weights) : FnV P G.w G.K mg base 6 f fd [(PySem.Str.ofString "self"), (PySem.Str.ofString "load")] (spV G 2 d_Ledger_with_load) :=
  fn_body (n := 2) F sc_Ledger_with_load rfl fun cdv A outer s H E hr hg => ((ss_one (s_ret (v_makeSD D_mk_Ledger_1_load_rush rfl hr (by decide) hg (takes_of rfl rfl rfl rfl) B.k_Ledger rfl (by intro l hl; exact match l, hl with | [_, _, _, _], _ => rfl) (va_cons (v_lk (v_propD D_Ledger_weights rfl hr (by decide) hg B.k_Ledger (v_var 0 rfl (.inl rfl)))) va_nil) (vp_cons (v_var 1 rfl (.inl rfl)) (vp_cons (v_ix rfl (v_fldD rfl B.k_Ledger (by decide +kernel) lit19 (v_var 0 rfl (.inl rfl))) v_int fun _ _ => rfl) vp_nil)) rfl))))
theorem def_mt_with_load_1_ (B : Bnds P mg G) (F : Fun G.K "with_load" "Ledger.with_load" st_Ledger_with_load f fd) (M : Meth G.K (G.ca 1) (PySem.Str.ofString "with_load") f) (D_mk_Ledger_1_load_rush : MakeD P G.w mg base G 1 4 4 1 [(PySem.Str.ofString "load"), (PySem.Str.ofString "rush")] [] [0, 1, 2, 3] d_Ledger___init__) (D_Ledger_weights : PropD P G.w mg base G 1 1 (PySem.Str.ofString "weights") d_Ledger_weights) : MethD P G.w mg base G 1 6 2 1 (PySem.Str.ofString "with_load") [] [] [0, 1] d_Ledger_with_load := by
  refine ⟨f, fd, [(PySem.Str.ofString "self"), (PySem.Str.ofString "load")], M, ok_Ledger_with_load B F D_mk_Ledger_1_load_rush D_Ledger_weights, ?_, rfl⟩
  obtain ⟨oc, od, kV, doc, pm, an, cdv, ct, osl, rfl, lk, hcd⟩ := F.ex
  exact shp_of fun s us ws h1 h2 => match us, ws, h1, h2 with | [_, _], [], _, _ => rfl
theorem def_mt_with_load_0_load (B : Bnds P mg G) (F : Fun G.K "with_load" "Ledger.with_load" st_Ledger_with_load f fd) (M : Meth G.K (G.ca 1) (PySem.Str.ofString "with_load") f) (D_mk_Ledger_1_load_rush : MakeD P G.w mg base G 1 4 4 1 [(PySem.Str.ofString "load"), (PySem.Str.ofString "rush")] [] [0, 1, 2, 3] d_Ledger___init__) (D_Ledger_weights : PropD P G.w mg base G 1 1 (PySem.Str.ofString "weights") d_Ledger_weights) : MethD P G.w mg base G 1 6 2 0 (PySem.Str.ofString "with_load") [(PySem.Str.ofString "load")] [] [0, 1] d_Ledger_with_load := by
  refine ⟨f, fd, [(PySem.Str.ofString "self"), (PySem.Str.ofString "load")], M, ok_Ledger_with_load B F D_mk_Ledger_1_load_rush D_Ledger_weights, ?_, rfl⟩
  obtain ⟨oc, od, kV, doc, pm, an, cdv, ct, osl, rfl, lk, hcd⟩ := F.ex
  exact shp_of fun s us ws h1 h2 => match us, ws, h1, h2 with | [_], [_], _, _ => rfl
theorem ok_Ledger_with_rush (B : Bnds P mg G) (F : Fun G.K "with_rush" "Ledger.with_rush" st_Ledger_with_rush f fd) (D_mk_Ledger_1_load_rush : MakeD P G.w mg base G 1 4 4 1 [(PySem.Str.ofString "load"), (PySem.Str.ofString "rush")] [] [0, 1, 2, 3] d_Ledger___init__) (D_Ledger_weights : PropD P G.w mg base G 1 1 (PySem.Str.ofString "weights") d_Ledger_weights) : FnV P G.w G.K mg base 6 f fd [(PySem.Str.ofString "self"), (PySem.Str.ofString "rush")] (spV G 2 d_Ledger_with_rush) :=
  fn_body (n := 2) F sc_Ledger_with_rush rfl fun cdv A outer s H E hr hg => ((ss_one (s_ret (v_makeSD D_mk_Ledger_1_load_rush rfl hr (by decide) hg (takes_of rfl rfl rfl rfl) B.k_Ledger rfl (by intro l hl; exact match l, hl with | [_, _, _, _], _ => rfl) (va_cons (v_lk (v_propD D_Ledger_weights rfl hr (by decide) hg B.k_Ledger (v_var 0 rfl (.inl rfl)))) va_nil) (vp_cons (v_ix rfl (v_fldD rfl B.k_Ledger (by decide +kernel) lit19 (v_var 0 rfl (.inl rfl))) v_int fun _ _ => rfl) (vp_cons (v_var 1 rfl (.inl rfl)) vp_nil)) rfl))))
theorem def_mt_with_rush_0_rush (B : Bnds P mg G) (F : Fun G.K "with_rush" "Ledger.with_rush" st_Ledger_with_rush f fd) (M : Meth G.K (G.ca 1) (PySem.Str.ofString "with_rush") f) (D_mk_Ledger_1_load_rush : MakeD P G.w mg base G 1 4 4 1 [(PySem.Str.ofString "load"), (PySem.Str.ofString "rush")] [] [0, 1, 2, 3] d_Ledger___init__) (D_Ledger_weights : PropD P G.w mg base G 1 1 (PySem.Str.ofString "weights") d_Ledger_weights) : MethD P G.w mg base G 1 6 2 0 (PySem.Str.ofString "with_rush") [(PySem.Str.ofString "rush")] [] [0, 1] d_Ledger_with_rush := by
  refine ⟨f, fd, [(PySem.Str.ofString "self"), (PySem.Str.ofString "rush")], M, ok_Ledger_with_rush B F D_mk_Ledger_1_load_rush D_Ledger_weights, ?_, rfl⟩
  obtain ⟨oc, od, kV, doc, pm, an, cdv, ct, osl, rfl, lk, hcd⟩ := F.ex
  exact shp_of fun s us ws h1 h2 => match us, ws, h1, h2 with | [_], [_], _, _ => rfl
theorem def_mt_with_rush_1_ (B : Bnds P mg G) (F : Fun G.K "with_rush" "Ledger.with_rush" st_Ledger_with_rush f fd) (M : Meth G.K (G.ca 1) (PySem.Str.ofString "with_rush") f) (D_mk_Ledger_1_load_rush : MakeD P G.w mg base G 1 4 4 1 [(PySem.Str.ofString "load"), (PySem.Str.ofString "rush")] [] [0, 1, 2, 3] d_Ledger___init__) (D_Ledger_weights : PropD P G.w mg base G 1 1 (PySem.Str.ofString "weights") d_Ledger_weights) : MethD P G.w mg base G 1 6 2 1 (PySem.Str.ofString "with_rush") [] [] [0, 1] d_Ledger_with_rush := by
  refine ⟨f, fd, [(PySem.Str.ofString "self"), (PySem.Str.ofString "rush")], M, ok_Ledger_with_rush B F D_mk_Ledger_1_load_rush D_Ledger_weights, ?_, rfl⟩
  obtain ⟨oc, od, kV, doc, pm, an, cdv, ct, osl, rfl, lk, hcd⟩ := F.ex
  exact shp_of fun s us ws h1 h2 => match us, ws, h1, h2 with | [_, _], [], _, _ => rfl
theorem ok_Ledger___eq__ (B : Bnds P mg G) (F : Fun G.K "__eq__" "Ledger.__eq__" st_Ledger___eq__ f fd) : FnV P G.w G.K mg base 1 f fd [(PySem.Str.ofString "self"), (PySem.Str.ofString "other")] (spV G 2 d_Ledger___eq__) :=
  fn_body (n := 2) F sc_Ledger___eq__ rfl fun cdv A outer s H E hr hg => ((ss_cons (s_if (vb_not (vb_val (v_isCA rfl B.k_Ledger.ins B.nc_Ledger rfl B.n_isinstance rfl B.k_Ledger.g (v_var 1 rfl (.inl rfl)))))
  (ss_one (s_ret v_bl))
  ss_nil)
  (ss_one (s_ret (v_cmp (op_eq' hr.units) s_eq (v_tup (va_cons (v_fldD rfl B.k_Ledger (by decide +kernel) lit18 (v_var 0 rfl (.inl rfl))) (va_cons (v_fldD rfl B.k_Ledger (by decide +kernel) lit19 (v_var 0 rfl (.inl rfl))) va_nil))) (v_tup (va_cons (v_fldD rfl B.k_Ledger (by decide +kernel) lit18 (v_var 1 rfl (.inl rfl))) (va_cons (v_fldD rfl B.k_Ledger (by decide +kernel) lit19 (v_var 1 rfl (.inl rfl))) va_nil))) (by with_unfolding_all rfl))))))
theorem def_Ledger___eq__ (B : Bnds P mg G) (F : Fun G.K "__eq__" "Ledger.__eq__" st_Ledger___eq__ f fd) (M : NeI G.K (G.ca 1) f) : EqD P G.w mg base G 1 1 d_Ledger___eq__ :=
  ⟨f, fd, _, M, ok_Ledger___eq__ B F, bnd0_of F (fun _ _ _ _ _ _ us hl => match us, hl with | [_, _], _ => rfl)⟩
theorem ok_Ledger___repr__ (B : Bnds P mg G) (F : Fun G.K "__repr__" "Ledger.__repr__" st_Ledger___repr__ f fd) : FnV P G.w G.K mg base 1 f fd [(PySem.Str.ofString "self")] (spV G 1 d_Ledger___repr__) :=
  fn_body (n := 1) F sc_Ledger___repr__ rfl fun cdv A outer s H E hr hg => ((ss_one (s_ret (v_js (.cons (v_str [76, 101, 100, 103, 101, 114, 40] lit5) (.cons (v_fmt (v_cb call_len' c_len rfl B.n_len rfl (va_cons (v_fldD rfl B.k_Ledger (by decide +kernel) lit18 (v_var 0 rfl (.inl rfl))) va_nil))) (.cons (v_str [32, 119, 101, 105, 103, 104, 116, 115, 41] lit6) .nil)))))))
theorem def_Ledger___repr__ (B : Bnds P mg G) (F : Fun G.K "__repr__" "Ledger.__repr__" st_Ledger___repr__ f fd) (M : ReprI G.K (G.ca 1) f) : ReprD P G.w mg base G 1 1 d_Ledger___repr__ :=
  ⟨f, fd, _, M, ok_Ledger___repr__ B F, bnd0_of F (fun _ _ _ _ _ _ us hl => match us, hl with | [_], _ => rfl)⟩
theorem ok__law_bad_weights (B : Bnds P mg G) (F : Fun G.K "_law_bad_weights" "_law_bad_weights" st__law_bad_weights f fd) (D__law_draw : DefE P G.w mg base G "_law_draw" 1 2 [(PySem.Str.ofString "pen"), (PySem.Str.ofString "many")] d__law_draw) (D__law_pick : DefE P G.w mg base G "_law_pick" 2 2 [(PySem.Str.ofString "pen"), (PySem.Str.ofString "some")] d__law_pick) : FnV P G.w G.K mg base 3 f fd [(PySem.Str.ofString "pen"), (PySem.Str.ofString "weights")] (spV G 2 d__law_bad_weights) :=
  fn_body (n := 2) F sc__law_bad_weights rfl fun cdv A outer s H E hr hg => ((ss_cons (s_par (i := 2) (j := 3) rfl sc__law_bad_weights.nd rfl rfl (by decide) rfl rfl (va_cons (v_ct (call_dictA rfl) c_dictA rfl B.n_dict rfl (va_cons (v_var 1 rfl (.inl rfl)) va_nil)) (va_cons (v_callE D__law_draw rfl hr (by decide) hg (takes_of rfl rfl rfl rfl) (va_cons (v_var 0 rfl (.inl rfl)) (va_cons v_int va_nil)) rfl) va_nil)) rfl)
  (ss_cons (s_if (vb_cmp (op_eq' hr.units) s_eq (v_var 3 rfl (.inl rfl)) v_int (by with_unfolding_all rfl))
  (ss_one (s_ret (v_callE D__law_pick rfl hr (by decide) hg (takes_of rfl rfl rfl rfl) (va_cons (v_var 0 rfl (.inl rfl)) (va_cons (v_lst (own := false) (va_cons v_non (va_cons (v_lst (own := false) va_nil) (va_cons (v_tup va_nil) (va_cons (v_str [97] lit7) (va_cons v_int (va_cons v_bl (va_cons (v_lst (own := false) (va_cons (v_tup (va_cons (v_str [97] lit7) (va_cons v_int va_nil))) va_nil)) va_nil)))))))) va_nil)) rfl)))
  ss_nil)
  (ss_cons (s_if (vb_cmp (op_eq' hr.units) s_eq (v_var 3 rfl (.inl rfl)) v_int (by with_unfolding_all rfl))
  (ss_one (s_putX hr.units rfl rfl v_int (v_var 2 rfl (.inl rfl)) (v_callE D__law_pick rfl hr (by decide) hg (takes_of rfl rfl rfl rfl) (va_cons (v_var 0 rfl (.inl rfl)) (va_cons (v_lst (own := false) (va_cons (v_str [] lit23) (va_cons (v_str [65] lit24) (va_cons (v_str [110, 105, 110, 101, 115, 105, 103, 110, 115] lit25) (va_cons (v_str [115, 104, 111, 114, 101] lit20) (va_cons v_int (va_cons v_non (va_cons (v_tup (va_cons (v_str [97] lit7) va_nil)) (va_cons (v_str [97, 49] lit26) (va_cons (v_str [97, 32, 98] lit27) va_nil)))))))))) va_nil)) rfl)))
  (ss_one (s_if (vb_cmp (op_eq' hr.units) s_eq (v_var 3 rfl (.inl rfl)) v_int (by with_unfolding_all rfl))
  (ss_one (s_putX hr.units rfl rfl (v_callE D__law_pick rfl hr (by decide) hg (takes_of rfl rfl rfl rfl) (va_cons (v_var 0 rfl (.inl rfl)) (va_cons (v_lst (own := false) (va_cons v_non (va_cons (v_neg v_int) (va_cons (v_op op_add' (s_add (own := false)) (v_op op_pow s_pow v_int v_int) v_int) (va_cons v_bl (va_cons (v_str [49] lit22) (va_cons (v_tup (va_cons v_int va_nil)) (va_cons (v_op op_pow s_pow v_int v_int) va_nil)))))))) va_nil)) rfl) (v_var 2 rfl (.inl rfl)) (v_str [97] lit7)))
  (ss_one (s_set 2 sc__law_bad_weights.nd rfl (.inl rfl) (v_ct (call_dictA rfl) c_dictA rfl B.n_dict rfl (va_cons (v_lc (own := false) rfl sc__law_bad_weights.nd (vsl := [((PySem.Str.ofString "tag"), 4)]) (vi_str (v_str [97, 98, 99, 100, 101, 102, 103, 104, 105] lit28)) (blkOk_by (by show blkC N__law_bad_weights (defScope st__law_bad_weights) _ _ = true; decide +kernel)) (fun _ _ _ _ _ => (pg_name (i := 4) sc__law_bad_weights.nd rfl (.inl rfl))) (tg_name 4) (by decide) (fun _ _ _ _ _ => vts_nil) (fun _ _ _ _ _ => (v_tup (va_cons (v_var 4 rfl (.inl rfl)) (va_cons v_int va_nil))))) va_nil)))))))
  (ss_one (s_ret (v_lk (v_var 2 rfl (.inl rfl)))))))))
theorem def__law_bad_weights (B : Bnds P mg G) (F : Fun G.K "_law_bad_weights" "_law_bad_weights" st__law_bad_weights f fd) (hm : mg "_law_bad_weights" = some (.ref f)) (D__law_draw : DefE P G.w mg base G "_law_draw" 1 2 [(PySem.Str.ofString "pen"), (PySem.Str.ofString "many")] d__law_draw) (D__law_pick : DefE P G.w mg base G "_law_pick" 2 2 [(PySem.Str.ofString "pen"), (PySem.Str.ofString "some")] d__law_pick) : DefE P G.w mg base G "_law_bad_weights" 3 2 [(PySem.Str.ofString "pen"), (PySem.Str.ofString "weights")] d__law_bad_weights :=
  ⟨f, fd, hm, F.kp, ok__law_bad_weights B F D__law_draw D__law_pick, bnd0_of F (fun _ _ _ _ _ _ us hl => match us, hl with | [_, _], _ => rfl), fun h => absurd h (by decide)⟩
theorem def_lam__law_heard (B : Bnds P mg G) (F : Fun G.K "_law_heard" "_law_heard" st__law_heard f fd) (hm : mg "_law_heard" = some (.ref f)) : LamD P G.w mg base G "_law_heard" (PySem.Str.ofString "ask") 13 4 gH__law_heard := by
  obtain ⟨oc, od, kV, doc, pm, an, cdv, ct, osl, e, lk, hcd⟩ := F.ex
  subst e
  exact ⟨f, _, _, _, _, kV, doc, pm, cdv, ct, oc, an, od, osl, N__law_heard, hm, F.kp, lk, hcd, (.all fun us hl => match us, hl with | [_], _ => rfl), sc__law_heard, rfl, rfl, (.inl rfl), fun A outer s H fa fp fs F0 act hr hg => ((ss_cons (s_asg (v_tup (va_cons v_non (va_cons v_non va_nil))) (pg_tup rfl (pgs_cons (pg_name (i := 1) sc__law_heard.nd rfl (.inl rfl)) (pgs_cons (pg_name (i := 2) sc__law_heard.nd rfl (.inl rfl)) pgs_nil))) (tg_tup (tgs_cons 1 (tgs_cons 2 tgs_nil)) rfl))
  (ss_cons (s_tryK (c := 0) (i := 3) (j := 1) rfl rfl rfl sc__law_heard.nd rfl rfl (by decide) rfl rfl (.inl rfl) ⟨rfl, by decide, .inl B.g_DuskError⟩ LamX.takes0 B.te_DuskError
  (fun W1 pn1 xe1 t1 po1 => (ss_one (s_set 2 sc__law_heard.nd rfl (.inl rfl) (act _ _ _ _ _ t1)))))
  (ss_cons (s_if (vb_isN (v_var 1 rfl (.inl rfl)))
  (ss_one (s_ret (v_lst (own := false) (va_cons (v_var 2 rfl (.inl rfl)) va_nil))))
  ss_nil)
  (ss_one (s_ret (v_if (vb_val (v_isX rfl B.x_InvalidLedger rfl B.n_isinstance rfl B.e_InvalidLedger.gC (v_var 1 rfl (.inl rfl)))) (v_exF rfl B.x_InvalidLedger.xf B.nf_part lit29 (v_var 1 rfl (.inl rfl))) (v_str [111, 100, 100] lit30))))))))⟩
theorem ok__law_refused_right (B : Bnds P mg G) (F : Fun G.K "_law_refused_right" "_law_refused_right" st__law_refused_right f fd) (D__law_bad_weights : DefE P G.w mg base G "_law_bad_weights" 3 2 [(PySem.Str.ofString "pen"), (PySem.Str.ofString "weights")] d__law_bad_weights) (D__law_pick : DefE P G.w mg base G "_law_pick" 2 2 [(PySem.Str.ofString "pen"), (PySem.Str.ofString "some")] d__law_pick) (D_lam__law_heard : LamD P G.w mg base G "_law_heard" (PySem.Str.ofString "ask") 13 4 gH__law_heard) (D_mk_Ledger_1_load_rush : MakeD P G.w mg base G 1 4 4 1 [(PySem.Str.ofString "load"), (PySem.Str.ofString "rush")] [] [0, 1, 2, 3] d_Ledger___init__) (D_mk_Ledger_1_rush_load : MakeD P G.w mg base G 1 4 4 1 [(PySem.Str.ofString "rush"), (PySem.Str.ofString "load")] [] [0, 1, 3, 2] d_Ledger___init__) (D_mt_with_load_1_ : MethD P G.w mg base G 1 6 2 1 (PySem.Str.ofString "with_load") [] [] [0, 1] d_Ledger_with_load) (D_mt_with_rush_0_rush : MethD P G.w mg base G 1 6 2 0 (PySem.Str.ofString "with_rush") [(PySem.Str.ofString "rush")] [] [0, 1] d_Ledger_with_rush) (D__law_told : DefE P G.w mg base G "_law_told" 3 1 [(PySem.Str.ofString "ledger")] d__law_told) (D__law_due : DefE P G.w mg base G "_law_due" 1 3 [(PySem.Str.ofString "weights"), (PySem.Str.ofString "load"), (PySem.Str.ofString "rush")] d__law_due) {cO Pt : Addr} (TM : Maker base mg G.T fd ("_law_refused_right.<locals>." ++ "<lambda>") cO Pt) : FnV P G.w G.K mg base 15 f fd [(PySem.Str.ofString "pen"), (PySem.Str.ofString "weights"), (PySem.Str.ofString "load"), (PySem.Str.ofString "rush")] (spV G 4 d__law_refused_right) :=
  fn_bodyC (n := 4) F sc__law_refused_right rfl fun cdv hc A outer s H E hr hg => ((ss_cons (s_parN (is := [4, 5]) rfl (va_cons (v_callE D__law_bad_weights rfl hr (by decide) hg (takes_of rfl rfl rfl rfl) (va_cons (v_var 0 rfl (.inl rfl)) (va_cons (v_var 1 rfl (.inr (.inl rfl))) va_nil)) rfl) (va_cons (v_callE D__law_pick rfl hr (by decide) hg (takes_of rfl rfl rfl rfl) (va_cons (v_var 0 rfl (.inl rfl)) (va_cons (v_lst (own := false) (va_cons (v_neg v_int) (va_cons v_bl (va_cons (v_str [49] lit22) (va_cons (v_tup va_nil) (va_cons (v_op op_add' (s_add (own := false)) (v_op op_pow s_pow v_int v_int) v_int) (va_cons (v_lst (own := false) (va_cons v_int va_nil)) (va_cons v_d0 va_nil)))))))) va_nil)) rfl) va_nil)) (pgs_cons (pg_name (i := 4) sc__law_refused_right.nd rfl (.inr rfl)) (pgs_cons (pg_name (i := 5) sc__law_refused_right.nd rfl (.inr rfl)) pgs_nil)))
  (ss_cons (s_set 6 sc__law_refused_right.nd rfl (.inl rfl) (v_lst (own := true) (va_cons (v_lam (k := 12) (n := 4) D_lam__law_heard rfl rfl TM.tb (hc.symm.trans TM.code) TM.mem TM.un (hr.mono (by decide)) hg (lamS_by (by show lamSB (defScope st__law_refused_right) _ = true; decide +kernel)) rfl (fun _ _ _ _ _ => rfl) (fun B1 out1 s1 H1 E1 f1 c1 h1 h2 => (v_makeSD D_mk_Ledger_1_load_rush rfl h1 (by decide) h2 (takes_of rfl rfl rfl rfl) B.k_Ledger rfl (by intro l hl; exact match l, hl with | [_, _, _, _], _ => rfl) (va_cons (v_var 4 rfl (.inr (by first | exact .inl rfl | exact .inr rfl))) va_nil) (vp_cons (v_var 5 rfl (.inr (by first | exact .inl rfl | exact .inr rfl))) (vp_cons (v_var 5 rfl (.inr (by first | exact .inl rfl | exact .inr rfl))) vp_nil)) rfl))) (va_cons (v_lamD (k := 12) (n := 4) (a1 := (PySem.Str.ofString "a1")) D_lam__law_heard rfl rfl TM.tb (hc.symm.trans TM.code) TM.mem TM.un (hr.mono (by decide)) hg (lamS1_by (by show lamS1B N__law_refused_right (defScope st__law_refused_right) _ _ = true; decide +kernel)) rfl rfl (fun _ _ _ _ _ _ _ => ⟨_, rfl, rfl⟩) (fun B1 out1 s1 H1 E1 f1 c1 h1 h2 => (v_makeSD D_mk_Ledger_1_load_rush rfl h1 (by decide) h2 (takes_of rfl rfl rfl rfl) B.k_Ledger rfl (by intro l hl; exact match l, hl with | [_, _, _, _], _ => rfl) (va_cons (v_var 1 rfl (.inr (by first | exact .inl rfl | exact .inr rfl))) va_nil) (vp_cons (v_var 5 rfl (.inr (by first | exact .inl rfl | exact .inr rfl))) (vp_cons (v_var 5 rfl (.inr (by first | exact .inl rfl | exact .inr rfl))) vp_nil)) rfl))) va_nil))))
  (ss_cons (s_expr (v_append rfl (v_var 6 rfl (.inl rfl)) (va_cons (v_lam (k := 12) (n := 4) D_lam__law_heard rfl rfl TM.tb (hc.symm.trans TM.code) TM.mem TM.un (hr.mono (by decide)) hg (lamS_by (by show lamSB (defScope st__law_refused_right) _ = true; decide +kernel)) rfl (fun _ _ _ _ _ => rfl) (fun B1 out1 s1 H1 E1 f1 c1 h1 h2 => (v_makeSD D_mk_Ledger_1_load_rush rfl h1 (by decide) h2 (takes_of rfl rfl rfl rfl) B.k_Ledger rfl (by intro l hl; exact match l, hl with | [_, _, _, _], _ => rfl) (va_cons (v_var 1 rfl (.inr (by first | exact .inl rfl | exact .inr rfl))) va_nil) (vp_cons (v_var 2 rfl (.inr (by first | exact .inl rfl | exact .inr rfl))) (vp_cons (v_var 5 rfl (.inr (by first | exact .inl rfl | exact .inr rfl))) vp_nil)) rfl))) va_nil)))
  (ss_cons (s_expr (v_append rfl (v_var 6 rfl (.inl rfl)) (va_cons (v_lam (k := 12) (n := 4) D_lam__law_heard rfl rfl TM.tb (hc.symm.trans TM.code) TM.mem TM.un (hr.mono (by decide)) hg (lamS_by (by show lamSB (defScope st__law_refused_right) _ = true; decide +kernel)) rfl (fun _ _ _ _ _ => rfl) (fun B1 out1 s1 H1 E1 f1 c1 h1 h2 => (v_makeSD D_mk_Ledger_1_rush_load rfl h1 (by decide) h2 (takes_of rfl rfl rfl rfl) B.k_Ledger rfl (by intro l hl; exact match l, hl with | [_, _, _, _], _ => rfl) (va_cons (v_var 1 rfl (.inr (by first | exact .inl rfl | exact .inr rfl))) va_nil) (vp_cons (v_var 3 rfl (.inr (by first | exact .inl rfl | exact .inr rfl))) (vp_cons (v_var 5 rfl (.inr (by first | exact .inl rfl | exact .inr rfl))) vp_nil)) rfl))) va_nil)))
  (ss_cons (s_set 7 sc__law_refused_right.nd rfl (.inr rfl) (v_makeSD D_mk_Ledger_1_load_rush rfl hr (by decide) hg (takes_of rfl rfl rfl rfl) B.k_Ledger rfl (by intro l hl; exact match l, hl with | [_, _, _, _], _ => rfl) (va_cons (v_var 1 rfl (.inr (.inl rfl))) va_nil) (vp_cons (v_var 2 rfl (.inr (.inl rfl))) (vp_cons (v_var 3 rfl (.inr (.inl rfl))) vp_nil)) rfl))
  (ss_cons (s_expr (v_append rfl (v_var 6 rfl (.inl rfl)) (va_cons (v_lam (k := 12) (n := 4) D_lam__law_heard rfl rfl TM.tb (hc.symm.trans TM.code) TM.mem TM.un (hr.mono (by decide)) hg (lamS_by (by show lamSB (defScope st__law_refused_right) _ = true; decide +kernel)) rfl (fun _ _ _ _ _ => rfl) (fun B1 out1 s1 H1 E1 f1 c1 h1 h2 => (v_methD (pl := _) D_mt_with_load_1_ rfl h1 (by decide) h2 (takes_of rfl rfl rfl rfl) B.k_Ledger lit2 rfl (by intro l hl; exact match l, hl with | [_, _], _ => rfl) (v_var 7 rfl (.inr (by first | exact .inl rfl | exact .inr rfl))) (va_cons (v_var 5 rfl (.inr (by first | exact .inl rfl | exact .inr rfl))) va_nil) vp_nil rfl))) va_nil)))
  (ss_cons (s_expr (v_append rfl (v_var 6 rfl (.inl rfl)) (va_cons (v_lam (k := 12) (n := 4) D_lam__law_heard rfl rfl TM.tb (hc.symm.trans TM.code) TM.mem TM.un (hr.mono (by decide)) hg (lamS_by (by show lamSB (defScope st__law_refused_right) _ = true; decide +kernel)) rfl (fun _ _ _ _ _ => rfl) (fun B1 out1 s1 H1 E1 f1 c1 h1 h2 => (v_methKD (pl := _) D_mt_with_rush_0_rush rfl h1 (by decide) h2 (takes_of rfl rfl rfl rfl) B.k_Ledger lit3 rfl (by intro l hl; exact match l, hl with | [_, _], _ => rfl) (v_var 7 rfl (.inr (by first | exact .inl rfl | exact .inr rfl))) (vp_cons (v_var 5 rfl (.inr (by first | exact .inl rfl | exact .inr rfl))) vp_nil) rfl))) va_nil)))
  (ss_one (s_ret (v_and (v_cmp (op_eq' hr.units) s_eq (v_var 6 rfl (.inl rfl)) (v_lst (own := false) (va_cons (v_str [119, 101, 105, 103, 104, 116, 115] lit15) (va_cons (v_str [108, 111, 97, 100] lit16) (va_cons (v_str [114, 117, 115, 104] lit17) (va_cons (v_str [108, 111, 97, 100] lit16) (va_cons (v_str [108, 111, 97, 100] lit16) (va_cons (v_str [114, 117, 115, 104] lit17) va_nil))))))) (by with_unfolding_all rfl)) (v_one (v_cmp (op_eq' hr.units) s_eq (v_callE D__law_told rfl hr (by decide) hg (takes_of rfl rfl rfl rfl) (va_cons (v_var 7 rfl (.inr (.inl rfl))) va_nil) rfl) (v_callE D__law_due rfl hr (by decide) hg (takes_of rfl rfl rfl rfl) (va_cons (v_var 1 rfl (.inr (.inl rfl))) (va_cons (v_var 2 rfl (.inr (.inl rfl))) (va_cons (v_var 3 rfl (.inr (.inl rfl))) va_nil))) rfl) (by with_unfolding_all rfl))))))))))))))
theorem def__law_refused_right (B : Bnds P mg G) (F : Fun G.K "_law_refused_right" "_law_refused_right" st__law_refused_right f fd) (hm : mg "_law_refused_right" = some (.ref f)) (D__law_bad_weights : DefE P G.w mg base G "_law_bad_weights" 3 2 [(PySem.Str.ofString "pen"), (PySem.Str.ofString "weights")] d__law_bad_weights) (D__law_pick : DefE P G.w mg base G "_law_pick" 2 2 [(PySem.Str.ofString "pen"), (PySem.Str.ofString "some")] d__law_pick) (D_lam__law_heard : LamD P G.w mg base G "_law_heard" (PySem.Str.ofString "ask") 13 4 gH__law_heard) (D_mk_Ledger_1_load_rush : MakeD P G.w mg base G 1 4 4 1 [(PySem.Str.ofString "load"), (PySem.Str.ofString "rush")] [] [0, 1, 2, 3] d_Ledger___init__) (D_mk_Ledger_1_rush_load : MakeD P G.w mg base G 1 4 4 1 [(PySem.Str.ofString "rush"), (PySem.Str.ofString "load")] [] [0, 1, 3, 2] d_Ledger___init__) (D_mt_with_load_1_ : MethD P G.w mg base G 1 6 2 1 (PySem.Str.ofString "with_load") [] [] [0, 1] d_Ledger_with_load) (D_mt_with_rush_0_rush : MethD P G.w mg base G 1 6 2 0 (PySem.Str.ofString "with_rush") [(PySem.Str.ofString "rush")] [] [0, 1] d_Ledger_with_rush) (D__law_told : DefE P G.w mg base G "_law_told" 3 1 [(PySem.Str.ofString "ledger")] d__law_told) (D__law_due : DefE P G.w mg base G "_law_due" 1 3 [(PySem.Str.ofString "weights"), (PySem.Str.ofString "load"), (PySem.Str.ofString "rush")] d__law_due) {cO Pt : Addr} (TM : Maker base mg G.T fd ("_law_refused_right.<locals>." ++ "<lambda>") cO Pt) : DefE P G.w mg base G "_law_refused_right" 15 4 [(PySem.Str.ofString "pen"), (PySem.Str.ofString "weights"), (PySem.Str.ofString "load"), (PySem.Str.ofString "rush")] d__law_refused_right :=
  ⟨f, fd, hm, F.kp, ok__law_refused_right B F D__law_bad_weights D__law_pick D_lam__law_heard D_mk_Ledger_1_load_rush D_mk_Ledger_1_rush_load D_mt_with_load_1_ D_mt_with_rush_0_rush D__law_told D__law_due TM, bnd0_of F (fun _ _ _ _ _ _ us hl => match us, hl with | [_, _, _, _], _ => rfl), fun h => absurd h (by decide)⟩
theorem ok_law (B : Bnds P mg G) (F : Fun G.K "law" "law" st_law f fd) (D__law_pen : DefE P G.w mg base G "_law_pen" 1 1 [(PySem.Str.ofString "script")] d__law_pen) (D__law_weights : DefE P G.w mg base G "_law_weights" 3 1 [(PySem.Str.ofString "pen")] d__law_weights) (D__law_cap : DefE P G.w mg base G "_law_cap" 3 1 [(PySem.Str.ofString "pen")] d__law_cap) (D_mk_Ledger_1_load_rush : MakeD P G.w mg base G 1 4 4 1 [(PySem.Str.ofString "load"), (PySem.Str.ofString "rush")] [] [0, 1, 2, 3] d_Ledger___init__) (D_Ledger_weights : PropD P G.w mg base G 1 1 (PySem.Str.ofString "weights") d_Ledger_weights) (D__law_told : DefE P G.w mg base G "_law_told" 3 1 [(PySem.Str.ofString "ledger")] d__law_told) (D__law_due : DefE P G.w mg base G "_law_due" 1 3 [(PySem.Str.ofString "weights"), (PySem.Str.ofString "load"), (PySem.Str.ofString "rush")] d__law_due) (D_mt_with_load_0_load : MethD P G.w mg base G 1 6 2 0 (PySem.Str.ofString "with_load") [(PySem.Str.ofString "load")] [] [0, 1] d_Ledger_with_load) (D_mt_with_rush_1_ : MethD P G.w mg base G 1 6 2 1 (PySem.Str.ofString "with_rush") [] [] [0, 1] d_Ledger_with_rush) (D_Ledger___eq__ : EqD P G.w mg base G 1 1 d_Ledger___eq__) (D_mt_with_load_1_ : MethD P G.w mg base G 1 6 2 1 (PySem.Str.ofString "with_load") [] [] [0, 1] d_Ledger_with_load) (D_mk_Ledger_0_weights_rush_load : MakeD P G.w mg base G 1 4 4 0 [(PySem.Str.ofString "weights"), (PySem.Str.ofString "rush"), (PySem.Str.ofString "load")] [] [0, 1, 3, 2] d_Ledger___init__) (D_Ledger___repr__ : ReprD P G.w mg base G 1 1 d_Ledger___repr__) (D__law_refused_right : DefE P G.w mg base G "_law_refused_right" 15 4 [(PySem.Str.ofString "pen"), (PySem.Str.ofString "weights"), (PySem.Str.ofString "load"), (PySem.Str.ofString "rush")] d__law_refused_right) (D_mk_Ledger_1_ : MakeD P G.w mg base G 1 4 4 1 [] [.non, .non] [0, 1, 2, 3] d_Ledger___init__) (D_mk_Ledger_1_load : MakeD P G.w mg base G 1 4 4 1 [(PySem.Str.ofString "load")] [.non] [0, 1, 2, 3] d_Ledger___init__) : FnV P G.w G.K mg base 16 f fd [(PySem.Str.ofString "script")] (spV G 1 d_law) :=
  fn_body (n := 1) F sc_law rfl fun cdv A outer s H E hr hg => ((ss_cons (s_set 1 sc_law.nd rfl (.inl rfl) (v_callE D__law_pen rfl hr (by decide) hg (takes_of rfl rfl rfl rfl) (va_cons (v_var 0 rfl (.inl rfl)) va_nil) rfl))
  (ss_cons (s_for (passes_of rfl) rfl (vi_range1 rfl B.n_range (va_cons v_int va_nil)) (pg_name (i := 2) sc_law.nd rfl (.inl rfl)) (tg_name 2)
  (ss_cons (s_par3 (i := 3) (j := 4) (l := 5) rfl sc_law.nd rfl rfl rfl (by decide) (by decide) (by decide) rfl rfl rfl (va_cons (v_callE D__law_weights rfl hr (by decide) hg (takes_of rfl rfl rfl rfl) (va_cons (v_var 1 rfl (.inl rfl)) va_nil) rfl) (va_cons (v_callE D__law_cap rfl hr (by decide) hg (takes_of rfl rfl rfl rfl) (va_cons (v_var 1 rfl (.inl rfl)) va_nil) rfl) (va_cons (v_callE D__law_cap rfl hr (by decide) hg (takes_of rfl rfl rfl rfl) (va_cons (v_var 1 rfl (.inl rfl)) va_nil) rfl) va_nil))) rfl)
  (ss_cons (s_set 6 sc_law.nd rfl (.inl rfl) (v_ct (call_dictA rfl) c_dictA rfl B.n_dict rfl (va_cons (v_var 3 rfl (.inl rfl)) va_nil)))
  (ss_cons (s_set 7 sc_law.nd rfl (.inl rfl) (v_loan 6 (v_makeSD D_mk_Ledger_1_load_rush rfl hr (by decide) hg (takes_of rfl rfl rfl rfl) B.k_Ledger rfl (by intro l hl; exact match l, hl with | [_, _, _, _], _ => rfl) (va_cons (v_var 6 rfl (.inl rfl)) va_nil) (vp_cons (v_var 4 rfl (.inl rfl)) (vp_cons (v_var 5 rfl (.inl rfl)) vp_nil)) rfl)))
  (ss_cons (s_putX hr.units rfl rfl v_int (v_var 6 rfl (.inl rfl)) (v_str [113] lit0))
  (ss_cons (s_set 8 sc_law.nd rfl (.inl rfl) (v_propD D_Ledger_weights rfl hr (by decide) hg B.k_Ledger (v_var 7 rfl (.inl rfl))))
  (ss_cons (s_putX hr.units rfl rfl v_int (v_var 8 rfl (.inl rfl)) (v_str [114] lit1))
  (ss_cons (s_if (vb_cmp (op_ne' hr.units) s_ne (v_cb (call_repr hg hr.units) c_repr rfl B.n_repr rfl (va_cons (v_callE D__law_told rfl hr (by decide) hg (takes_of rfl rfl rfl rfl) (va_cons (v_var 7 rfl (.inl rfl)) va_nil) rfl) va_nil)) (v_cb (call_repr hg hr.units) c_repr rfl B.n_repr rfl (va_cons (v_callE D__law_due rfl hr (by decide) hg (takes_of rfl rfl rfl rfl) (va_cons (v_var 3 rfl (.inl rfl)) (va_cons (v_var 4 rfl (.inl rfl)) (va_cons (v_var 5 rfl (.inl rfl)) va_nil))) rfl) va_nil)) (by with_unfolding_all rfl))
  (ss_one (s_ret v_bl))
  ss_nil)
  (ss_cons (s_par (i := 9) (j := 10) rfl sc_law.nd rfl rfl (by decide) rfl rfl (va_cons (v_callE D__law_cap rfl hr (by decide) hg (takes_of rfl rfl rfl rfl) (va_cons (v_var 1 rfl (.inl rfl)) va_nil) rfl) (va_cons (v_callE D__law_cap rfl hr (by decide) hg (takes_of rfl rfl rfl rfl) (va_cons (v_var 1 rfl (.inl rfl)) va_nil) rfl) va_nil)) rfl)
  (ss_cons (s_if (vb_cmp (op_ne' hr.units) s_ne (v_cb (call_repr hg hr.units) c_repr rfl B.n_repr rfl (va_cons (v_callE D__law_told rfl hr (by decide) hg (takes_of rfl rfl rfl rfl) (va_cons (v_methKD (pl := _) D_mt_with_load_0_load rfl hr (by decide) hg (takes_of rfl rfl rfl rfl) B.k_Ledger lit2 rfl (by intro l hl; exact match l, hl with | [_, _], _ => rfl) (v_var 7 rfl (.inl rfl)) (vp_cons (v_var 9 rfl (.inl rfl)) vp_nil) rfl) va_nil) rfl) va_nil)) (v_cb (call_repr hg hr.units) c_repr rfl B.n_repr rfl (va_cons (v_callE D__law_due rfl hr (by decide) hg (takes_of rfl rfl rfl rfl) (va_cons (v_var 3 rfl (.inl rfl)) (va_cons (v_var 9 rfl (.inl rfl)) (va_cons (v_var 5 rfl (.inl rfl)) va_nil))) rfl) va_nil)) (by with_unfolding_all rfl))
  (ss_one (s_ret v_bl))
  ss_nil)
  (ss_cons (s_if (PW.pt (wb_or (vb_cmp (op_ne' hr.units) s_ne (v_cb (call_repr hg hr.units) c_repr rfl B.n_repr rfl (va_cons (v_callE D__law_told rfl hr (by decide) hg (takes_of rfl rfl rfl rfl) (va_cons (v_methD (pl := _) D_mt_with_rush_1_ rfl hr (by decide) hg (takes_of rfl rfl rfl rfl) B.k_Ledger lit3 rfl (by intro l hl; exact match l, hl with | [_, _], _ => rfl) (v_var 7 rfl (.inl rfl)) (va_cons (v_var 10 rfl (.inl rfl)) va_nil) vp_nil rfl) va_nil) rfl) va_nil)) (v_cb (call_repr hg hr.units) c_repr rfl B.n_repr rfl (va_cons (v_callE D__law_due rfl hr (by decide) hg (takes_of rfl rfl rfl rfl) (va_cons (v_var 3 rfl (.inl rfl)) (va_cons (v_var 4 rfl (.inl rfl)) (va_cons (v_var 10 rfl (.inl rfl)) va_nil))) rfl) va_nil)) (by with_unfolding_all rfl)) (wb_or1 (vb_cmp (op_ne' hr.units) s_ne (v_eqD D_Ledger___eq__ rfl hr (by decide) hg (v_methD (pl := _) D_mt_with_load_1_ rfl hr (by decide) hg (takes_of rfl rfl rfl rfl) B.k_Ledger lit2 rfl (by intro l hl; exact match l, hl with | [_, _], _ => rfl) (v_var 7 rfl (.inl rfl)) (va_cons (v_var 9 rfl (.inl rfl)) va_nil) vp_nil rfl) (v_var 7 rfl (.inl rfl))) (v_cmp (op_eq' hr.units) s_eq (v_var 9 rfl (.inl rfl)) (v_var 4 rfl (.inl rfl)) (by with_unfolding_all rfl)) (by with_unfolding_all rfl)))))
  (ss_one (s_ret v_bl))
  ss_nil)
  (ss_cons (s_set 11 sc_law.nd rfl (.inl rfl) (v_makeSK D_mk_Ledger_0_weights_rush_load rfl hr (by decide) hg (takes_of rfl rfl rfl rfl) B.k_Ledger rfl (by intro l hl; exact match l, hl with | [_, _, _, _], _ => rfl) (vp_cons (v_lk (v_ct (call_dictA rfl) c_dictA rfl B.n_dict rfl (va_cons (v_rev (own := false) rfl (v_items rfl rfl rfl B.n_list (v_var 3 rfl (.inl rfl)))) va_nil))) (vp_cons (v_var 5 rfl (.inl rfl)) (vp_cons (v_var 4 rfl (.inl rfl)) vp_nil))) rfl))
  (ss_cons (s_if (PW.pt (wb_or (vb_neD D_Ledger___eq__ rfl hr (by decide) hg (v_var 11 rfl (.inl rfl)) (v_var 7 rfl (.inl rfl))) (wb_or (vb_cmp (op_ne' hr.units) s_ne (v_neD D_Ledger___eq__ rfl hr (by decide) hg (v_methD (pl := _) D_mt_with_rush_1_ rfl hr (by decide) hg (takes_of rfl rfl rfl rfl) B.k_Ledger lit3 rfl (by intro l hl; exact match l, hl with | [_, _], _ => rfl) (v_var 7 rfl (.inl rfl)) (va_cons (v_var 10 rfl (.inl rfl)) va_nil) vp_nil rfl) (v_var 7 rfl (.inl rfl))) (v_cmp (op_ne' hr.units) s_ne (v_var 10 rfl (.inl rfl)) (v_var 5 rfl (.inl rfl)) (by with_unfolding_all rfl)) (by with_unfolding_all rfl)) (wb_or (vb_eqOD D_Ledger___eq__ rfl B.nf1_Ledger hr (by decide) hg (v_var 7 rfl (.inl rfl)) (v_tup (va_cons (v_var 3 rfl (.inl rfl)) (va_cons (v_var 4 rfl (.inl rfl)) (va_cons (v_var 5 rfl (.inl rfl)) va_nil))))) (wb_or1 (vb_eqOD D_Ledger___eq__ rfl B.nf1_Ledger hr (by decide) hg (v_var 7 rfl (.inl rfl)) v_non))))))
  (ss_one (s_ret v_bl))
  ss_nil)
  (ss_cons (s_set 12 sc_law.nd rfl (.inl rfl) (v_ct (call_dictA rfl) c_dictA rfl B.n_dict rfl (va_cons (v_var 3 rfl (.inl rfl)) va_nil)))
  (ss_cons (s_putX hr.units rfl rfl v_int (v_var 12 rfl (.inl rfl)) (v_str [110] lit4))
  (ss_cons (s_if (PW.pt (wb_or (vb_if (vb_cmp op_lt' s_lt (v_cb call_lenXX c_lenX rfl B.n_len rfl (va_cons (v_var 12 rfl (.inl rfl)) va_nil)) v_int (by with_unfolding_all rfl)) (vb_eqD D_Ledger___eq__ rfl hr (by decide) hg (v_makeSD D_mk_Ledger_1_load_rush rfl hr (by decide) hg (takes_of rfl rfl rfl rfl) B.k_Ledger rfl (by intro l hl; exact match l, hl with | [_, _, _, _], _ => rfl) (va_cons (v_lk (v_var 12 rfl (.inl rfl))) va_nil) (vp_cons (v_var 4 rfl (.inl rfl)) (vp_cons (v_var 5 rfl (.inl rfl)) vp_nil)) rfl) (v_var 7 rfl (.inl rfl))) (vb_val v_bl)) (wb_or1 (vb_cmp (op_ne' hr.units) s_ne (v_reprD D_Ledger___repr__ rfl hr (by decide) hg B.n_repr rfl (v_var 7 rfl (.inl rfl))) (v_op op_add' (s_add (own := false)) (v_op op_add' (s_add (own := false)) (v_str [76, 101, 100, 103, 101, 114, 40] lit5) (v_ct call_strB c_str rfl B.n_str rfl (va_cons (v_cb call_lenXX c_lenX rfl B.n_len rfl (va_cons (v_var 3 rfl (.inl rfl)) va_nil)) va_nil))) (v_str [32, 119, 101, 105, 103, 104, 116, 115, 41] lit6)) (by with_unfolding_all rfl)))))
  (ss_one (s_ret v_bl))
  ss_nil)
  (ss_one (s_if (vb_not (vb_val (v_callE D__law_refused_right rfl hr (by decide) hg (takes_of rfl rfl rfl rfl) (va_cons (v_var 1 rfl (.inl rfl)) (va_cons (v_var 3 rfl (.inl rfl)) (va_cons (v_var 4 rfl (.inl rfl)) (va_cons (v_var 5 rfl (.inl rfl)) va_nil)))) rfl)))
  (ss_one (s_ret v_bl))
  ss_nil))))))))))))))))))
  (ss_one (s_ret (v_and (v_cmp (op_eq' hr.units) s_eq (v_callE D__law_told rfl hr (by decide) hg (takes_of rfl rfl rfl rfl) (va_cons (v_makeSD D_mk_Ledger_1_ rfl hr (by decide) hg (takes_of rfl rfl rfl rfl) B.k_Ledger rfl (by intro l hl; exact match l, hl with | [_, _, _, _], _ => rfl) (va_cons v_d0 va_nil) vp_nil rfl) va_nil) rfl) (v_lst (own := false) (va_cons (v_lst (own := false) va_nil) (va_cons (v_tup va_nil) (va_cons v_non (va_cons v_non va_nil))))) (by with_unfolding_all rfl)) (v_and (v_eqD D_Ledger___eq__ rfl hr (by decide) hg (v_makeSD D_mk_Ledger_1_ rfl hr (by decide) hg (takes_of rfl rfl rfl rfl) B.k_Ledger rfl (by intro l hl; exact match l, hl with | [_, _, _, _], _ => rfl) (va_cons v_d0 va_nil) vp_nil rfl) (v_makeSD D_mk_Ledger_1_load rfl hr (by decide) hg (takes_of rfl rfl rfl rfl) B.k_Ledger rfl (by intro l hl; exact match l, hl with | [_, _, _, _], _ => rfl) (va_cons v_d0 va_nil) (vp_cons v_non vp_nil) rfl)) (v_one (v_neD D_Ledger___eq__ rfl hr (by decide) hg (v_makeSD D_mk_Ledger_1_ rfl hr (by decide) hg (takes_of rfl rfl rfl rfl) B.k_Ledger rfl (by intro l hl; exact match l, hl with | [_, _, _, _], _ => rfl) (va_cons v_d0 va_nil) vp_nil rfl) (v_makeSD D_mk_Ledger_1_load rfl hr (by decide) hg (takes_of rfl rfl rfl rfl) B.k_Ledger rfl (by intro l hl; exact match l, hl with | [_, _, _, _], _ => rfl) (va_cons v_d0 va_nil) (vp_cons v_int vp_nil) rfl))))))))))
theorem def_law (B : Bnds P mg G) (F : Fun G.K "law" "law" st_law f fd) (hm : mg "law" = some (.ref f)) (D__law_pen : DefE P G.w mg base G "_law_pen" 1 1 [(PySem.Str.ofString "script")] d__law_pen) (D__law_weights : DefE P G.w mg base G "_law_weights" 3 1 [(PySem.Str.ofString "pen")] d__law_weights) (D__law_cap : DefE P G.w mg base G "_law_cap" 3 1 [(PySem.Str.ofString "pen")] d__law_cap) (D_mk_Ledger_1_load_rush : MakeD P G.w mg base G 1 4 4 1 [(PySem.Str.ofString "load"), (PySem.Str.ofString "rush")] [] [0, 1, 2, 3] d_Ledger___init__) (D_Ledger_weights : PropD P G.w mg base G 1 1 (PySem.Str.ofString "weights") d_Ledger_weights) (D__law_told : DefE P G.w mg base G "_law_told" 3 1 [(PySem.Str.ofString "ledger")] d__law_told) (D__law_due : DefE P G.w mg base G "_law_due" 1 3 [(PySem.Str.ofString "weights"), (PySem.Str.ofString "load"), (PySem.Str.ofString "rush")] d__law_due) (D_mt_with_load_0_load : MethD P G.w mg base G 1 6 2 0 (PySem.Str.ofString "with_load") [(PySem.Str.ofString "load")] [] [0, 1] d_Ledger_with_load) (D_mt_with_rush_1_ : MethD P G.w mg base G 1 6 2 1 (PySem.Str.ofString "with_rush") [] [] [0, 1] d_Ledger_with_rush) (D_Ledger___eq__ : EqD P G.w mg base G 1 1 d_Ledger___eq__) (D_mt_with_load_1_ : MethD P G.w mg base G 1 6 2 1 (PySem.Str.ofString "with_load") [] [] [0, 1] d_Ledger_with_load) (D_mk_Ledger_0_weights_rush_load : MakeD P G.w mg base G 1 4 4 0 [(PySem.Str.ofString "weights"), (PySem.Str.ofString "rush"), (PySem.Str.ofString "load")] [] [0, 1, 3, 2] d_Ledger___init__) (D_Ledger___repr__ : ReprD P G.w mg base G 1 1 d_Ledger___repr__) (D__law_refused_right : DefE P G.w mg base G "_law_refused_right" 15 4 [(PySem.Str.ofString "pen"), (PySem.Str.ofString "weights"), (PySem.Str.ofString "load"), (PySem.Str.ofString "rush")] d__law_refused_right) (D_mk_Ledger_1_ : MakeD P G.w mg base G 1 4 4 1 [] [.non, .non] [0, 1, 2, 3] d_Ledger___init__) (D_mk_Ledger_1_load : MakeD P G.w mg base G 1 4 4 1 [(PySem.Str.ofString "load")] [.non] [0, 1, 2, 3] d_Ledger___init__) : DefE P G.w mg base G "law" 16 1 [(PySem.Str.ofString "script")] d_law :=
  ⟨f, fd, hm, F.kp, ok_law B F D__law_pen D__law_weights D__law_cap D_mk_Ledger_1_load_rush D_Ledger_weights D__law_told D__law_due D_mt_with_load_0_load D_mt_with_rush_1_ D_Ledger___eq__ D_mt_with_load_1_ D_mk_Ledger_0_weights_rush_load D_Ledger___repr__ D__law_refused_right D_mk_Ledger_1_ D_mk_Ledger_1_load, bnd0_of F (fun _ _ _ _ _ _ us hl => match us, hl with | [_], _ => rfl), fun h => bnd1_of F fun _ _ _ _ _ _ _ => rfl⟩
end
end K80

/-! k80: names, weights, caps: what the checks tell. -/
namespace K80
open PySem PySem.Spec PySem.NumText PyProof.Rows L2 LamX VL VD
theorem DK0 : DK 65011 5501 101 135 29 := ⟨⟨by decide, by decide⟩, ⟨by decide, by decide⟩, ⟨by decide, by decide⟩, ⟨by decide, by decide⟩, ⟨by decide, by decide⟩⟩
theorem draw_eq : d__law_draw = dDraw 65011 5501 101 135 29 := rfl
theorem pick_eq : d__law_pick = dPick d__law_draw := rfl
/-- data that the checks are asked of -/
inductive Sim : D → Prop
  | non : Sim .non
  | bl (b : Bool) : Sim (.bl b)
  | int (i : Int) : Sim (.int i)
  | str (t : T) : Sim (.str t)
  | tup (ds : List D) : Sim (.tup ds)
  | lst (ds : List D) : Sim (.lst ds)
  | dct (ds : List (Ky × D)) : Sim (.dct ds)
def isI : D → Bool
  | .int _ => true
  | _ => false
theorem e_integer {d : D} (h : Sim d) (τ : Store) : d_is_integer [.d d] τ = .ok (.d (.bl (isI d))) τ := by
  cases h with
  | bl b => cases b <;> simp [callD, outR, retU, gSeq, gIf, gRet, gRetN, gSet, gExpr, VL.gNil, gNever, gUnp, gPar, gPar3, eVar, eC, elNil, elCons, eCall, gCall, eCB, gCB, vws_cons, vws_nil, c1, c2, eOp, opD, bOf, bAnd, bOr, bNeg, eAnd, eOr, eNot, eIf, eIs, isN, eIsi, D.ty, isTy, eChain, oLe, oLt, oGt, oGe, oEq, oNe, bNot, oAdd, oSub, fLen, fLenD, D.seq, eTup, gTupD, frzs, eLst, gLstD, allocL, eIx, oIx, fMin, take_self, R.bind, liftE, RS.seq, tName, tTupN, tNames, eMt, gMt, tyD, d_is_integer, g_is_integer, isI]
  | _ => simp [callD, outR, retU, gSeq, gIf, gRet, gRetN, gSet, gExpr, VL.gNil, gNever, gUnp, gPar, gPar3, eVar, eC, elNil, elCons, eCall, gCall, eCB, gCB, vws_cons, vws_nil, c1, c2, eOp, opD, bOf, bAnd, bOr, bNeg, eAnd, eOr, eNot, eIf, eIs, isN, eIsi, D.ty, isTy, eChain, oLe, oLt, oGt, oGe, oEq, oNe, bNot, oAdd, oSub, fLen, fLenD, D.seq, eTup, gTupD, frzs, eLst, gLstD, allocL, eIx, oIx, fMin, take_self, R.bind, liftE, RS.seq, tName, tTupN, tNames, eMt, gMt, tyD, d_is_integer, g_is_integer, isI]
def okD (m : Int) : D → Bool
  | .int i => decide (0 ≤ i ∧ i ≤ m)
  | _ => false
theorem e_between {d : D} (h : Sim d) (m : Int) (τ : Store) : d_is_between [.d d, .d (.int m)] τ = .ok (.d (.bl (okD m d))) τ := by
  have hi := e_integer h τ
  cases h with
  | int i =>
    simp [callD, outR, retU, gSeq, gIf, gRet, gRetN, gSet, gExpr, VL.gNil, gNever, gUnp, gPar, gPar3, eVar, eC, elNil, elCons, eCall, gCall, eCB, gCB, vws_cons, vws_nil, c1, c2, eOp, opD, bOf, bAnd, bOr, bNeg, eAnd, eOr, eNot, eIf, eIs, isN, eIsi, D.ty, isTy, eChain, oLe, oLt, oGt, oGe, oEq, oNe, bNot, oAdd, oSub, fLen, fLenD, D.seq, eTup, gTupD, frzs, eLst, gLstD, allocL, eIx, oIx, fMin, take_self, R.bind, liftE, RS.seq, tName, tTupN, tNames, eMt, gMt, tyD, d_is_between, g_is_between, hi, isI, okD]
    by_cases h : 0 ≤ i
    · simp [h]
    · simp [h]
  | _ => simp [callD, outR, retU, gSeq, gIf, gRet, gRetN, gSet, gExpr, VL.gNil, gNever, gUnp, gPar, gPar3, eVar, eC, elNil, elCons, eCall, gCall, eCB, gCB, vws_cons, vws_nil, c1, c2, eOp, opD, bOf, bAnd, bOr, bNeg, eAnd, eOr, eNot, eIf, eIs, isN, eIsi, D.ty, isTy, eChain, oLe, oLt, oGt, oGe, oEq, oNe, bNot, oAdd, oSub, fLen, fLenD, D.seq, eTup, gTupD, frzs, eLst, gLstD, allocL, eIx, oIx, fMin, take_self, R.bind, liftE, RS.seq, tName, tTupN, tNames, eMt, gMt, tyD, d_is_between, g_is_between, hi, isI, okD]
def okCap : D → Bool
  | .non => true
  | d => okD 10000000000 d
theorem e_cap {d : D} (h : Sim d) (τ : Store) : d_is_cap [.d d] τ = .ok (.d (.bl (okCap d))) τ := by
  have hb := e_between h 10000000000 τ
  cases h with
  | non => simp [callD, outR, retU, gSeq, gIf, gRet, gRetN, gSet, gExpr, VL.gNil, gNever, gUnp, gPar, gPar3, eVar, eC, elNil, elCons, eCall, gCall, eCB, gCB, vws_cons, vws_nil, c1, c2, eOp, opD, bOf, bAnd, bOr, bNeg, eAnd, eOr, eNot, eIf, eIs, isN, eIsi, D.ty, isTy, eChain, oLe, oLt, oGt, oGe, oEq, oNe, bNot, oAdd, oSub, fLen, fLenD, D.seq, eTup, gTupD, frzs, eLst, gLstD, allocL, eIx, oIx, fMin, take_self, R.bind, liftE, RS.seq, tName, tTupN, tNames, eMt, gMt, tyD, d_is_cap, g_is_cap, okCap]
  | int i =>
    cases e : okD 10000000000 (.int i) with
    | true => simp [callD, outR, retU, gSeq, gIf, gRet, gRetN, gSet, gExpr, VL.gNil, gNever, gUnp, gPar, gPar3, eVar, eC, elNil, elCons, eCall, gCall, eCB, gCB, vws_cons, vws_nil, c1, c2, eOp, opD, bOf, bAnd, bOr, bNeg, eAnd, eOr, eNot, eIf, eIs, isN, eIsi, D.ty, isTy, eChain, oLe, oLt, oGt, oGe, oEq, oNe, bNot, oAdd, oSub, fLen, fLenD, D.seq, eTup, gTupD, frzs, eLst, gLstD, allocL, eIx, oIx, fMin, take_self, R.bind, liftE, RS.seq, tName, tTupN, tNames, eMt, gMt, tyD, d_is_cap, g_is_cap, okCap, hb, e]
    | false => simp [callD, outR, retU, gSeq, gIf, gRet, gRetN, gSet, gExpr, VL.gNil, gNever, gUnp, gPar, gPar3, eVar, eC, elNil, elCons, eCall, gCall, eCB, gCB, vws_cons, vws_nil, c1, c2, eOp, opD, bOf, bAnd, bOr, bNeg, eAnd, eOr, eNot, eIf, eIs, isN, eIsi, D.ty, isTy, eChain, oLe, oLt, oGt, oGe, oEq, oNe, bNot, oAdd, oSub, fLen, fLenD, D.seq, eTup, gTupD, frzs, eLst, gLstD, allocL, eIx, oIx, fMin, take_self, R.bind, liftE, RS.seq, tName, tTupN, tNames, eMt, gMt, tyD, d_is_cap, g_is_cap, okCap, hb, e]
  | _ => simp [callD, outR, retU, gSeq, gIf, gRet, gRetN, gSet, gExpr, VL.gNil, gNever, gUnp, gPar, gPar3, eVar, eC, elNil, elCons, eCall, gCall, eCB, gCB, vws_cons, vws_nil, c1, c2, eOp, opD, bOf, bAnd, bOr, bNeg, eAnd, eOr, eNot, eIf, eIs, isN, eIsi, D.ty, isTy, eChain, oLe, oLt, oGt, oGe, oEq, oNe, bNot, oAdd, oSub, fLen, fLenD, D.seq, eTup, gTupD, frzs, eLst, gLstD, allocL, eIx, oIx, fMin, take_self, R.bind, liftE, RS.seq, tName, tTupN, tNames, eMt, gMt, tyD, d_is_cap, g_is_cap, okCap, hb, okD]
/-! ### names -/
def LET : T := [97, 98, 99, 100, 101, 102, 103, 104, 105, 106, 107, 108, 109, 110, 111, 112, 113, 114, 115, 116, 117, 118, 119, 120, 121, 122]
def SHO : T := [115, 104, 111, 114, 101]
def isName (t : T) : Bool := decide (1 ≤ t.length ∧ t.length ≤ 8) && t.all fun c => decide (c ∈ LET)
def isOwn (t : T) : Bool := isName t && decide (t ≠ SHO)
theorem bls_map {α : Type} (f : α → Bool) (l : List α) : blsOf (l.map fun x => D.bl (f x)) = some (l.map f) := by
  have := blsOf_map (l.map f)
  rwa [List.map_map] at this
theorem signs_in (w : T) (ρ : VL.Env) (i : Nat) (hi : i < ρ.length) (t : T) (h : t.length ≤ 100000) (τ : Store) :
    ∃ ds, compGo (tName i) bYes (eOp (oInG false) (eVar i) (eC (.str w))) ρ (t.map fun c => D.str [c]) τ [] = .ok ds τ ∧ blsOf ds = some (t.map fun c => decide (c ∈ w)) := by
  have hs : t.length ≤ sizeLine := by rw [sl_eq]; omega
  refine ⟨[] ++ (t.map fun c => D.str [c]).map fun d => match d with | .str [c] => .bl (decide (c ∈ w)) | _ => .non, compGo_all _ [] (fun x m => ?_) (by simp; omega), ?_⟩
  · obtain ⟨c, _, rfl⟩ := List.mem_map.mp m
    refine ⟨_, rfl, ?_⟩
    simp only [eOp, eVar, eC, List.getElem?_set_self hi, R.bind_ok, opD_d, oInG, Bool.false_eq_true, if_false]
  · rw [List.nil_append, List.map_map]
    exact bls_map _ _
theorem e_name (t : T) (h : t.length ≤ 100000) (τ : Store) : d_is_name [.d (.str t)] τ = .ok (.d (.bl (isName t))) τ := by
  have hs : t.length ≤ sizeLine := by rw [sl_eq]; omega
  obtain ⟨ds, g1, g2⟩ := signs_in LET (wipeE [some (.d (.str t)), none] [1]) 1 (by simp [wipeE]) t h τ
  unfold LET at g1
  have e2 : isName t = (decide (1 ≤ t.length ∧ t.length ≤ 8) && (t.map fun c => decide (c ∈ LET)).all id) := by
    unfold isName
    rw [List.all_map]
    rfl
  rw [e2]
  generalize (t.map fun c => decide (c ∈ LET)) = bs at g2
  by_cases h1 : 1 ≤ t.length
  · have h1' : (1 : Int) ≤ (t.length : Int) := by omega
    by_cases h2 : t.length ≤ 8
    · have h2' : (t.length : Int) ≤ 8 := by omega
      simp [callD, outR, retU, gSeq, gIf, gRet, gRetN, gSet, gExpr, VL.gNil, gNever, gUnp, gPar, gPar3, eVar, eC, elNil, elCons, eCall, gCall, eCB, gCB, vws_cons, vws_nil, c1, c2, eOp, opD, bOf, bAnd, bOr, bNeg, eAnd, eOr, eNot, eIf, eIs, isN, eIsi, D.ty, isTy, eChain, oLe, oLt, oGt, oGe, oEq, oNe, bNot, oAdd, oSub, fLen, fLenD, D.seq, eTup, gTupD, frzs, eLst, gLstD, allocL, eIx, oIx, fMin, take_self, R.bind, liftE, RS.seq, tName, tTupN, tNames, eMt, gMt, tyD, d_is_name, g_is_name, eLc, dSigns, gSigns, fBls, D.lsts, hs, h1', h2', g1, g2, h1, h2]
    · have h2' : ¬ (t.length : Int) ≤ 8 := by omega
      simp [callD, outR, retU, gSeq, gIf, gRet, gRetN, gSet, gExpr, VL.gNil, gNever, gUnp, gPar, gPar3, eVar, eC, elNil, elCons, eCall, gCall, eCB, gCB, vws_cons, vws_nil, c1, c2, eOp, opD, bOf, bAnd, bOr, bNeg, eAnd, eOr, eNot, eIf, eIs, isN, eIsi, D.ty, isTy, eChain, oLe, oLt, oGt, oGe, oEq, oNe, bNot, oAdd, oSub, fLen, fLenD, D.seq, eTup, gTupD, frzs, eLst, gLstD, allocL, eIx, oIx, fMin, take_self, R.bind, liftE, RS.seq, tName, tTupN, tNames, eMt, gMt, tyD, d_is_name, g_is_name, eLc, dSigns, gSigns, fBls, D.lsts, hs, h1', h2', h1, h2]
  · have h1' : ¬ (1 : Int) ≤ (t.length : Int) := by omega
    simp [callD, outR, retU, gSeq, gIf, gRet, gRetN, gSet, gExpr, VL.gNil, gNever, gUnp, gPar, gPar3, eVar, eC, elNil, elCons, eCall, gCall, eCB, gCB, vws_cons, vws_nil, c1, c2, eOp, opD, bOf, bAnd, bOr, bNeg, eAnd, eOr, eNot, eIf, eIs, isN, eIsi, D.ty, isTy, eChain, oLe, oLt, oGt, oGe, oEq, oNe, bNot, oAdd, oSub, fLen, fLenD, D.seq, eTup, gTupD, frzs, eLst, gLstD, allocL, eIx, oIx, fMin, take_self, R.bind, liftE, RS.seq, tName, tTupN, tNames, eMt, gMt, tyD, d_is_name, g_is_name, eLc, dSigns, gSigns, fBls, D.lsts, hs, h1', h1]
/-- what may be a key here -/
inductive KeyD : D → Prop
  | non : KeyD .non
  | int (i : Int) : KeyD (.int i)
  | str (t : T) (h : t.length ≤ 100000) : KeyD (.str t)
  | tup (ds : List D) : KeyD (.tup ds)
def isOwnD : D → Bool
  | .str t => isOwn t
  | _ => false
theorem e_own {d : D} (h : KeyD d) (τ : Store) : d_is_own_name [.d d] τ = .ok (.d (.bl (isOwnD d))) τ := by
  cases h with
  | str t h =>
    unfold isOwnD isOwn SHO
    cases e : isName t with
    | true => simp [callD, outR, retU, gSeq, gIf, gRet, gRetN, gSet, gExpr, VL.gNil, gNever, gUnp, gPar, gPar3, eVar, eC, elNil, elCons, eCall, gCall, eCB, gCB, vws_cons, vws_nil, c1, c2, eOp, opD, bOf, bAnd, bOr, bNeg, eAnd, eOr, eNot, eIf, eIs, isN, eIsi, D.ty, isTy, eChain, oLe, oLt, oGt, oGe, oEq, oNe, bNot, oAdd, oSub, fLen, fLenD, D.seq, eTup, gTupD, frzs, eLst, gLstD, allocL, eIx, oIx, fMin, take_self, R.bind, liftE, RS.seq, tName, tTupN, tNames, eMt, gMt, tyD, d_is_own_name, g_is_own_name, e_name t h, e]
    | false => simp [callD, outR, retU, gSeq, gIf, gRet, gRetN, gSet, gExpr, VL.gNil, gNever, gUnp, gPar, gPar3, eVar, eC, elNil, elCons, eCall, gCall, eCB, gCB, vws_cons, vws_nil, c1, c2, eOp, opD, bOf, bAnd, bOr, bNeg, eAnd, eOr, eNot, eIf, eIs, isN, eIsi, D.ty, isTy, eChain, oLe, oLt, oGt, oGe, oEq, oNe, bNot, oAdd, oSub, fLen, fLenD, D.seq, eTup, gTupD, frzs, eLst, gLstD, allocL, eIx, oIx, fMin, take_self, R.bind, liftE, RS.seq, tName, tTupN, tNames, eMt, gMt, tyD, d_is_own_name, g_is_own_name, e_name t h, e]
  | _ => simp [callD, outR, retU, gSeq, gIf, gRet, gRetN, gSet, gExpr, VL.gNil, gNever, gUnp, gPar, gPar3, eVar, eC, elNil, elCons, eCall, gCall, eCB, gCB, vws_cons, vws_nil, c1, c2, eOp, opD, bOf, bAnd, bOr, bNeg, eAnd, eOr, eNot, eIf, eIs, isN, eIsi, D.ty, isTy, eChain, oLe, oLt, oGt, oGe, oEq, oNe, bNot, oAdd, oSub, fLen, fLenD, D.seq, eTup, gTupD, frzs, eLst, gLstD, allocL, eIx, oIx, fMin, take_self, R.bind, liftE, RS.seq, tName, tTupN, tNames, eMt, gMt, tyD, d_is_own_name, g_is_own_name, d_is_name, g_is_name, isOwnD]
theorem isOwn_len {t : T} (h : isOwn t = true) : t.length ≤ 8 := by
  unfold isOwn isName at h
  simp only [Bool.and_eq_true, decide_eq_true_eq] at h
  exact h.1.1.2
/-! ### weights -/
theorem ky_d (k : Ky) : k.d.ky = some k := by cases k <;> rfl
theorem dget_of : ∀ {kvs : List (Ky × D)} {p : Ky × D}, (kvs.map (·.1)).Nodup → p ∈ kvs → dget kvs p.1 = some p.2
  | [], _, _, h => by cases h
  | q :: kvs, p, nd, h => by
    have nd' := List.nodup_cons.mp (show ((q.1 :: kvs.map (·.1)) : List Ky).Nodup from nd)
    unfold dget
    rw [List.find?_cons]
    rcases List.mem_cons.mp h with e | m
    · subst e
      simp
    · have ne : q.1 ≠ p.1 := fun e => nd'.1 (by rw [e]; exact List.mem_map_of_mem m)
      rw [decide_eq_false ne]
      exact dget_of nd'.2 m
/-- whether a row of a dict may stand -/
def ent (p : Ky × D) : Bool := isOwnD p.1.d && okD 1000000000 p.2
def hEnt (kvs : List (Ky × D)) (d : D) : D := match d.ky with
  | some k => match dget kvs k with
    | some v => .bl (ent (k, v))
    | none => .bl false
  | none => .bl false
structure Fin (kvs : List (Ky × D)) : Prop where
  nd : (kvs.map (·.1)).Nodup
  ok : ∀ p ∈ kvs, KeyD p.1.d ∧ Sim p.2
  few : kvs.length ≤ 100
theorem hEnt_map {kvs : List (Ky × D)} (H : Fin kvs) : (kvs.map fun p => p.1.d).map (hEnt kvs) = kvs.map fun p => .bl (ent p) := by
  rw [List.map_map]
  refine List.map_congr_left fun p m => ?_
  show hEnt kvs p.1.d = _
  unfold hEnt
  rw [ky_d]
  simp only
  rw [dget_of H.nd m]
theorem e_weights {kvs : List (Ky × D)} (H : Fin kvs) (τ : Store) : d_are_weights [.d (.dct kvs)] τ = .ok (.d (.bl (decide (kvs.length ≤ 8) && kvs.all ent))) τ := by
  have hf := H.few
  by_cases h8 : kvs.length ≤ 8
  · have hn : ¬ (8 : Int) < (kvs.length : Int) := by omega
    have go : compGo (tName 1) bYes (eAnd (eCall 1 d_is_own_name (elCons (eVar 1) elNil)) (eCall 2 d_is_between (elCons (eDGetX (eVar 0) (eVar 1)) (elCons (eC (.int 1000000000)) elNil)))) (wipeE [some (.d (.dct kvs)), none] [1]) (kvs.map fun p => p.1.d) τ [] = .ok ([] ++ (kvs.map fun p => p.1.d).map (hEnt kvs)) τ := by
      refine compGo_all _ [] (fun x m => ?_) (by rw [sl_eq]; simp; omega)
      obtain ⟨p, hp, rfl⟩ := List.mem_map.mp m
      obtain ⟨h1, h2⟩ := H.ok p hp
      have e1 := dget_of H.nd hp
      have e0 := e_own h1 τ
      have e3 := e_between h2 1000000000 τ
      refine ⟨_, rfl, ?_⟩
      have eh : hEnt kvs p.1.d = .bl (ent p) := by
        unfold hEnt
        rw [ky_d]
        simp only
        rw [e1]
      rw [eh]
      have ek := ky_d p.1
      unfold ent
      generalize p.1.d = kd at *
      cases eo : isOwnD kd with
      | false => simp [callD, outR, retU, gSeq, gIf, gRet, gRetN, gSet, gExpr, VL.gNil, gNever, gUnp, gPar, gPar3, eVar, eC, elNil, elCons, eCall, gCall, eCB, gCB, vws_cons, vws_nil, c1, c2, eOp, opD, bOf, bAnd, bOr, bNeg, eAnd, eOr, eNot, eIf, eIs, isN, eIsi, D.ty, isTy, eChain, oLe, oLt, oGt, oGe, oEq, oNe, bNot, oAdd, oSub, fLen, fLenD, D.seq, eTup, gTupD, frzs, eLst, gLstD, allocL, eIx, oIx, fMin, take_self, R.bind, liftE, RS.seq, tName, tTupN, tNames, eMt, gMt, tyD, wipeE, e0, eo]
      | true => simp [callD, outR, retU, gSeq, gIf, gRet, gRetN, gSet, gExpr, VL.gNil, gNever, gUnp, gPar, gPar3, eVar, eC, elNil, elCons, eCall, gCall, eCB, gCB, vws_cons, vws_nil, c1, c2, eOp, opD, bOf, bAnd, bOr, bNeg, eAnd, eOr, eNot, eIf, eIs, isN, eIsi, D.ty, isTy, eChain, oLe, oLt, oGt, oGe, oEq, oNe, bNot, oAdd, oSub, fLen, fLenD, D.seq, eTup, gTupD, frzs, eLst, gLstD, allocL, eIx, oIx, fMin, take_self, R.bind, liftE, RS.seq, tName, tTupN, tNames, eMt, gMt, tyD, wipeE, e0, eo, eDGetX, gDGetX, gDGet, ek, e1, e3]
    rw [hEnt_map H, List.nil_append] at go
    have e2 := bls_map ent kvs
    have e3 : (kvs.map ent).all id = kvs.all ent := by rw [List.all_map]; rfl
    generalize (kvs.map fun p => D.bl (ent p)) = ds at go e2
    rw [← e3]
    generalize kvs.map ent = bs at e2
    simp [callD, outR, retU, gSeq, gIf, gRet, gRetN, gSet, gExpr, VL.gNil, gNever, gUnp, gPar, gPar3, eVar, eC, elNil, elCons, eCall, gCall, eCB, gCB, vws_cons, vws_nil, c1, c2, eOp, opD, bOf, bAnd, bOr, bNeg, eAnd, eOr, eNot, eIf, eIs, isN, eIsi, D.ty, isTy, eChain, oLe, oLt, oGt, oGe, oEq, oNe, bNot, oAdd, oSub, fLen, fLenD, D.seq, eTup, gTupD, frzs, eLst, gLstD, allocL, eIx, oIx, fMin, take_self, R.bind, liftE, RS.seq, tName, tTupN, tNames, eMt, gMt, tyD, d_are_weights, g_are_weights, fLenX, hn, eLc, dKeysX, gKeysX, go, fBls, D.lsts, e2, h8]
  · have hn : (8 : Int) < (kvs.length : Int) := by omega
    simp [callD, outR, retU, gSeq, gIf, gRet, gRetN, gSet, gExpr, VL.gNil, gNever, gUnp, gPar, gPar3, eVar, eC, elNil, elCons, eCall, gCall, eCB, gCB, vws_cons, vws_nil, c1, c2, eOp, opD, bOf, bAnd, bOr, bNeg, eAnd, eOr, eNot, eIf, eIs, isN, eIsi, D.ty, isTy, eChain, oLe, oLt, oGt, oGe, oEq, oNe, bNot, oAdd, oSub, fLen, fLenD, D.seq, eTup, gTupD, frzs, eLst, gLstD, allocL, eIx, oIx, fMin, take_self, R.bind, liftE, RS.seq, tName, tTupN, tNames, eMt, gMt, tyD, d_are_weights, g_are_weights, fLenX, hn, h8]
/-- a dict with an odd key is no dict of weights -/
theorem e_weights_x {kvs : List (Ky × D)} (H : Fin kvs) {x : D} (hx : KeyD x) (ho : oddD x = true) (τ : Store) : d_are_weights [.d (.dcx kvs x)] τ = .ok (.d (.bl false)) τ := by
  have hf := H.few
  by_cases h8 : kvs.length + 1 ≤ 8
  · have hn : ¬ (8 : Int) < ((kvs.length : Int) + 1) := by omega
    have nk : x.ky = none := by
      cases hx with
      | non => rfl
      | int i => cases ho
      | str t h => cases ho
      | tup ds => rfl
    have no : isOwnD x = false := by
      cases hx with
      | non => rfl
      | int i => cases ho
      | str t h => cases ho
      | tup ds => rfl
    have go : compGo (tName 1) bYes (eAnd (eCall 1 d_is_own_name (elCons (eVar 1) elNil)) (eCall 2 d_is_between (elCons (eDGetX (eVar 0) (eVar 1)) (elCons (eC (.int 1000000000)) elNil)))) (wipeE [some (.d (.dcx kvs x)), none] [1]) ((kvs.map fun p => p.1.d) ++ [x]) τ [] = .ok ([] ++ ((kvs.map fun p => p.1.d) ++ [x]).map (hEnt kvs)) τ := by
      refine compGo_all _ [] (fun y m => ?_) (by rw [sl_eq]; simp; omega)
      refine ⟨_, rfl, ?_⟩
      rcases List.mem_append.mp m with m | m
      · obtain ⟨p, hp, rfl⟩ := List.mem_map.mp m
        obtain ⟨h1, h2⟩ := H.ok p hp
        have e1 := dget_of H.nd hp
        have e0 := e_own h1 τ
        have e3 := e_between h2 1000000000 τ
        have eh : hEnt kvs p.1.d = .bl (ent p) := by
          unfold hEnt
          rw [ky_d]
          simp only
          rw [e1]
        rw [eh]
        obtain ⟨k, v⟩ := p
        unfold ent
        cases k with
        | inl i => simp [callD, outR, retU, gSeq, gIf, gRet, gRetN, gSet, gExpr, VL.gNil, gNever, gUnp, gPar, gPar3, eVar, eC, elNil, elCons, eCall, gCall, eCB, gCB, vws_cons, vws_nil, c1, c2, eOp, opD, bOf, bAnd, bOr, bNeg, eAnd, eOr, eNot, eIf, eIs, isN, eIsi, D.ty, isTy, eChain, oLe, oLt, oGt, oGe, oEq, oNe, bNot, oAdd, oSub, fLen, fLenD, D.seq, eTup, gTupD, frzs, eLst, gLstD, allocL, eIx, oIx, fMin, take_self, R.bind, liftE, RS.seq, tName, tTupN, tNames, eMt, gMt, tyD, wipeE, Ky.d, e_own (.int i), isOwnD]
        | inr t =>
          have e1 : dget kvs (.inr t) = some v := e1
          have e0 : d_is_own_name [.d (.str t)] τ = .ok (.d (.bl (isOwn t))) τ := e0
          have e3 : d_is_between [.d v, .d (.int 1000000000)] τ = .ok (.d (.bl (okD 1000000000 v))) τ := e3
          cases eo : isOwn t with
          | false => simp [callD, outR, retU, gSeq, gIf, gRet, gRetN, gSet, gExpr, VL.gNil, gNever, gUnp, gPar, gPar3, eVar, eC, elNil, elCons, eCall, gCall, eCB, gCB, vws_cons, vws_nil, c1, c2, eOp, opD, bOf, bAnd, bOr, bNeg, eAnd, eOr, eNot, eIf, eIs, isN, eIsi, D.ty, isTy, eChain, oLe, oLt, oGt, oGe, oEq, oNe, bNot, oAdd, oSub, fLen, fLenD, D.seq, eTup, gTupD, frzs, eLst, gLstD, allocL, eIx, oIx, fMin, take_self, R.bind, liftE, RS.seq, tName, tTupN, tNames, eMt, gMt, tyD, wipeE, Ky.d, e0, eo, isOwnD]
          | true => simp [callD, outR, retU, gSeq, gIf, gRet, gRetN, gSet, gExpr, VL.gNil, gNever, gUnp, gPar, gPar3, eVar, eC, elNil, elCons, eCall, gCall, eCB, gCB, vws_cons, vws_nil, c1, c2, eOp, opD, bOf, bAnd, bOr, bNeg, eAnd, eOr, eNot, eIf, eIs, isN, eIsi, D.ty, isTy, eChain, oLe, oLt, oGt, oGe, oEq, oNe, bNot, oAdd, oSub, fLen, fLenD, D.seq, eTup, gTupD, frzs, eLst, gLstD, allocL, eIx, oIx, fMin, take_self, R.bind, liftE, RS.seq, tName, tTupN, tNames, eMt, gMt, tyD, wipeE, Ky.d, e0, eo, isOwnD, eDGetX, gDGetX, ho, e1, e3]
      · rw [List.mem_singleton.mp m]
        have e0 := e_own hx τ
        have eh : hEnt kvs x = .bl false := by unfold hEnt; rw [nk]
        rw [eh]
        simp [callD, outR, retU, gSeq, gIf, gRet, gRetN, gSet, gExpr, VL.gNil, gNever, gUnp, gPar, gPar3, eVar, eC, elNil, elCons, eCall, gCall, eCB, gCB, vws_cons, vws_nil, c1, c2, eOp, opD, bOf, bAnd, bOr, bNeg, eAnd, eOr, eNot, eIf, eIs, isN, eIsi, D.ty, isTy, eChain, oLe, oLt, oGt, oGe, oEq, oNe, bNot, oAdd, oSub, fLen, fLenD, D.seq, eTup, gTupD, frzs, eLst, gLstD, allocL, eIx, oIx, fMin, take_self, R.bind, liftE, RS.seq, tName, tTupN, tNames, eMt, gMt, tyD, wipeE, e0, no]
    have em : ((kvs.map fun p => p.1.d) ++ [x]).map (hEnt kvs) = (kvs.map ent ++ [false]).map D.bl := by
      rw [List.map_append, hEnt_map H, List.map_append, List.map_map]
      have : hEnt kvs x = .bl false := by unfold hEnt; rw [nk]
      simp only [List.map_cons, List.map_nil, this]
      rfl
    rw [em, List.nil_append] at go
    have e2 := blsOf_map (kvs.map ent ++ [false])
    have e3 : (kvs.map ent ++ [false]).all id = false := by simp
    generalize ((kvs.map ent ++ [false]).map D.bl) = ds at go e2
    generalize kvs.map ent ++ [false] = bs at e2 e3
    simp [callD, outR, retU, gSeq, gIf, gRet, gRetN, gSet, gExpr, VL.gNil, gNever, gUnp, gPar, gPar3, eVar, eC, elNil, elCons, eCall, gCall, eCB, gCB, vws_cons, vws_nil, c1, c2, eOp, opD, bOf, bAnd, bOr, bNeg, eAnd, eOr, eNot, eIf, eIs, isN, eIsi, D.ty, isTy, eChain, oLe, oLt, oGt, oGe, oEq, oNe, bNot, oAdd, oSub, fLen, fLenD, D.seq, eTup, gTupD, frzs, eLst, gLstD, allocL, eIx, oIx, fMin, take_self, R.bind, liftE, RS.seq, tName, tTupN, tNames, eMt, gMt, tyD, d_are_weights, g_are_weights, fLenX, hn, eLc, dKeysX, gKeysX, go, fBls, D.lsts, e2, e3]
  · have hn : (8 : Int) < ((kvs.length : Int) + 1) := by omega
    simp [callD, outR, retU, gSeq, gIf, gRet, gRetN, gSet, gExpr, VL.gNil, gNever, gUnp, gPar, gPar3, eVar, eC, elNil, elCons, eCall, gCall, eCB, gCB, vws_cons, vws_nil, c1, c2, eOp, opD, bOf, bAnd, bOr, bNeg, eAnd, eOr, eNot, eIf, eIs, isN, eIsi, D.ty, isTy, eChain, oLe, oLt, oGt, oGe, oEq, oNe, bNot, oAdd, oSub, fLen, fLenD, D.seq, eTup, gTupD, frzs, eLst, gLstD, allocL, eIx, oIx, fMin, take_self, R.bind, liftE, RS.seq, tName, tTupN, tNames, eMt, gMt, tyD, d_are_weights, g_are_weights, fLenX, hn]
/-- what is no dict -/
theorem e_weights_no {d : D} (h : d = .non ∨ (∃ ds, d = .lst ds) ∨ (∃ ds, d = .tup ds) ∨ (∃ t, d = .str t) ∨ (∃ i, d = .int i) ∨ ∃ b, d = .bl b) (τ : Store) : d_are_weights [.d d] τ = .ok (.d (.bl false)) τ := by
  rcases h with rfl | ⟨ds, rfl⟩ | ⟨ds, rfl⟩ | ⟨t, rfl⟩ | ⟨i, rfl⟩ | ⟨b, rfl⟩ <;> simp [callD, outR, retU, gSeq, gIf, gRet, gRetN, gSet, gExpr, VL.gNil, gNever, gUnp, gPar, gPar3, eVar, eC, elNil, elCons, eCall, gCall, eCB, gCB, vws_cons, vws_nil, c1, c2, eOp, opD, bOf, bAnd, bOr, bNeg, eAnd, eOr, eNot, eIf, eIs, isN, eIsi, D.ty, isTy, eChain, oLe, oLt, oGt, oGe, oEq, oNe, bNot, oAdd, oSub, fLen, fLenD, D.seq, eTup, gTupD, frzs, eLst, gLstD, allocL, eIx, oIx, fMin, take_self, R.bind, liftE, RS.seq, tName, tTupN, tNames, eMt, gMt, tyD, d_are_weights, g_are_weights]
end K80

/-! k80: ledgers made, refused, told, compared. -/
namespace K80
open PySem PySem.Spec PySem.NumText PyProof.Rows L2 LamX VL VD
def ENT : T := [101, 110, 116, 114, 105, 101, 115]
def LIM : T := [108, 105, 109, 105, 116, 115]
def PART : T := [112, 97, 114, 116]
def WEIGHTS : T := [119, 101, 105, 103, 104, 116, 115]
def LOAD : T := [108, 111, 97, 100]
def RUSH : T := [114, 117, 115, 104]
abbrev WS := List (T × Nat)
def kv (p : T × Nat) : Ky × D := (.inr p.1, .int p.2)
def kk (p : T × Nat) : List Ky := [.inr p.1, .inl p.2]
def rowD (p : T × Nat) : D := .tup [.str p.1, .int p.2]
theorem itKs_kv : ∀ ws : WS, itKs (ws.map kv) = some (ws.map kk)
  | [] => rfl
  | p :: ws => by
    show (match (some (Sum.inl (p.2 : Int)) : Option Ky), itKs (ws.map kv) with
      | some y, some ks => some ([(Sum.inr p.1 : Ky), y] :: ks)
      | _, _ => none) = _
    rw [itKs_kv ws]
    rfl
def Asc (ws : WS) : Prop := ws.Pairwise fun a b => a.1 < b.1
theorem kk_lt {a b : T × Nat} (h : a.1 < b.1) : kk a < kk b := by
  have h1 : (Sum.inr a.1 : Ky) < Sum.inr b.1 := h
  exact List.Lex.rel h1
theorem srt_kk {ws vs : WS} (p : vs.Perm ws) (h : Asc vs) : srt (ws.map kk) = vs.map kk := by
  refine (srt_uniq (p.map kk) ?_).symm
  exact List.pairwise_map.mpr (h.imp fun hab => Lin.ns (kk_lt hab))
theorem asc_nd {vs : WS} (h : Asc vs) : (vs.map (·.1)).Nodup := List.pairwise_map.mpr (h.imp fun hab e => by rw [e] at hab; exact List.lt_irrefl _ hab)
/-- weights as the law draws them -/
structure VOk (ws : WS) : Prop where
  few : ws.length ≤ 8
  own : ∀ p ∈ ws, isOwn p.1 = true ∧ p.2 ≤ 1000000000
  nd : (ws.map (·.1)).Nodup
theorem VOk.fin {ws : WS} (h : VOk ws) : Fin (ws.map kv) := by
  refine ⟨?_, fun p m => ?_, by rw [List.length_map]; have := h.few; omega⟩
  · rw [List.map_map]
    have e : ((fun x : Ky × D => x.1) ∘ kv) = fun p : T × Nat => (Sum.inr p.1 : Ky) := rfl
    rw [e]
    have := h.nd
    rw [List.Nodup, List.pairwise_map] at this ⊢
    exact this.imp fun hab e => hab (Sum.inr.inj e)
  · obtain ⟨q, hq, rfl⟩ := List.mem_map.mp m
    exact ⟨.str q.1 (by have := isOwn_len (h.own q hq).1; omega), .int _⟩
theorem VOk.all {ws : WS} (h : VOk ws) : (ws.map kv).all ent = true := by
  rw [List.all_map]
  refine List.all_eq_true.mpr fun p m => ?_
  obtain ⟨h1, h2⟩ := h.own p m
  show (isOwn p.1 && okD 1000000000 (.int (p.2 : Int))) = true
  rw [h1]
  exact decide_eq_true (by omega)
theorem VOk.perm {ws vs : WS} (h : VOk ws) (p : vs.Perm ws) : VOk vs := ⟨by rw [p.length_eq]; exact h.few, fun q m => h.own q (p.mem_iff.mp m), (p.map _).nodup_iff.mpr h.nd⟩
theorem e_good {ws : WS} (H : VOk ws) (τ : Store) : d_are_weights [.d (.dct (ws.map kv))] τ = .ok (.d (.bl true)) τ := by
  have h8 := H.few
  rw [e_weights H.fin, H.all, List.length_map, decide_eq_true h8]
  rfl
def optD : Option Nat → D
  | none => .non
  | some n => .int n
def capOk : Option Nat → Prop
  | none => True
  | some n => n ≤ 10000000000
theorem sim_opt : ∀ a : Option Nat, Sim (optD a)
  | none => .non
  | some n => .int _
theorem cap_good {a : Option Nat} (h : capOk a) (τ : Store) : d_is_cap [.d (optD a)] τ = .ok (.d (.bl true)) τ := by
  rw [e_cap (sim_opt a)]
  cases a with
  | none => rfl
  | some n =>
    have h : n ≤ 10000000000 := h
    have : okCap (optD (some n)) = true := decide_eq_true (by omega)
    rw [this]
/-- a value that is no cap -/
def NoCap (d : D) : Prop := Sim d ∧ okCap d = false
theorem cap_bad {d : D} (h : NoCap d) (τ : Store) : d_is_cap [.d d] τ = .ok (.d (.bl false)) τ := by rw [e_cap h.1, h.2]
/-- a value that is no weights -/
def NoW (d : D) : Prop := ∀ τ, d_are_weights [.d d] τ = .ok (.d (.bl false)) τ
def led (ws : WS) (a b : Option Nat) : D := .ins 1 [(ENT, .tpl (ws.map rowD)), (LIM, .tup [optD a, optD b])]
theorem set_last {α : Type} (l : List α) (x y : α) : (l ++ [x]).set l.length y = l ++ [y] := by
  rw [List.set_append_right _ _ (Nat.le_refl _)]
  simp
theorem get_last {α : Type} (l : List α) (x : α) : (l ++ [x])[l.length]? = some x := by simp
section
variable {ws vs : WS} {a b : Option Nat} {τ : Store}
theorem e_sort (H : VOk ws) (p : vs.Perm ws) (hv : Asc vs) (τ : Store) : fSortIt false [false, true] (ws.map kv) τ = .ok (.d (.lst (vs.map rowD))) τ := by
  have hl : (ws.map kv).length ≤ sizeLine := by rw [sl_eq, List.length_map]; have := H.few; omega
  have hall : ((ws.map kk).all fun k => form k == [false, true]) = true := by
    rw [List.all_map]
    exact List.all_eq_true.mpr fun q _ => rfl
  unfold fSortIt
  rw [itKs_kv]
  simp only
  rw [if_pos ⟨hl, hall⟩, srt_kk p hv, List.map_map]
  rfl
theorem e_init (H : VOk ws) (p : vs.Perm ws) (hv : Asc vs) (ha : capOk a) (hb : capOk b) (τ : Store) :
    d_Ledger___init__ [.loc τ.length, .d (.dct (ws.map kv)), .d (optD a), .d (optD b)] (τ ++ [.ins 1 []]) = .ok (.d .non) (τ ++ [.ins 1 [(ENT, .tpl (vs.map rowD)), (LIM, .tup [optD a, optD b])]]) := by
  have h1 := e_good H (τ ++ [.ins 1 []])
  have h2 := cap_good ha (τ ++ [.ins 1 []])
  have h3 := cap_good hb (τ ++ [.ins 1 []])
  have hs := e_sort H p hv (τ ++ [.ins 1 []])
  have two : 2 ≤ sizeLine := by rw [sl_eq]; omega
  generalize hkv : ws.map kv = kvs at h1 hs
  unfold ENT LIM
  simp [callD, outR, retU, gSeq, gIf, gRet, gRetN, gSet, gExpr, VL.gNil, gNever, gUnp, gPar, gPar3, eVar, eC, elNil, elCons, eCall, gCall, eCB, gCB, vws_cons, vws_nil, c1, c2, eOp, opD, bOf, bAnd, bOr, bNeg, eAnd, eOr, eNot, eIf, eIs, isN, eIsi, D.ty, isTy, eChain, oLe, oLt, oGt, oGe, oEq, oNe, bNot, oAdd, oSub, fLen, fLenD, D.seq, eTup, gTupD, frzs, eLst, gLstD, allocL, eIx, oIx, fMin, take_self, R.bind, liftE, RS.seq, tName, tTupN, tNames, eMt, gMt, tyD, d_Ledger___init__, g_Ledger___init__, h1, h2, h3, eSortIt, hs, fTupP, D.lsts, gSetF, fldAt, frz, get_last, set_last, fput, two]
  exact List.take_of_length_le (by simp)
theorem e_mk (H : VOk ws) (p : vs.Perm ws) (hv : Asc vs) (ha : capOk a) (hb : capOk b) (τ : Store) {os : List Nat} {dvs : List D} {us wss : List U}
    (hp : pickL os (((.loc τ.length :: us) ++ wss) ++ dvs.map U.d) = [.loc τ.length, .d (.dct (ws.map kv)), .d (optD a), .d (optD b)]) : gMakeD 1 d_Ledger___init__ os dvs us wss τ = .ok (.d (led vs a b)) τ := by
  have h := e_init H p hv ha hb τ
  unfold gMakeD
  rw [hp, h]
  simp only [get_last]
  rw [List.take_left]
  rfl
/-! ### refused -/
def xcp (t : T) : List (T × D) := [(PART, .str t)]
theorem t_last (τ : Store) (X : Cell) : (τ ++ [X]).take (τ ++ [X]).length = τ ++ [X] := List.take_of_length_le (Nat.le_refl _)
theorem r_weights {d : D} (h : NoW d) {x y : U} (τ : Store) : d_Ledger___init__ [.loc τ.length, .d d, x, y] (τ ++ [.ins 1 []]) = .exc 0 (xcp WEIGHTS) (τ ++ [.ins 1 []]) := by
  have h1 := h (τ ++ [.ins 1 []])
  simp [callD, outR, retU, gSeq, gIf, gRet, gRetN, gSet, gExpr, VL.gNil, gNever, gUnp, gPar, gPar3, eVar, eC, elNil, elCons, eCall, gCall, eCB, gCB, vws_cons, vws_nil, c1, c2, eOp, opD, bOf, bAnd, bOr, bNeg, eAnd, eOr, eNot, eIf, eIs, isN, eIsi, D.ty, isTy, eChain, oLe, oLt, oGt, oGe, oEq, oNe, bNot, oAdd, oSub, fLen, fLenD, D.seq, eTup, gTupD, frzs, eLst, gLstD, allocL, eIx, oIx, fMin, take_self, R.bind, liftE, RS.seq, tName, tTupN, tNames, eMt, gMt, tyD, d_Ledger___init__, g_Ledger___init__, h1, gRaise, xcp, PART, WEIGHTS]
  exact List.take_of_length_le (by simp)
theorem r_load (H : VOk ws) {d : D} (h : NoCap d) {y : U} (τ : Store) : d_Ledger___init__ [.loc τ.length, .d (.dct (ws.map kv)), .d d, y] (τ ++ [.ins 1 []]) = .exc 0 (xcp LOAD) (τ ++ [.ins 1 []]) := by
  have h1 := e_good H (τ ++ [.ins 1 []])
  have h2 := cap_bad h (τ ++ [.ins 1 []])
  generalize hkv : ws.map kv = kvs at h1
  simp [callD, outR, retU, gSeq, gIf, gRet, gRetN, gSet, gExpr, VL.gNil, gNever, gUnp, gPar, gPar3, eVar, eC, elNil, elCons, eCall, gCall, eCB, gCB, vws_cons, vws_nil, c1, c2, eOp, opD, bOf, bAnd, bOr, bNeg, eAnd, eOr, eNot, eIf, eIs, isN, eIsi, D.ty, isTy, eChain, oLe, oLt, oGt, oGe, oEq, oNe, bNot, oAdd, oSub, fLen, fLenD, D.seq, eTup, gTupD, frzs, eLst, gLstD, allocL, eIx, oIx, fMin, take_self, R.bind, liftE, RS.seq, tName, tTupN, tNames, eMt, gMt, tyD, d_Ledger___init__, g_Ledger___init__, h1, h2, gRaise, xcp, PART, LOAD]
  exact List.take_of_length_le (by simp)
theorem r_rush (H : VOk ws) (ha : capOk a) {d : D} (h : NoCap d) (τ : Store) : d_Ledger___init__ [.loc τ.length, .d (.dct (ws.map kv)), .d (optD a), .d d] (τ ++ [.ins 1 []]) = .exc 0 (xcp RUSH) (τ ++ [.ins 1 []]) := by
  have h1 := e_good H (τ ++ [.ins 1 []])
  have h2 := cap_good ha (τ ++ [.ins 1 []])
  have h3 := cap_bad h (τ ++ [.ins 1 []])
  generalize hkv : ws.map kv = kvs at h1
  simp [callD, outR, retU, gSeq, gIf, gRet, gRetN, gSet, gExpr, VL.gNil, gNever, gUnp, gPar, gPar3, eVar, eC, elNil, elCons, eCall, gCall, eCB, gCB, vws_cons, vws_nil, c1, c2, eOp, opD, bOf, bAnd, bOr, bNeg, eAnd, eOr, eNot, eIf, eIs, isN, eIsi, D.ty, isTy, eChain, oLe, oLt, oGt, oGe, oEq, oNe, bNot, oAdd, oSub, fLen, fLenD, D.seq, eTup, gTupD, frzs, eLst, gLstD, allocL, eIx, oIx, fMin, take_self, R.bind, liftE, RS.seq, tName, tTupN, tNames, eMt, gMt, tyD, d_Ledger___init__, g_Ledger___init__, h1, h2, h3, gRaise, xcp, PART, RUSH]
  exact List.take_of_length_le (by simp)
theorem mk_exc {os : List Nat} {dvs : List D} {us wss args : List U} {t : T} (hp : pickL os (((.loc τ.length :: us) ++ wss) ++ dvs.map U.d) = args) (h : d_Ledger___init__ args (τ ++ [.ins 1 []]) = .exc 0 (xcp t) (τ ++ [.ins 1 []])) : gMakeD 1 d_Ledger___init__ os dvs us wss τ = .exc 0 (xcp t) τ := by
  unfold gMakeD
  rw [hp, h]
  simp
/-! ### told -/
theorem pairs_rows : ∀ vs : WS, pairsOf (vs.map rowD) = some (vs.map kv)
  | [] => rfl
  | p :: vs => by
    show (match (some (Sum.inr p.1) : Option Ky), pairsOf (vs.map rowD) with
      | some k, some kvs => some ((k, D.int p.2) :: kvs)
      | _, _ => none) = _
    rw [pairs_rows vs]
    rfl
theorem dput_new {acc : WS} {p : T × Nat} (h : ∀ q ∈ acc, q.1 ≠ p.1) : dput (acc.map kv) (.inr p.1) (.int p.2) = (acc ++ [p]).map kv := by
  unfold dput
  rw [if_neg ?_]
  · rw [List.map_append]; rfl
  · rw [List.any_map]
    intro z
    obtain ⟨q, hq, e⟩ := List.any_eq_true.mp z
    have e : (kv q).1 = .inr p.1 := of_decide_eq_true e
    exact h q hq (Sum.inr.inj e)
theorem merge_go : ∀ (vs acc : WS), ((acc ++ vs).map (·.1)).Nodup → (vs.map kv).foldl (fun acc p => dput acc p.1 p.2) (acc.map kv) = (acc ++ vs).map kv
  | [], acc, _ => by simp
  | p :: vs, acc, h => by
    rw [List.map_cons, List.foldl_cons]
    have hn : ∀ q ∈ acc, q.1 ≠ p.1 := fun q m e => by
      rw [List.map_append] at h
      have := (List.nodup_append.mp h).2.2 q.1 (List.mem_map_of_mem m) p.1 List.mem_cons_self
      exact this e
    have e1 : dput (acc.map kv) (kv p).1 (kv p).2 = (acc ++ [p]).map kv := dput_new hn
    rw [e1, merge_go vs (acc ++ [p]) (by rw [List.append_assoc]; exact h), List.append_assoc]
    rfl
theorem merge_kv {vs : WS} (h : (vs.map (·.1)).Nodup) : dmerge (vs.map kv) = vs.map kv := merge_go vs [] h
theorem p_weights (hv : (vs.map (·.1)).Nodup) (τ : Store) : d_Ledger_weights [.d (led vs a b)] τ = .ok (.loc τ.length) (τ ++ [.dct (vs.map kv)]) := by
  have hE : gFld 1 [101, 110, 116, 114, 105, 101, 115] (.d (led vs a b)) τ = .ok (.d (.tpl (vs.map rowD))) τ := rfl
  have hd : fDict (.tpl (vs.map rowD)) τ = .ok (.loc τ.length) (τ ++ [.dct (vs.map kv)]) := by
    unfold fDict
    simp only [pairs_rows, merge_kv hv]
    rfl
  generalize led vs a b = dl at hE
  generalize vs.map rowD = rs at hE hd
  simp [callD, outR, retU, gSeq, gIf, gRet, gRetN, gSet, gExpr, VL.gNil, gNever, gUnp, gPar, gPar3, eVar, eC, elNil, elCons, eCall, gCall, eCB, gCB, vws_cons, vws_nil, c1, c2, eOp, opD, bOf, bAnd, bOr, bNeg, eAnd, eOr, eNot, eIf, eIs, isN, eIsi, D.ty, isTy, eChain, oLe, oLt, oGt, oGe, oEq, oNe, bNot, oAdd, oSub, fLen, fLenD, D.seq, eTup, gTupD, frzs, eLst, gLstD, allocL, eIx, oIx, fMin, take_self, R.bind, liftE, RS.seq, tName, tTupN, tNames, eMt, gMt, tyD, d_Ledger_weights, g_Ledger_weights, callO, outO, retO, eFld, hE, hd, get_last]
def namesD (vs : WS) : D := .tup (vs.map fun p => .str p.1)
theorem comp_names (ρ : VL.Env) (i j : Nat) (hi : i < ρ.length) (hj : j < ρ.length) (hij : i ≠ j) (hl : vs.length ≤ 100) (τ : Store) : compGo (tTupN [i, j]) bYes (eVar i) ρ (vs.map rowD) τ [] = .ok (vs.map fun p => .str p.1) τ := by
  have h := compGo_all (t := tTupN [i, j]) (fe := eVar i) (ρ := ρ) (τ := τ) (h := fun d => match d with
    | .tup [.str t, _] => .str t
    | _ => .non) (vs.map rowD) [] (fun x m => by
      obtain ⟨p, hp, rfl⟩ := List.mem_map.mp m
      refine ⟨_, rfl, ?_⟩
      have : ((ρ.set i (some (.d (.str p.1)))).set j (some (.d (.int p.2))))[i]? = some (some (.d (.str p.1))) := by
        rw [List.getElem?_set_ne (Ne.symm hij), List.getElem?_set_self hi]
      show eVar i ((ρ.set i (some (.d (.str p.1)))).set j (some (.d (.int p.2)))) τ = _
      unfold eVar
      rw [this]
      rfl) (by rw [sl_eq]; simp; omega)
  rw [h, List.nil_append, List.map_map]
  rfl
theorem p_names (hl : vs.length ≤ 100) (τ : Store) : d_Ledger_names [.d (led vs a b)] τ = .ok (.d (namesD vs)) τ := by
  have hE : gFld 1 [101, 110, 116, 114, 105, 101, 115] (.d (led vs a b)) τ = .ok (.d (.tpl (vs.map rowD))) τ := rfl
  have hc := comp_names (vs := vs) (wipeE [some (.d (led vs a b)), none, none] [1, 2]) 1 2 (by simp [wipeE]) (by simp [wipeE]) (by decide) hl τ
  unfold namesD
  generalize led vs a b = dl at hE hc
  generalize (vs.map fun p => D.str p.1) = ns at hc
  generalize vs.map rowD = rs at hE hc
  simp [callD, outR, retU, gSeq, gIf, gRet, gRetN, gSet, gExpr, VL.gNil, gNever, gUnp, gPar, gPar3, eVar, eC, elNil, elCons, eCall, gCall, eCB, gCB, vws_cons, vws_nil, c1, c2, eOp, opD, bOf, bAnd, bOr, bNeg, eAnd, eOr, eNot, eIf, eIs, isN, eIsi, D.ty, isTy, eChain, oLe, oLt, oGt, oGe, oEq, oNe, bNot, oAdd, oSub, fLen, fLenD, D.seq, eTup, gTupD, frzs, eLst, gLstD, allocL, eIx, oIx, fMin, take_self, R.bind, liftE, RS.seq, tName, tTupN, tNames, eMt, gMt, tyD, d_Ledger_names, g_Ledger_names, eFld, hE, eLc, dTup, gItT, hc, fTuple, D.lsts]
theorem p_load (τ : Store) : d_Ledger_load_cap [.d (led vs a b)] τ = .ok (.d (optD a)) τ := by
  have hL : gFld 1 [108, 105, 109, 105, 116, 115] (.d (led vs a b)) τ = .ok (.d (.tup [optD a, optD b])) τ := rfl
  have h0 : atI [optD a, optD b] 0 = some (optD a) := atI_nat _ 0
  generalize led vs a b = dl at hL
  simp [callD, outR, retU, gSeq, gIf, gRet, gRetN, gSet, gExpr, VL.gNil, gNever, gUnp, gPar, gPar3, eVar, eC, elNil, elCons, eCall, gCall, eCB, gCB, vws_cons, vws_nil, c1, c2, eOp, opD, bOf, bAnd, bOr, bNeg, eAnd, eOr, eNot, eIf, eIs, isN, eIsi, D.ty, isTy, eChain, oLe, oLt, oGt, oGe, oEq, oNe, bNot, oAdd, oSub, fLen, fLenD, D.seq, eTup, gTupD, frzs, eLst, gLstD, allocL, eIx, oIx, fMin, take_self, R.bind, liftE, RS.seq, tName, tTupN, tNames, eMt, gMt, tyD, d_Ledger_load_cap, g_Ledger_load_cap, eFld, hL, h0]
theorem p_rush (τ : Store) : d_Ledger_rush_cap [.d (led vs a b)] τ = .ok (.d (optD b)) τ := by
  have hL : gFld 1 [108, 105, 109, 105, 116, 115] (.d (led vs a b)) τ = .ok (.d (.tup [optD a, optD b])) τ := rfl
  have h0 : atI [optD a, optD b] 1 = some (optD b) := atI_nat _ 1
  generalize led vs a b = dl at hL
  simp [callD, outR, retU, gSeq, gIf, gRet, gRetN, gSet, gExpr, VL.gNil, gNever, gUnp, gPar, gPar3, eVar, eC, elNil, elCons, eCall, gCall, eCB, gCB, vws_cons, vws_nil, c1, c2, eOp, opD, bOf, bAnd, bOr, bNeg, eAnd, eOr, eNot, eIf, eIs, isN, eIsi, D.ty, isTy, eChain, oLe, oLt, oGt, oGe, oEq, oNe, bNot, oAdd, oSub, fLen, fLenD, D.seq, eTup, gTupD, frzs, eLst, gLstD, allocL, eIx, oIx, fMin, take_self, R.bind, liftE, RS.seq, tName, tTupN, tNames, eMt, gMt, tyD, d_Ledger_rush_cap, g_Ledger_rush_cap, eFld, hL, h0]
theorem prop_at {F : List U → Store → R U} {dl : D} {fs : List (T × D)} (hd : dl = .ins 1 fs) {u : U} {τ' : Store} (h : F [.d dl] τ = .ok u τ') : gProp 1 F (.d dl) τ = .ok u τ' := by
  subst hd
  unfold gProp
  simp only [vw_d, if_true, h]
def toldD (vs : WS) (a b : Option Nat) : D := .lst [.lst (vs.map rowD), namesD vs, optD a, optD b]
theorem items_kv (hl : vs.length ≤ 100) (τ : Store) : fItems (vs.map kv) τ = .ok (.d (.lst (vs.map rowD))) τ := by
  unfold fItems
  rw [if_pos (by rw [sl_eq, List.length_map]; omega), List.map_map]
  rfl
theorem e_told (hv : (vs.map (·.1)).Nodup) (hl : vs.length ≤ 100) (τ : Store) : d__law_told [.d (led vs a b)] τ = .ok (.d (toldD vs a b)) τ := by
  have w := prop_at (dl := led vs a b) rfl (p_weights (a := a) (b := b) hv τ)
  have n := fun τ => prop_at (dl := led vs a b) rfl (p_names (a := a) (b := b) hl τ)
  have l := fun τ => prop_at (dl := led vs a b) rfl (p_load (vs := vs) (a := a) (b := b) τ)
  have r := fun τ => prop_at (dl := led vs a b) rfl (p_rush (vs := vs) (a := a) (b := b) τ)
  have hi := items_kv hl (τ ++ [.dct (vs.map kv)])
  have four : 4 ≤ sizeLine := by rw [sl_eq]; omega
  unfold toldD
  generalize led vs a b = dl at *
  generalize namesD vs = nd at *
  generalize vs.map rowD = rs at *
  generalize vs.map kv = ks at *
  simp [callD, outR, retU, gSeq, gIf, gRet, gRetN, gSet, gExpr, VL.gNil, gNever, gUnp, gPar, gPar3, eVar, eC, elNil, elCons, eCall, gCall, eCB, gCB, vws_cons, vws_nil, c1, c2, eOp, opD, bOf, bAnd, bOr, bNeg, eAnd, eOr, eNot, eIf, eIs, isN, eIsi, D.ty, isTy, eChain, oLe, oLt, oGt, oGe, oEq, oNe, bNot, oAdd, oSub, fLen, fLenD, D.seq, eTup, gTupD, frzs, eLst, gLstD, allocL, eIx, oIx, fMin, take_self, R.bind, liftE, RS.seq, tName, tTupN, tNames, eMt, gMt, tyD, d__law_told, g__law_told, eProp, w, eItems, vw, get_last, hi, n, l, r, four]
theorem rows_tups : ∀ ws : WS, tupsOf (ws.map rowD) = some (ws.map kk)
  | [] => rfl
  | p :: ws => by
    have := rows_tups ws
    simp only [List.map_cons, tupsOf, rowD, kk] at this ⊢
    simp [tupsOf, kysOf, D.ky, this]
end
end K80

/-! k80: what is due; changed ledgers; compared; shown; heard. -/
namespace K80
open PySem PySem.Spec PySem.NumText PyProof.Rows L2 LamX VL VD
section
variable {ws vs : WS} {a b c : Option Nat} {τ : Store}
/-! ### what is due -/
theorem e_srt (p : vs.Perm ws) (hv : Asc vs) (hl : ws.length ≤ 8) (τ : Store) : fSorted false (.lst (ws.map rowD)) τ = .ok (.d (.lst (vs.map rowD))) τ := by
  unfold fSorted
  simp only [D.lsts]
  rw [if_pos (by rw [sl_eq, List.length_map]; omega)]
  cases ws with
  | nil =>
    have : vs = [] := p.eq_nil
    subst this
    have h0 : srt ([] : List Int) = [] := by simp [srt]
    show allocL false ((srt ([] : List Int)).map D.int) τ = _
    rw [h0]
    rfl
  | cons q r =>
    have i1 : intsOf ((q :: r).map rowD) = none := rfl
    have i2 : strsOf ((q :: r).map rowD) = none := rfl
    rw [i1, i2, rows_tups]
    have fm : ((q :: r).map kk).map form = [false, true] :: (r.map kk).map form := rfl
    simp only [fm]
    have fa : ((r.map kk).map form).all (· == [false, true]) = true := by
      rw [List.map_map, List.all_map]
      exact List.all_eq_true.mpr fun q _ => rfl
    rw [if_pos ⟨by simp, fa⟩, srt_kk p hv, List.map_map]
    rfl
def dueD (vs : WS) (x y : D) : D := .lst [.lst (vs.map rowD), namesD vs, x, y]
theorem e_due (H : VOk ws) (p : vs.Perm ws) (hv : Asc vs) (x y : D) (τ : Store) : d__law_due [.d (.dct (ws.map kv)), .d x, .d y] τ = .ok (.d (dueD vs x y)) τ := by
  have hf := H.few
  have hfv : vs.length ≤ 100 := by rw [p.length_eq]; omega
  have nd := H.fin.nd
  have go : compGo (tName 4) bYes (eTup (elCons (eCB (c1 fStr) (elCons (eVar 4) elNil)) (elCons (eDGetX (eVar 0) (eVar 4)) elNil))) (wipeE [some (.d (.dct (ws.map kv))), some (.d x), some (.d y), none, none, none] [4]) ((ws.map kv).map fun p => p.1.d) τ [] =
      .ok ([] ++ ((ws.map kv).map fun p => p.1.d).map fun d => match d with
        | .str t => .tup [.str t, (dget (ws.map kv) (.inr t)).getD .non]
        | _ => .non) τ := by
    refine compGo_all _ [] (fun z m => ?_) (by rw [sl_eq]; simp; omega)
    obtain ⟨q, hq, rfl⟩ := List.mem_map.mp m
    obtain ⟨q', hq', rfl⟩ := List.mem_map.mp hq
    have e1 : dget (ws.map kv) (.inr q'.1) = some (.int q'.2) := dget_of nd hq
    refine ⟨_, rfl, ?_⟩
    have two : 2 ≤ sizeLine := by rw [sl_eq]; omega
    generalize ws.map kv = ks at e1
    simp [callD, outR, retU, gSeq, gIf, gRet, gRetN, gSet, gExpr, VL.gNil, gNever, gUnp, gPar, gPar3, eVar, eC, elNil, elCons, eCall, gCall, eCB, gCB, vws_cons, vws_nil, c1, c2, eOp, opD, bOf, bAnd, bOr, bNeg, eAnd, eOr, eNot, eIf, eIs, isN, eIsi, D.ty, isTy, eChain, oLe, oLt, oGt, oGe, oEq, oNe, bNot, oAdd, oSub, fLen, fLenD, D.seq, eTup, gTupD, frzs, eLst, gLstD, allocL, eIx, oIx, fMin, take_self, R.bind, liftE, RS.seq, tName, tTupN, tNames, eMt, gMt, tyD, wipeE, kv, Ky.d, fStr, eDGetX, gDGetX, gDGet, D.ky, e1, two]
  have em : (((ws.map kv).map fun p => p.1.d).map fun d => match d with
        | .str t => D.tup [.str t, (dget (ws.map kv) (.inr t)).getD .non]
        | _ => .non) = ws.map rowD := by
    rw [List.map_map, List.map_map]
    refine List.map_congr_left fun q m => ?_
    have e1 : dget (ws.map kv) (.inr q.1) = some (.int q.2) := dget_of nd (List.mem_map_of_mem m)
    show D.tup [.str q.1, (dget (ws.map kv) (.inr q.1)).getD .non] = rowD q
    rw [e1]
    rfl
  rw [em, List.nil_append] at go
  have hs := e_srt p hv hf τ
  have hc := comp_names (vs := vs) (wipeE [some (.d (.dct (ws.map kv))), some (.d x), some (.d y), some (.d (.lst (vs.map rowD))), none, none] [4, 5]) 4 5 (by simp [wipeE]) (by simp [wipeE]) (by decide) hfv τ
  have four : 4 ≤ sizeLine := by rw [sl_eq]; omega
  unfold dueD namesD
  generalize (vs.map fun p => D.str p.1) = ns at hc
  generalize vs.map rowD = rs at hs hc
  generalize ws.map rowD = rw0 at go hs
  generalize ws.map kv = ks at go hc
  simp [callD, outR, retU, gSeq, gIf, gRet, gRetN, gSet, gExpr, VL.gNil, gNever, gUnp, gPar, gPar3, eVar, eC, elNil, elCons, eCall, gCall, eCB, gCB, vws_cons, vws_nil, c1, c2, eOp, opD, bOf, bAnd, bOr, bNeg, eAnd, eOr, eNot, eIf, eIs, isN, eIsi, D.ty, isTy, eChain, oLe, oLt, oGt, oGe, oEq, oNe, bNot, oAdd, oSub, fLen, fLenD, D.seq, eTup, gTupD, frzs, eLst, gLstD, allocL, eIx, oIx, fMin, take_self, R.bind, liftE, RS.seq, tName, tTupN, tNames, eMt, gMt, tyD, d__law_due, g__law_due, eLc, dKeysX, gKeysX, go, hs, dList, gItL, hc, fTuple, D.lsts, four]
theorem told_due : toldD vs a b = dueD vs (optD a) (optD b) := rfl
end
end K80

/-! k80: what is due; changed ledgers; compared; shown; heard. -/
namespace K80
open PySem PySem.Spec PySem.NumText PyProof.Rows L2 LamX VL VD
section
variable {ws vs : WS} {a b c : Option Nat} {τ : Store}
/-! ### compared -/
def niceW (vs : WS) : Prop := ∀ p ∈ vs, isOwn p.1 = true ∧ p.2 ≤ 1000000000
theorem own_nice {t : T} (h : isOwn t = true) : nice (.str t) = true := by
  unfold isOwn isName at h
  simp only [Bool.and_eq_true] at h
  simp only [nice]
  refine List.all_eq_true.mpr fun c hc => ?_
  have := of_decide_eq_true (List.all_eq_true.mp h.1.2 c hc)
  unfold LET at this
  simp only [List.mem_cons, List.not_mem_nil, or_false] at this
  exact decide_eq_true (by omega)
theorem int_nice {n : Nat} (h : n ≤ 10000000000) : nice (.int n) = true := by
  simp only [nice]
  refine decide_eq_true ?_
  have : (10 : Nat) ^ 45 = 1000000000000000000000000000000000000000000000 := by decide
  omega
theorem rows_nice (H : niceW vs) : niceL (vs.map rowD) = true := niceL_iff.mpr fun d m => by
  obtain ⟨p, hp, rfl⟩ := List.mem_map.mp m
  obtain ⟨h1, h2⟩ := H p hp
  simp only [rowD, nice, niceL, Bool.and_true]
  have e1 := own_nice h1
  have e2 := int_nice (n := p.2) (by omega)
  simp only [nice] at e1 e2
  rw [e1, e2]
  rfl
theorem opt_nice (h : capOk a) : nice (optD a) = true := by
  cases a with
  | none => rfl
  | some n => exact int_nice h
theorem rows_dep : ∀ vs : WS, depL (vs.map rowD) ≤ 1
  | [] => by simp [depL]
  | p :: vs => by
    have := rows_dep vs
    simp only [List.map_cons, depL, rowD, dep]
    omega
theorem opt_dep : dep (optD a) = 0 := by cases a <;> rfl
theorem names_nice (H : niceW vs) : nice (namesD vs) = true := by
  simp only [namesD, nice]
  refine niceL_iff.mpr fun d m => ?_
  obtain ⟨p, hp, rfl⟩ := List.mem_map.mp m
  exact own_nice (H p hp).1
theorem names_dep : ∀ vs : WS, depL (vs.map fun p => D.str p.1) = 0
  | [] => rfl
  | p :: vs => by
    have := names_dep vs
    simp only [List.map_cons, depL, dep, this, Nat.max_self]
theorem due_nice (H : niceW vs) (ha : capOk a) (hb : capOk b) : nice (toldD vs a b) = true := by
  simp only [toldD, nice, niceL, rows_nice H, names_nice H, opt_nice ha, opt_nice hb, Bool.and_self]
theorem due_dep : dep (toldD vs a b) ≤ 3 := by
  have h1 := rows_dep vs
  have h2 := names_dep vs
  have h3 := @opt_dep a
  have h4 := @opt_dep b
  simp only [toldD, dep, depL, namesD] at *
  omega
theorem rows_wt : ∀ vs : WS, niceW vs → wtL (vs.map rowD) ≤ 200 * vs.length
  | [], _ => by simp [wtL]
  | p :: vs, H => by
    have := rows_wt vs fun q m => H q (List.mem_cons_of_mem _ m)
    have := isOwn_len (H p List.mem_cons_self).1
    simp only [List.map_cons, wtL, rowD, wt, List.length_cons]
    omega
theorem names_wt : ∀ vs : WS, niceW vs → wtL (vs.map fun p => D.str p.1) ≤ 100 * vs.length
  | [], _ => by simp [wtL]
  | p :: vs, H => by
    have := names_wt vs fun q m => H q (List.mem_cons_of_mem _ m)
    have := isOwn_len (H p List.mem_cons_self).1
    simp only [List.map_cons, wtL, wt, List.length_cons]
    omega
theorem opt_wt : wt (optD a) ≤ 46 := by cases a <;> simp [optD, wt]
theorem due_wt (H : niceW vs) (hl : vs.length ≤ 8) : wt (toldD vs a b) ≤ 16777216 := by
  have h1 := rows_wt vs H
  have h2 := names_wt vs H
  have h3 := @opt_wt a
  have h4 := @opt_wt b
  simp only [toldD, wt, wtL, namesD] at *
  omega
theorem r_due (H : niceW vs) (hl : vs.length ≤ 8) (ha : capOk a) (hb : capOk b) (τ : Store) : fRepr (toldD vs a b) τ = .ok (.d (.str (shD (toldD vs a b)))) τ :=
  repr_nice (due_nice H ha hb) (.inl ⟨_, rfl⟩) (Nat.le_trans due_dep (by decide)) (due_wt H hl) τ
theorem eqv_opt : PyData.eqv (pyD (optD a)) (pyD (optD b)) = decide (a = b) := by
  cases a with
  | none => cases b <;> simp [optD, pyD, PyData.eqv]
  | some n =>
    cases b with
    | none => simp [optD, pyD, PyData.eqv]
    | some m =>
      simp only [optD, pyD, PyData.eqv]
      by_cases e : n = m
      · subst e; simp
      · have : ¬ ((n : Int) = (m : Int)) := by omega
        simp [e, this]
theorem eqv_row {p q : T × Nat} : PyData.eqv (pyD (rowD p)) (pyD (rowD q)) = decide (p = q) := by
  obtain ⟨s, n⟩ := p
  obtain ⟨t, m⟩ := q
  simp only [rowD, pyD, pyL, PyData.eqv, PyData.eqvAll, Bool.and_true]
  by_cases e : s = t
  · subst e
    by_cases e2 : n = m
    · subst e2; simp
    · have : ¬ ((n : Int) = (m : Int)) := by omega
      simp [e2, this]
  · have : ¬ s.s = t.s := fun z => e (T.inj z)
    simp [e, this]
theorem eqv_rows : ∀ (ws vs : WS), PyData.eqvAll (pyL (ws.map rowD)) (pyL (vs.map rowD)) = decide (ws = vs)
  | [], [] => by simp [pyL, PyData.eqvAll]
  | [], q :: vs => by simp [pyL, PyData.eqvAll]
  | p :: ws, [] => by simp [pyL, PyData.eqvAll]
  | p :: ws, q :: vs => by
    simp only [List.map_cons, pyL, PyData.eqvAll, eqv_row, eqv_rows ws vs]
    by_cases e1 : p = q <;> by_cases e2 : ws = vs <;> simp [e1, e2]
theorem e_eq {c d : Option Nat} (H1 : niceW ws) (H2 : niceW vs) (ha : capOk a) (hb : capOk b) (hc : capOk c) (hd : capOk d) (τ : Store) : d_Ledger___eq__ [.d (led ws a b), .d (led vs c d)] τ = .ok (.d (.bl (decide (ws = vs ∧ a = c ∧ b = d)))) τ := by
  have hE1 : gFld 1 [101, 110, 116, 114, 105, 101, 115] (.d (led ws a b)) τ = .ok (.d (.tpl (ws.map rowD))) τ := rfl
  have hL1 : gFld 1 [108, 105, 109, 105, 116, 115] (.d (led ws a b)) τ = .ok (.d (.tup [optD a, optD b])) τ := rfl
  have hE2 : gFld 1 [101, 110, 116, 114, 105, 101, 115] (.d (led vs c d)) τ = .ok (.d (.tpl (vs.map rowD))) τ := rfl
  have hL2 : gFld 1 [108, 105, 109, 105, 116, 115] (.d (led vs c d)) τ = .ok (.d (.tup [optD c, optD d])) τ := rfl
  have hi : gIsX' 1 (.d (led vs c d)) τ = .ok (.d (.bl true)) τ := rfl
  have n1 : nice (.tup [.tpl (ws.map rowD), .tup [optD a, optD b]]) = true := by simp only [nice, niceL, rows_nice H1, opt_nice ha, opt_nice hb, Bool.and_self]
  have n2 : nice (.tup [.tpl (vs.map rowD), .tup [optD c, optD d]]) = true := by simp only [nice, niceL, rows_nice H2, opt_nice hc, opt_nice hd, Bool.and_self]
  have d1 : dep (.tup [.tpl (ws.map rowD), .tup [optD a, optD b]]) ≤ 64 := by
    have := rows_dep ws; have := @opt_dep a; have := @opt_dep b
    simp only [dep, depL] at *; omega
  have d2 : dep (.tup [.tpl (vs.map rowD), .tup [optD c, optD d]]) ≤ 64 := by
    have := rows_dep vs; have := @opt_dep c; have := @opt_dep d
    simp only [dep, depL] at *; omega
  have hq := eq_nice n1 n2 d1 d2 τ
  have hv : PyData.eqv (pyD (.tup [.tpl (ws.map rowD), .tup [optD a, optD b]])) (pyD (.tup [.tpl (vs.map rowD), .tup [optD c, optD d]])) = decide (ws = vs ∧ a = c ∧ b = d) := by
    simp only [pyD, pyL, PyData.eqv, PyData.eqvAll, eqv_rows, eqv_opt, Bool.and_true]
    by_cases e1 : ws = vs <;> by_cases e2 : a = c <;> by_cases e3 : b = d <;> simp [e1, e2, e3]
  rw [hv] at hq
  have two : 2 ≤ sizeLine := by rw [sl_eq]; omega
  generalize decide (ws = vs ∧ a = c ∧ b = d) = r at hq
  generalize led ws a b = l1 at *
  generalize led vs c d = l2 at *
  generalize ws.map rowD = r1 at *
  generalize vs.map rowD = r2 at *
  generalize D.tup [optD a, optD b] = t1 at *
  generalize D.tup [optD c, optD d] = t2 at *
  simp [callD, outR, retU, gSeq, gIf, gRet, gRetN, gSet, gExpr, VL.gNil, gNever, gUnp, gPar, gPar3, eVar, eC, elNil, elCons, eCall, gCall, eCB, gCB, vws_cons, vws_nil, c1, c2, eOp, opD, bOf, bAnd, bOr, bNeg, eAnd, eOr, eNot, eIf, eIs, isN, eIsi, D.ty, isTy, eChain, oLe, oLt, oGt, oGe, oAdd, oSub, fLen, fLenD, D.seq, eTup, gTupD, frzs, eLst, gLstD, allocL, eIx, oIx, fMin, take_self, R.bind, liftE, RS.seq, tName, tTupN, tNames, eMt, gMt, tyD, d_Ledger___eq__, g_Ledger___eq__, eIsCA, hi, eFld, hE1, hL1, hE2, hL2, two, hq]
theorem e_eqo {d : D} (h : othD d = true) (τ : Store) : d_Ledger___eq__ [.d (led ws a b), .d d] τ = .ok (.d (.bl false)) τ := by
  have hi : gIsX' 1 (.d d) τ = .ok (.d (.bl false)) τ := by cases d <;> first | rfl | cases h
  generalize led ws a b = l1
  simp [callD, outR, retU, gSeq, gIf, gRet, gRetN, gSet, gExpr, VL.gNil, gNever, gUnp, gPar, gPar3, eVar, eC, elNil, elCons, eCall, gCall, eCB, gCB, vws_cons, vws_nil, c1, c2, eOp, opD, bOf, bAnd, bOr, bNeg, eAnd, eOr, eNot, eIf, eIs, isN, eIsi, D.ty, isTy, eChain, oLe, oLt, oGt, oGe, oEq, oNe, bNot, oAdd, oSub, fLen, fLenD, D.seq, eTup, gTupD, frzs, eLst, gLstD, allocL, eIx, oIx, fMin, take_self, R.bind, liftE, RS.seq, tName, tTupN, tNames, eMt, gMt, tyD, d_Ledger___eq__, g_Ledger___eq__, eIsCA, hi]
end
end K80

/-! k80: what is due; changed ledgers; compared; shown; heard. -/
namespace K80
open PySem PySem.Spec PySem.NumText PyProof.Rows L2 LamX VL VD
section
variable {ws vs : WS} {a b c : Option Nat} {τ : Store}
/-! ### shown -/
def LEDG : T := [76, 101, 100, 103, 101, 114, 40]
def WTS : T := [32, 119, 101, 105, 103, 104, 116, 115, 41]
theorem log_ok {n : Nat} (h : n < 10 ^ 12) : n.log2 < 1920 := by
  by_cases e : n = 0
  · subst e; decide
  · have : n.log2 < 64 := (Nat.log2_lt e).mpr (Nat.lt_of_lt_of_le h (by decide))
    omega
theorem itx_short {n : Nat} (h : n ≤ 100) : (itx (n : Int)).length ≤ 5 := by
  have := int_text_length_le10 (a := (n : Int)) (k := 4) (by decide) (by omega)
  have e : (itx (n : Int)).length = (toString (n : Int)).length := by
    unfold itx
    rw [← T.len, T.of]
    exact PySem.ofString_length _
  omega
theorem e_repr (hl : vs.length ≤ 100) (τ : Store) : d_Ledger___repr__ [.d (led vs a b)] τ = .ok (.d (.str ((LEDG ++ itx (vs.length : Nat)) ++ WTS))) τ := by
  have hE : gFld 1 [101, 110, 116, 114, 105, 101, 115] (.d (led vs a b)) τ = .ok (.d (.tpl (vs.map rowD))) τ := rfl
  have hlen : (vs.map rowD).length = vs.length := List.length_map _
  have l1 := itx_short hl
  have lg : (vs.length : Nat).log2 < 1920 := log_ok (Nat.lt_of_le_of_lt hl (by decide))
  have z0 : LEDG.length ≤ sizeLine := by rw [sl_eq]; decide
  generalize vs.length = n at *
  have z1 : (LEDG ++ itx (n : Int)).length ≤ sizeLine := by rw [sl_eq, List.length_append]; have : LEDG.length = 7 := rfl; omega
  have z2 : ((LEDG ++ itx (n : Int)) ++ WTS).length ≤ sizeLine := by rw [sl_eq, List.length_append, List.length_append]; have : LEDG.length = 7 := rfl; have : WTS.length = 9 := rfl; omega
  generalize led vs a b = dl at hE
  generalize vs.map rowD = rs at hE hlen
  have hf : eFmt (eCB (c1 fLen) (elCons (eFld 1 [101, 110, 116, 114, 105, 101, 115] (eVar 0)) elNil)) [some (.d dl)] τ = .ok (.d (.str (itx (n : Int)))) τ := by
    simp [callD, outR, retU, gSeq, gIf, gRet, gRetN, gSet, gExpr, VL.gNil, gNever, gUnp, gPar, gPar3, eVar, eC, elNil, elCons, eCall, gCall, eCB, gCB, vws_cons, vws_nil, c1, c2, eOp, opD, bOf, bAnd, bOr, bNeg, eAnd, eOr, eNot, eIf, eIs, isN, eIsi, D.ty, isTy, eChain, oLe, oLt, oGt, oGe, oEq, oNe, bNot, oAdd, oSub, fLen, fLenD, D.seq, eTup, gTupD, frzs, eLst, gLstD, allocL, eIx, oIx, fMin, take_self, R.bind, liftE, RS.seq, tName, tTupN, tNames, eMt, gMt, tyD, eFmt, gFmt, eFld, hE, hlen, lg]
  have hj : eJs [(eC (.str LEDG)), (eFmt (eCB (c1 fLen) (elCons (eFld 1 [101, 110, 116, 114, 105, 101, 115] (eVar 0)) elNil))), (eC (.str WTS))] [some (.d dl)] τ = .ok (.d (.str ((LEDG ++ itx (n : Int)) ++ WTS))) τ := by
    simp only [eJs, jsGo, eC, hf, R.bind_ok, List.nil_append]
    rw [if_pos z0, if_pos z1, if_pos z2]
  have hg : g_Ledger___repr__ = gRet (eJs [(eC (.str LEDG)), (eFmt (eCB (c1 fLen) (elCons (eFld 1 [101, 110, 116, 114, 105, 101, 115] (eVar 0)) elNil))), (eC (.str WTS))]) := rfl
  generalize (LEDG ++ itx (n : Int)) ++ WTS = res at hj
  simp [callD, outR, retU, gSeq, gIf, gRet, gRetN, gSet, gExpr, VL.gNil, gNever, gUnp, gPar, gPar3, eVar, eC, elNil, elCons, eCall, gCall, eCB, gCB, vws_cons, vws_nil, c1, c2, eOp, opD, bOf, bAnd, bOr, bNeg, eAnd, eOr, eNot, eIf, eIs, isN, eIsi, D.ty, isTy, eChain, oLe, oLt, oGt, oGe, oEq, oNe, bNot, oAdd, oSub, fLen, fLenD, D.seq, eTup, gTupD, frzs, eLst, gLstD, allocL, eIx, oIx, fMin, take_self, R.bind, liftE, RS.seq, tName, tTupN, tNames, eMt, gMt, tyD, d_Ledger___repr__, hg, hj]
end
end K80

/-! k80: what is due; changed ledgers; compared; shown; heard. -/
namespace K80
open PySem PySem.Spec PySem.NumText PyProof.Rows L2 LamX VL VD
section
variable {ws vs : WS} {a b c : Option Nat} {τ : Store}
/-! ### heard -/
theorem e_heard {f : EV} {ρ : VL.Env} {t : T} (h : f ρ τ = .exc 0 (xcp t) τ) : eLam 4 gH__law_heard f ρ τ = .ok (.d (.str t)) τ := by
  have two : 2 ≤ sizeLine := by rw [sl_eq]; omega
  unfold xcp PART at h
  simp [callD, outR, retU, gSeq, gIf, gRet, gRetN, gSet, gExpr, VL.gNil, gNever, gUnp, gPar, gPar3, eVar, eC, elNil, elCons, eCall, gCall, eCB, gCB, vws_cons, vws_nil, c1, c2, eOp, opD, bOf, bAnd, bOr, bNeg, eAnd, eOr, eNot, eIf, eIs, isN, eIsi, D.ty, isTy, eChain, oLe, oLt, oGt, oGe, oEq, oNe, bNot, oAdd, oSub, fLen, fLenD, D.seq, eTup, gTupD, frzs, eLst, gLstD, allocL, eIx, oIx, fMin, take_self, R.bind, liftE, RS.seq, tName, tTupN, tNames, eMt, gMt, tyD, eLam, gH__law_heard, gUnp, two, gTryK, eAct, h, eIsX, gIsX, eExF, gExF]
end
end K80

/-! k80: what is due; changed ledgers; compared; shown; heard. -/
namespace K80
open PySem PySem.Spec PySem.NumText PyProof.Rows L2 LamX VL VD
section
variable {ws vs : WS} {a b c : Option Nat} {τ : Store}
/-! ### another cap -/
theorem ok_vs (H : VOk vs) (hv : Asc vs) (ha : capOk a) (hb : capOk b) (τ : Store) : gMakeD 1 d_Ledger___init__ [0, 1, 2, 3] [] [.d (.dct (vs.map kv))] [.d (optD a), .d (optD b)] τ = .ok (.d (led vs a b)) τ := e_mk H (List.Perm.refl _) hv ha hb τ rfl
theorem lk_last (X : Cell) : (τ ++ [X]).set τ.length .dead = τ ++ [.dead] := set_last _ _ _
theorem take_back (X : Cell) : (τ ++ [X]).take τ.length = τ := List.take_left
theorem w_load (H : VOk vs) (hv : Asc vs) (hb : capOk b) (hc : capOk c) (τ : Store) : d_Ledger_with_load [.d (led vs a b), .d (optD c)] τ = .ok (.d (led vs c b)) τ := by
  have w := prop_at (dl := led vs a b) rfl (p_weights (a := a) (b := b) H.nd τ)
  have hL : ∀ τ, gFld 1 [108, 105, 109, 105, 116, 115] (.d (led vs a b)) τ = .ok (.d (.tup [optD a, optD b])) τ := fun _ => rfl
  have h1 : atI [optD a, optD b] 1 = some (optD b) := atI_nat _ 1
  have m := ok_vs H hv hc hb (τ ++ [.dead])
  generalize hdl : led vs c b = dl2 at m
  generalize led vs a b = dl at w hL
  generalize vs.map kv = ks at w m
  simp [callD, outR, retU, gSeq, gIf, gRet, gRetN, gSet, gExpr, VL.gNil, gNever, gUnp, gPar, gPar3, eVar, eC, elNil, elCons, eCall, gCall, eCB, gCB, vws_cons, vws_nil, c1, c2, eOp, opD, bOf, bAnd, bOr, bNeg, eAnd, eOr, eNot, eIf, eIs, isN, eIsi, D.ty, isTy, eChain, oLe, oLt, oGt, oGe, oEq, oNe, bNot, oAdd, oSub, fLen, fLenD, D.seq, eTup, gTupD, frzs, eLst, gLstD, allocL, eIx, oIx, fMin, take_self, R.bind, liftE, RS.seq, tName, tTupN, tNames, eMt, gMt, tyD, d_Ledger_with_load, g_Ledger_with_load, eMakeD, eLk, eProp, w, get_last, lk_last, eFld, hL, h1, m, take_back]
theorem w_rush (H : VOk vs) (hv : Asc vs) (ha : capOk a) (hc : capOk c) (τ : Store) : d_Ledger_with_rush [.d (led vs a b), .d (optD c)] τ = .ok (.d (led vs a c)) τ := by
  have w := prop_at (dl := led vs a b) rfl (p_weights (a := a) (b := b) H.nd τ)
  have hL : ∀ τ, gFld 1 [108, 105, 109, 105, 116, 115] (.d (led vs a b)) τ = .ok (.d (.tup [optD a, optD b])) τ := fun _ => rfl
  have h0 : atI [optD a, optD b] 0 = some (optD a) := atI_nat _ 0
  have m := ok_vs H hv ha hc (τ ++ [.dead])
  generalize hdl : led vs a c = dl2 at m
  generalize led vs a b = dl at w hL
  generalize vs.map kv = ks at w m
  simp [callD, outR, retU, gSeq, gIf, gRet, gRetN, gSet, gExpr, VL.gNil, gNever, gUnp, gPar, gPar3, eVar, eC, elNil, elCons, eCall, gCall, eCB, gCB, vws_cons, vws_nil, c1, c2, eOp, opD, bOf, bAnd, bOr, bNeg, eAnd, eOr, eNot, eIf, eIs, isN, eIsi, D.ty, isTy, eChain, oLe, oLt, oGt, oGe, oEq, oNe, bNot, oAdd, oSub, fLen, fLenD, D.seq, eTup, gTupD, frzs, eLst, gLstD, allocL, eIx, oIx, fMin, take_self, R.bind, liftE, RS.seq, tName, tTupN, tNames, eMt, gMt, tyD, d_Ledger_with_rush, g_Ledger_with_rush, eMakeD, eLk, eProp, w, get_last, lk_last, eFld, hL, h0, m, take_back]
/-- x.m(..) of a ledger -/
theorem meth_at {n : Nat} {m : T} {os : List Nat} {F : List U → Store → R U} {x : U} {k j : Nat} {fs fk : EL} {fo : EV} {ρ : VL.Env} {us wss : List U} {r : R U} (hm : m ≠ ENT ∧ m ≠ LIM) (ho : fo ρ τ = .ok (.d (led vs a b)) τ) (h1 : fs ρ τ = .ok us τ) (h2 : fk ρ τ = .ok wss τ) (hl : us.length = k ∧ wss.length = j)
    (hF : F (pickL os (((.d (led vs a b) :: us) ++ wss) ++ [])) τ = r) : eMeth 1 n m os [] F k j fo fs fk ρ τ = r := by
  unfold eMeth
  rw [ho, R.bind_ok]
  have e : (vw τ (.d (led vs a b))) = some (.ins 1 [(ENT, .tpl (vs.map rowD)), (LIM, .tup [optD a, optD b])]) := rfl
  rw [e]
  have lk : ([(ENT, D.tpl (vs.map rowD)), (LIM, .tup [optD a, optD b])] : List (T × D)).lookup m = none := by
    simp only [List.lookup_cons, List.lookup_nil]
    rw [show (m == ENT) = false by simp [hm.1], show (m == LIM) = false by simp [hm.2]]
  simp only
  rw [if_pos ⟨trivial, lk⟩, h1, R.bind_ok, h2, R.bind_ok]
  unfold gMeth
  rw [if_pos hl]
  exact hF
end
end K80

/-! k80: another cap that is none. -/
namespace K80
open PySem PySem.Spec PySem.NumText PyProof.Rows L2 LamX VL VD
section
variable {ws vs : WS} {a b c : Option Nat} {τ : Store}
theorem mk_load (H : VOk vs) {d : D} (h : NoCap d) (y : U) (τ : Store) : gMakeD 1 d_Ledger___init__ [0, 1, 2, 3] [] [.d (.dct (vs.map kv))] [.d d, y] τ = .exc 0 (xcp LOAD) τ := by
  have e : pickL [0, 1, 2, 3] (((.loc τ.length :: [U.d (.dct (vs.map kv))]) ++ [.d d, y]) ++ ([] : List D).map U.d) = [.loc τ.length, .d (.dct (vs.map kv)), .d d, y] := rfl
  have r := r_load H h (y := y) τ
  unfold gMakeD
  rw [e, r]
  simp only [take_back]
theorem mk_rush (H : VOk vs) (ha : capOk a) {d : D} (h : NoCap d) (τ : Store) : gMakeD 1 d_Ledger___init__ [0, 1, 2, 3] [] [.d (.dct (vs.map kv))] [.d (optD a), .d d] τ = .exc 0 (xcp RUSH) τ := by
  have e : pickL [0, 1, 2, 3] (((.loc τ.length :: [U.d (.dct (vs.map kv))]) ++ [.d (optD a), .d d]) ++ ([] : List D).map U.d) = [.loc τ.length, .d (.dct (vs.map kv)), .d (optD a), .d d] := rfl
  have r := r_rush H ha h τ
  unfold gMakeD
  rw [e, r]
  simp only [take_back]
theorem mk_rushS (H : VOk vs) (ha : capOk a) {d : D} (h : NoCap d) (τ : Store) : gMakeD 1 d_Ledger___init__ [0, 1, 3, 2] [] [.d (.dct (vs.map kv))] [.d d, .d (optD a)] τ = .exc 0 (xcp RUSH) τ := by
  have e : pickL [0, 1, 3, 2] (((.loc τ.length :: [U.d (.dct (vs.map kv))]) ++ [.d d, .d (optD a)]) ++ ([] : List D).map U.d) = [.loc τ.length, .d (.dct (vs.map kv)), .d (optD a), .d d] := rfl
  have r := r_rush H ha h τ
  unfold gMakeD
  rw [e, r]
  simp only [take_back]
theorem mk_loadS (H : VOk vs) {d : D} (h : NoCap d) (y : U) (τ : Store) : gMakeD 1 d_Ledger___init__ [0, 1, 3, 2] [] [.d (.dct (vs.map kv))] [y, .d d] τ = .exc 0 (xcp LOAD) τ := by
  have e : pickL [0, 1, 3, 2] (((.loc τ.length :: [U.d (.dct (vs.map kv))]) ++ [y, .d d]) ++ ([] : List D).map U.d) = [.loc τ.length, .d (.dct (vs.map kv)), .d d, y] := rfl
  have r := r_load H h (y := y) τ
  unfold gMakeD
  rw [e, r]
  simp only [take_back]
theorem mk_wts {d : D} (h : NoW d) (x y : U) (τ : Store) : gMakeD 1 d_Ledger___init__ [0, 1, 2, 3] [] [.d d] [x, y] τ = .exc 0 (xcp WEIGHTS) τ := by
  have e : pickL [0, 1, 2, 3] (((.loc τ.length :: [U.d d]) ++ [x, y]) ++ ([] : List D).map U.d) = [.loc τ.length, .d d, x, y] := rfl
  have r := r_weights h (x := x) (y := y) τ
  unfold gMakeD
  rw [e, r]
  simp only [take_back]
end
end K80

/-! k80: another cap that is none. -/
namespace K80
open PySem PySem.Spec PySem.NumText PyProof.Rows L2 LamX VL VD
section
variable {ws vs : WS} {a b c : Option Nat} {τ : Store}
theorem x_load (H : VOk vs) {d : D} (h : NoCap d) (τ : Store) : d_Ledger_with_load [.d (led vs a b), .d d] τ = .exc 0 (xcp LOAD) τ := by
  have w := prop_at (dl := led vs a b) rfl (p_weights (a := a) (b := b) H.nd τ)
  have hL : ∀ τ, gFld 1 [108, 105, 109, 105, 116, 115] (.d (led vs a b)) τ = .ok (.d (.tup [optD a, optD b])) τ := fun _ => rfl
  have h1 : atI [optD a, optD b] 1 = some (optD b) := atI_nat _ 1
  have m := mk_load H h (.d (optD b)) (τ ++ [.dead])
  generalize xcp LOAD = xl at m
  generalize led vs a b = dl at w hL
  generalize vs.map kv = ks at w m
  simp [callD, outR, retU, gSeq, gIf, gRet, gRetN, gSet, gExpr, VL.gNil, gNever, gUnp, gPar, gPar3, eVar, eC, elNil, elCons, eCall, gCall, eCB, gCB, vws_cons, vws_nil, c1, c2, eOp, opD, bOf, bAnd, bOr, bNeg, eAnd, eOr, eNot, eIf, eIs, isN, eIsi, D.ty, isTy, eChain, oLe, oLt, oGt, oGe, oEq, oNe, bNot, oAdd, oSub, fLen, fLenD, D.seq, eTup, gTupD, frzs, eLst, gLstD, allocL, eIx, oIx, fMin, take_self, R.bind, liftE, RS.seq, tName, tTupN, tNames, eMt, gMt, tyD, d_Ledger_with_load, g_Ledger_with_load, eMakeD, eLk, eProp, w, get_last, lk_last, eFld, hL, h1]
  rw [m]
  simp only [take_back]
theorem x_rush (H : VOk vs) (ha : capOk a) {d : D} (h : NoCap d) (τ : Store) : d_Ledger_with_rush [.d (led vs a b), .d d] τ = .exc 0 (xcp RUSH) τ := by
  have w := prop_at (dl := led vs a b) rfl (p_weights (a := a) (b := b) H.nd τ)
  have hL : ∀ τ, gFld 1 [108, 105, 109, 105, 116, 115] (.d (led vs a b)) τ = .ok (.d (.tup [optD a, optD b])) τ := fun _ => rfl
  have h0 : atI [optD a, optD b] 0 = some (optD a) := atI_nat _ 0
  have m := mk_rush H ha h (τ ++ [.dead])
  generalize xcp RUSH = xl at m
  generalize led vs a b = dl at w hL
  generalize vs.map kv = ks at w m
  simp [callD, outR, retU, gSeq, gIf, gRet, gRetN, gSet, gExpr, VL.gNil, gNever, gUnp, gPar, gPar3, eVar, eC, elNil, elCons, eCall, gCall, eCB, gCB, vws_cons, vws_nil, c1, c2, eOp, opD, bOf, bAnd, bOr, bNeg, eAnd, eOr, eNot, eIf, eIs, isN, eIsi, D.ty, isTy, eChain, oLe, oLt, oGt, oGe, oEq, oNe, bNot, oAdd, oSub, fLen, fLenD, D.seq, eTup, gTupD, frzs, eLst, gLstD, allocL, eIx, oIx, fMin, take_self, R.bind, liftE, RS.seq, tName, tTupN, tNames, eMt, gMt, tyD, d_Ledger_with_rush, g_Ledger_with_rush, eMakeD, eLk, eProp, w, get_last, lk_last, eFld, hL, h0]
  rw [m]
  simp only [take_back]
end
end K80

/-! k80: the weights and caps that the law draws. -/
namespace K80
open PySem PySem.Spec PySem.NumText PyProof.Rows L2 LamX VL VD
section
variable {ns : List Int} {τ : Store} {p a m : Nat} {c : Int}
theorem e_draw (hp : τ[p]? = some (PenC ns a c)) (h1 : 1 ≤ m) (h2 : m ≤ 100000) (ha : a ≤ 100000) :
    ∃ (i a' : Nat) (c' : Int), d__law_draw [.loc p, .d (.int m)] τ = .ok (.d (.int i)) (τ.set p (PenC ns a' c')) ∧ i < m ∧ a' ≤ a + 1 := VD.e_draw DK0 hp h1 h2 ha
theorem e_pick {ds : List D} (hp : τ[p]? = some (PenC ns a c)) (h1 : 1 ≤ ds.length) (h2 : ds.length ≤ 100000) (ha : a ≤ 100000) :
    ∃ (x : D) (a' : Nat) (c' : Int), d__law_pick [.loc p, .d (.lst ds)] τ = .ok (.d x) (τ.set p (PenC ns a' c')) ∧ x ∈ ds ∧ a' ≤ a + 1 := VD.e_pick DK0 hp h1 h2 ha
/-- the store of the drawing of weights -/
def S (τ : Store) (p : Nat) (X : Cell) (l : List D) (w : List (Ky × D)) : Store := τ.set p X ++ [.lst l, .dct w]
section
variable {X Y : Cell} {l l' : List D} {w w' : List (Ky × D)}
theorem S_pen (h : p < τ.length) : (S τ p X l w)[p]? = some X := by
  unfold S
  rw [List.getElem?_append_left (by simpa using h), List.getElem?_set_self h]
theorem S_setpen (h : p < τ.length) : (S τ p X l w).set p Y = S τ p Y l w := by
  unfold S
  rw [List.set_append_left _ _ (by simpa using h), List.set_set]
theorem S_left : (S τ p X l w)[τ.length]? = some (.lst l) := by
  unfold S
  rw [List.getElem?_append_right (by simp)]
  simp
theorem S_found : (S τ p X l w)[τ.length + 1]? = some (.dct w) := by
  unfold S
  rw [List.getElem?_append_right (by simp)]
  simp
theorem S_setleft : (S τ p X l w).set τ.length (.lst l') = S τ p X l' w := by
  unfold S
  rw [List.set_append_right _ _ (by simp)]
  simp
theorem S_setfound : (S τ p X l w).set (τ.length + 1) (.dct w') = S τ p X l w' := by
  unfold S
  rw [List.set_append_right _ _ (by simp)]
  simp
theorem S_lock : (S τ p X l w).set (τ.length + 1) .dead = τ.set p X ++ [.lst l, .dead] := by
  unfold S
  rw [List.set_append_right _ _ (by simp)]
  simp
end
def gW : GS := (gSeq (gSet 4 (ePopA (eVar 1) (eCall 2 d__law_draw (elCons (eVar 0) (elCons (eCB (c1 fLen) (elCons (eVar 1) elNil)) elNil)))))
  (gPutX (eVar 2) (eVar 4) (eCall 2 d__law_pick (elCons (eVar 0) (elCons (eLst false (elCons (eC (.int 0)) (elCons (eC (.int 1)) (elCons (eC (.int 2)) (elCons (eC (.int 7)) (elCons (eOp oPow (eC (.int 10)) (eC (.int 9))) (elCons (eCall 2 d__law_draw (elCons (eVar 0) (elCons (eC (.int 1000)) elNil))) elNil))))))) elNil)))))
theorem g_weights_eq : g__law_weights = (gSeq (gPar 1 2 (elCons (eLst true (elCons (eC (.str [97])) (elCons (eC (.str [98])) (elCons (eC (.str [115, 104, 111, 114, 101, 115])) (elCons (eC (.str [122, 122, 122, 122, 122, 122, 122, 122])) (elCons (eC (.str [109])) (elCons (eC (.str [107])) (elCons (eC (.str [97, 98])) (elCons (eC (.str [97, 97])) elNil))))))))) (elCons eDN elNil)))
  (gSeq (gFor (dRange1 (elCons (eCall 2 d__law_draw (elCons (eVar 0) (elCons (eC (.int 9)) elNil))) elNil)) (tName 3) gW)
  (gRet (eLk (eVar 2))))) := rfl
theorem erase_perm {α : Type} : ∀ (l : List α) (i : Nat) (h : i < l.length), (l[i] :: l.eraseIdx i).Perm l
  | x :: l, 0, _ => List.Perm.refl _
  | x :: l, i + 1, h => by
    have h' : i < l.length := by simpa using h
    have ih := erase_perm l i h'
    show (l[i]'h' :: x :: l.eraseIdx i).Perm (x :: l)
    exact (List.Perm.swap x (l[i]'h') (l.eraseIdx i)).trans (List.Perm.cons x ih)
theorem map_erase {α β : Type} (f : α → β) : ∀ (l : List α) (i : Nat), (l.map f).eraseIdx i = (l.eraseIdx i).map f
  | [], _ => rfl
  | x :: l, 0 => rfl
  | x :: l, i + 1 => by
    show f x :: (l.map f).eraseIdx i = f x :: (l.eraseIdx i).map f
    rw [map_erase f l i]
def NAMES : List T := [[97], [98], [115, 104, 111, 114, 101, 115], [122, 122, 122, 122, 122, 122, 122, 122], [109], [107], [97, 98], [97, 97]]
structure WInv (lft : List T) (ws : WS) : Prop where
  men : (∀ t ∈ lft, t ∈ NAMES) ∧ ∀ q ∈ ws, q.1 ∈ NAMES
  own : ∀ t ∈ lft, isOwn t = true
  ok : ∀ q ∈ ws, isOwn q.1 = true ∧ q.2 ≤ 1000000000
  nd : (lft ++ ws.map (·.1)).Nodup
theorem WInv.step {lft : List T} {ws : WS} (I : WInv lft ws) {i v : Nat} (hi : i < lft.length) (hv : v ≤ 1000000000) : WInv (lft.eraseIdx i) (ws ++ [(lft[i], v)]) := by
  have sub := List.eraseIdx_sublist lft i
  refine ⟨⟨fun t m => I.men.1 t (sub.subset m), fun q m => ?_⟩, fun t m => I.own t (sub.subset m), fun q m => ?_, ?_⟩
  · rcases List.mem_append.mp m with m | m
    · exact I.men.2 q m
    · rw [List.mem_singleton.mp m]; exact I.men.1 _ (List.getElem_mem hi)
  · rcases List.mem_append.mp m with m | m
    · exact I.ok q m
    · rw [List.mem_singleton.mp m]; exact ⟨I.own _ (List.getElem_mem hi), hv⟩
  · have pm : (lft.eraseIdx i ++ (ws ++ [(lft[i], v)]).map (·.1)).Perm (lft ++ ws.map (·.1)) := by
      have p1 : (lft[i] :: lft.eraseIdx i).Perm lft := erase_perm lft i hi
      rw [List.map_append, ← List.append_assoc]
      refine (List.perm_append_comm).trans ?_
      show (lft[i] :: (lft.eraseIdx i ++ ws.map (·.1))).Perm _
      exact (p1.append_right _)
    exact pm.nodup_iff.mpr I.nd
theorem WInv.fresh {lft : List T} {ws : WS} (I : WInv lft ws) {i : Nat} (hi : i < lft.length) : ∀ q ∈ ws, q.1 ≠ lft[i] := fun q m z => by
  have := (List.nodup_append.mp I.nd).2.2 lft[i] (List.getElem_mem hi) q.1 (List.mem_map_of_mem m)
  exact this z.symm
theorem e_turnW {lft : List T} {ws : WS} (hp : p < τ.length) (I : WInv lft ws) (hl : 1 ≤ lft.length) (h8 : lft.length ≤ 8) (hw : ws.length ≤ 8) (ha : a + 3 ≤ 100000) (x3 x4 : Option U) :
    ∃ (i v a' : Nat) (c' : Int) (hi : i < lft.length), gW [some (.loc p), some (.loc τ.length), some (.loc (τ.length + 1)), x3, x4] (S τ p (PenC ns a c) (lft.map .str) (ws.map kv)) =
      .nx [some (.loc p), some (.loc τ.length), some (.loc (τ.length + 1)), x3, some (.d (.str lft[i]))] (S τ p (PenC ns a' c') ((lft.eraseIdx i).map .str) ((ws ++ [(lft[i], v)]).map kv)) ∧ v ≤ 1000000000 ∧ a' ≤ a + 3 := by
  obtain ⟨i, a1, c1', q1, hi, b1⟩ := e_draw (m := lft.length) (S_pen (X := PenC ns a c) (l := lft.map .str) (w := ws.map kv) hp) hl (by omega) (by omega)
  rw [S_setpen hp] at q1
  obtain ⟨j, a2, c2', q2, hj, b2⟩ := e_draw (m := 1000) (S_pen (X := PenC ns a1 c1') (l := (lft.eraseIdx i).map .str) (w := ws.map kv) hp) (by omega) (by omega) (by omega)
  rw [S_setpen hp] at q2
  have q2 : d__law_draw [.loc p, .d (.int 1000)] (S τ p (PenC ns a1 c1') ((lft.eraseIdx i).map .str) (ws.map kv)) = .ok (.d (.int j)) (S τ p (PenC ns a2 c2') ((lft.eraseIdx i).map .str) (ws.map kv)) := q2
  obtain ⟨x, a3, c3', q3, hx, b3⟩ := e_pick (ds := [.int 0, .int 1, .int 2, .int 7, .int 1000000000, .int j]) (S_pen (X := PenC ns a2 c2') (l := (lft.eraseIdx i).map .str) (w := ws.map kv) hp) (by simp) (by simp) (by omega)
  rw [S_setpen hp] at q3
  obtain ⟨v, hv, hv2⟩ : ∃ v : Nat, x = .int v ∧ v ≤ 1000000000 := by
    simp only [List.mem_cons, List.not_mem_nil, or_false] at hx
    rcases hx with h | h | h | h | h | h
    · exact ⟨0, h, by omega⟩
    · exact ⟨1, h, by omega⟩
    · exact ⟨2, h, by omega⟩
    · exact ⟨7, h, by omega⟩
    · exact ⟨1000000000, h, by omega⟩
    · exact ⟨j, h, by omega⟩
  subst hv
  refine ⟨i, v, a3, c3', hi, ?_, hv2, by omega⟩
  have hd := dput_new (acc := ws) (p := (lft[i], v)) (I.fresh hi)
  simp only at hd
  have hv1 : ∀ X w, vws (S τ p X (lft.map .str) w) [.loc τ.length] = some [.lst (lft.map .str)] := fun X w => by
    show (match vw (S τ p X (lft.map .str) w) (.loc τ.length), some ([] : List D) with
      | some d, some ds => some (d :: ds)
      | _, _ => none) = _
    have : vw (S τ p X (lft.map .str) w) (.loc τ.length) = some (.lst (lft.map .str)) := by
      unfold vw
      simp only [S_left]
    rw [this]
  have hix : ixN lft.length (i : Int) = some i := by
    unfold ixN
    rw [if_pos (by omega), if_pos (by omega)]
    rfl
  have hg : (lft.map D.str)[i]? = some (.str lft[i]) := by rw [List.getElem?_map, List.getElem?_eq_getElem hi]; rfl
  have her : (lft.map D.str).eraseIdx i = (lft.eraseIdx i).map .str := map_erase _ _ _
  have hs8 : lft.length ≤ sizeLine := by rw [sl_eq]; omega
  have hw8 : (ws.map kv).length < sizeLine := by rw [sl_eq, List.length_map]; omega
  have hll : (lft.map D.str).length = lft.length := List.length_map _
  have hlenI : ((lft.map D.str).length : Int) = (lft.length : Int) := by rw [hll]
  have six : 6 ≤ sizeLine := by rw [sl_eq]; omega
  have q1' : d__law_draw [.loc p, .d (.int ((lft.map D.str).length : Int))] (S τ p (PenC ns a c) (lft.map .str) (ws.map kv)) = .ok (.d (.int i)) (S τ p (PenC ns a1 c1') (lft.map .str) (ws.map kv)) := by rw [hlenI]; exact q1
  generalize (ws.map kv) = wk at *
  generalize ((ws ++ [(lft[i], v)]).map kv) = wk' at *
  generalize (lft.eraseIdx i).map D.str = l2 at *
  generalize hl1 : lft.map D.str = l1 at *
  generalize lft[i] = nm at *
  have hix' : ixN l1.length (i : Int) = some i := by rw [hll]; exact hix
  have hs8' : l1.length ≤ sizeLine := by rw [hll]; exact hs8
  simp [callD, outR, retU, gSeq, gIf, gRet, gRetN, gSet, gExpr, VL.gNil, gNever, gUnp, gPar, gPar3, eVar, eC, elNil, elCons, eCall, gCall, eCB, gCB, vws_cons, vws_nil, c1, c2, eOp, opD, bOf, bAnd, bOr, bNeg, eAnd, eOr, eNot, eIf, eIs, isN, eIsi, D.ty, isTy, eChain, oLe, oLt, oGt, oGe, oEq, oNe, bNot, oAdd, oSub, fLen, fLenD, D.seq, eTup, gTupD, frzs, eLst, gLstD, allocL, eIx, oIx, fMin, take_self, R.bind, liftE, RS.seq, tName, tTupN, tNames, eMt, gMt, tyD, gW, ePopA, S_left, hv1, q1', gPopA, hix', hg, hs8', her, S_setleft, gPutX, frz, q2, q3, oPow, six, putX, D.ky, S_found, hd, hw8, S_setfound]
theorem loopW (hp : p < τ.length) : ∀ (r : Nat) (lo : Int) (lft : List T) (ws : WS) (a : Nat) (c : Int) (x3 x4 : Option U), r ≤ lft.length → lft.length + ws.length ≤ 8 → WInv lft ws → a + 3 * r ≤ 100000 →
    ∃ (ws' : WS) (a' : Nat) (c' : Int) (l' : List D) (y3 y4 : Option U), forGo (tName 3) gW (rngD lo r) [some (.loc p), some (.loc τ.length), some (.loc (τ.length + 1)), x3, x4] (S τ p (PenC ns a c) (lft.map .str) (ws.map kv)) =
      .nx [some (.loc p), some (.loc τ.length), some (.loc (τ.length + 1)), y3, y4] (S τ p (PenC ns a' c') l' (ws'.map kv)) ∧ a' ≤ a + 3 * r ∧ ws'.length ≤ 8 ∧ (∀ q ∈ ws', isOwn q.1 = true ∧ q.2 ≤ 1000000000) ∧ (ws'.map (·.1)).Nodup ∧ ∀ q ∈ ws', q.1 ∈ NAMES
  | 0, lo, lft, ws, a, c, x3, x4, hr, h8, I, ha => ⟨ws, a, c, lft.map .str, x3, x4, rfl, by omega, by omega, I.ok, (List.nodup_append.mp I.nd).2.1, I.men.2⟩
  | r + 1, lo, lft, ws, a, c, x3, x4, hr, h8, I, ha => by
    obtain ⟨i, v, a1, c1', hi, e, hv, b1⟩ := e_turnW (ns := ns) (c := c) hp I (by omega) (by omega) (by omega) (a := a) (by omega) (some (.d (.int lo))) x4
    have hel : (lft.eraseIdx i).length = lft.length - 1 := by rw [List.length_eraseIdx]; simp [hi]
    obtain ⟨ws', a', c', l', y3, y4, e2, b2, q1, q2, q3⟩ := loopW hp r (lo + 1) (lft.eraseIdx i) (ws ++ [(lft[i], v)]) a1 c1' (some (.d (.int lo))) (some (.d (.str lft[i]))) (by omega) (by simp; omega) (I.step hi hv) (by omega)
    refine ⟨ws', a', c', l', y3, y4, ?_, by omega, q1, q2, q3⟩
    have u : forGo (tName 3) gW (rngD lo (r + 1)) [some (.loc p), some (.loc τ.length), some (.loc (τ.length + 1)), x3, x4] (S τ p (PenC ns a c) (lft.map .str) (ws.map kv)) =
        match gW [some (.loc p), some (.loc τ.length), some (.loc (τ.length + 1)), some (.d (.int lo)), x4] (S τ p (PenC ns a c) (lft.map .str) (ws.map kv)) with
        | .nx ρ2 τ2 => forGo (tName 3) gW (rngD (lo + 1) r) ρ2 τ2
        | .ct ρ2 τ2 => forGo (tName 3) gW (rngD (lo + 1) r) ρ2 τ2
        | .bk ρ2 τ2 => .nx ρ2 τ2
        | r => r := rfl
    rw [u, e]
    exact e2
theorem names_ok : WInv NAMES [] := ⟨⟨fun _ h => h, fun q m => by simp at m⟩, by decide, fun q m => by simp at m, by decide⟩
theorem e_wdraw (hp : τ[p]? = some (PenC ns a c)) (ha : a + 30 ≤ 100000) :
    ∃ (ws : WS) (a' : Nat) (c' : Int), d__law_weights [.loc p] τ = .ok (.d (.dct (ws.map kv))) (τ.set p (PenC ns a' c')) ∧ a' ≤ a + 25 ∧ VOk ws ∧ ∀ q ∈ ws, q.1 ∈ NAMES := by
  have hlt : p < τ.length := (List.getElem?_eq_some_iff.mp hp).1
  have hself : τ.set p (PenC ns a c) = τ := by
    obtain ⟨h, e⟩ := List.getElem?_eq_some_iff.mp hp
    rw [← e]
    exact List.set_getElem_self h
  have hS : ∀ l : List D, τ ++ [.lst l, .dct []] = S τ p (PenC ns a c) l [] := fun l => by unfold S; rw [hself]
  obtain ⟨n, a1, c1', q1, hn, b1⟩ := e_draw (m := 9) (S_pen (X := PenC ns a c) (l := NAMES.map .str) (w := []) hlt) (by omega) (by omega) (by omega)
  rw [S_setpen hlt] at q1
  have q1 : d__law_draw [.loc p, .d (.int 9)] (S τ p (PenC ns a c) (NAMES.map .str) []) = .ok (.d (.int n)) (S τ p (PenC ns a1 c1') (NAMES.map .str) []) := q1
  obtain ⟨ws, a', c', l', y3, y4, e2, b2, f1, f2, f3⟩ := loopW (ns := ns) hlt n 0 NAMES [] a1 c1' none none (by show n ≤ 8; omega) (by decide) names_ok (by omega)
  obtain ⟨f3, f4⟩ := f3
  refine ⟨ws, a', c', ?_, by omega, ⟨f1, f2, f3⟩, f4⟩
  have hr : -4611686018427387904 ≤ (n : Int) ∧ (n : Int) < 4611686018427387904 := by omega
  have ht : ∀ (X : Cell) (l : List D), (τ.set p X ++ [Cell.lst l, Cell.dead]).take τ.length = τ.set p X := fun X l => List.take_left' (by simp)
  have e2 : forGo (tName 3) gW (rngD 0 n) [some (.loc p), some (.loc τ.length), some (.loc (τ.length + 1)), none, none] (S τ p (PenC ns a1 c1') (NAMES.map .str) []) = .nx [some (.loc p), some (.loc τ.length), some (.loc (τ.length + 1)), y3, y4] (S τ p (PenC ns a' c') l' (ws.map kv)) := e2
  have eight : 8 ≤ sizeLine := by rw [sl_eq]; omega
  have hS' := hS (NAMES.map .str)
  unfold NAMES at hS' q1 e2
  simp only [List.map_cons, List.map_nil] at hS' q1 e2
  generalize ws.map kv = wk at *
  simp [callD, outR, retU, gSeq, gIf, gRet, gRetN, gSet, gExpr, VL.gNil, gNever, gUnp, gPar, gPar3, eVar, eC, elNil, elCons, eCall, gCall, eCB, gCB, vws_cons, vws_nil, c1, c2, eOp, opD, bOf, bAnd, bOr, bNeg, eAnd, eOr, eNot, eIf, eIs, isN, eIsi, D.ty, isTy, eChain, oLe, oLt, oGt, oGe, oEq, oNe, bNot, oAdd, oSub, fLen, fLenD, D.seq, eTup, gTupD, frzs, eLst, gLstD, allocL, eIx, oIx, fMin, take_self, R.bind, liftE, RS.seq, tName, tTupN, tNames, eMt, gMt, tyD, d__law_weights, g_weights_eq, eDN, allocD, eight, hS', gFor, dRange1, gRange1, q1, hr, e2, eLk, S_found, S_lock, ht]
/-- a drawn cap -/
theorem e_cdraw (hp : τ[p]? = some (PenC ns a c)) (ha : a + 2 ≤ 100000) :
    ∃ (o : Option Nat) (a' : Nat) (c' : Int), d__law_cap [.loc p] τ = .ok (.d (optD o)) (τ.set p (PenC ns a' c')) ∧ a' ≤ a + 2 ∧ capOk o := by
  have hlt : p < τ.length := (List.getElem?_eq_some_iff.mp hp).1
  obtain ⟨n, a1, c1', q1, hn, b1⟩ := e_draw (m := 100) hp (by omega) (by omega) (by omega)
  have q1 : d__law_draw [.loc p, .d (.int 100)] τ = .ok (.d (.int n)) (τ.set p (PenC ns a1 c1')) := q1
  obtain ⟨x, a', c', q2, hx, b2⟩ := e_pick (τ := τ.set p (PenC ns a1 c1')) (ds := [.non, .int 0, .int 1, .int 10000000000, .int n]) (List.getElem?_set_self hlt) (by simp) (by simp) (by omega)
  rw [List.set_set] at q2
  obtain ⟨o, ho, hk⟩ : ∃ o, x = optD o ∧ capOk o := by
    simp only [List.mem_cons, List.not_mem_nil, or_false] at hx
    rcases hx with h | h | h | h | h
    · exact ⟨none, h, trivial⟩
    · exact ⟨some 0, h, by show (0 : Nat) ≤ _; omega⟩
    · exact ⟨some 1, h, by show (1 : Nat) ≤ _; omega⟩
    · exact ⟨some 10000000000, h, by show (10000000000 : Nat) ≤ _; omega⟩
    · exact ⟨some n, h, by show n ≤ _; omega⟩
  subst ho
  refine ⟨o, a', c', ?_, by omega, hk⟩
  have five : 5 ≤ sizeLine := by rw [sl_eq]; omega
  have ht : ∀ X : Cell, (τ.set p X).take τ.length = τ.set p X := fun X => List.take_of_length_le (by simp)
  simp [callD, outR, retU, gSeq, gIf, gRet, gRetN, gSet, gExpr, VL.gNil, gNever, gUnp, gPar, gPar3, eVar, eC, elNil, elCons, eCall, gCall, eCB, gCB, vws_cons, vws_nil, c1, c2, eOp, opD, bOf, bAnd, bOr, bNeg, eAnd, eOr, eNot, eIf, eIs, isN, eIsi, D.ty, isTy, eChain, oLe, oLt, oGt, oGe, oEq, oNe, bNot, oAdd, oSub, fLen, fLenD, D.seq, eTup, gTupD, frzs, eLst, gLstD, allocL, eIx, oIx, fMin, take_self, R.bind, liftE, RS.seq, tName, tTupN, tNames, eMt, gMt, tyD, d__law_cap, g__law_cap, q1, q2, oPow, five, ht]
end
end K80

/-! k80: drawn weights that are none. -/
namespace K80
open PySem PySem.Spec PySem.NumText PyProof.Rows L2 LamX VL VD
theorem dput_keys (kvs : List (Ky × D)) (k : Ky) (x : D) : (dput kvs k x).map (·.1) = if (kvs.any fun p => decide (p.1 = k)) = true then kvs.map (·.1) else kvs.map (·.1) ++ [k] := by
  unfold dput
  split
  · rw [List.map_map]
    refine List.map_congr_left fun p m => ?_
    show (if p.1 = k then (p.1, x) else p).1 = p.1
    split <;> rfl
  · rw [List.map_append]; rfl
theorem dput_mem (kvs : List (Ky × D)) (k : Ky) (x : D) : (k, x) ∈ dput kvs k x := by
  unfold dput
  split
  · rename_i h
    obtain ⟨p, m, e⟩ := List.any_eq_true.mp h
    have e := of_decide_eq_true e
    refine List.mem_map.mpr ⟨p, m, ?_⟩
    rw [if_pos e, e]
  · exact List.mem_append_right _ (List.mem_singleton.mpr rfl)
theorem dput_all {kvs : List (Ky × D)} {k : Ky} {x : D} : ∀ p ∈ dput kvs k x, p ∈ kvs ∨ p = (k, x) := by
  intro p m
  unfold dput at m
  split at m
  · obtain ⟨q, hq, rfl⟩ := List.mem_map.mp m
    by_cases e : q.1 = k
    · rw [if_pos e, e]; exact .inr rfl
    · rw [if_neg e]; exact .inl hq
  · rcases List.mem_append.mp m with m | m
    · exact .inl m
    · exact .inr (List.mem_singleton.mp m)
theorem dput_len (kvs : List (Ky × D)) (k : Ky) (x : D) : (dput kvs k x).length ≤ kvs.length + 1 := by
  have h := congrArg List.length (dput_keys kvs k x)
  rw [List.length_map] at h
  rw [h]
  split <;> simp
theorem fin_put {kvs : List (Ky × D)} (H : Fin kvs) (hl : kvs.length ≤ 50) {k : Ky} {x : D} (hk : KeyD k.d) (hx : Sim x) : Fin (dput kvs k x) := by
  refine ⟨?_, fun p m => ?_, by have := dput_len kvs k x; omega⟩
  · rw [dput_keys]
    split
    · exact H.nd
    · rename_i h
      refine List.nodup_append.mpr ⟨H.nd, by simp, fun a ha b hb => ?_⟩
      rw [List.mem_singleton.mp hb]
      intro e
      obtain ⟨p, m, e2⟩ := List.mem_map.mp ha
      exact h (List.any_eq_true.mpr ⟨p, m, decide_eq_true (e2.trans e)⟩)
  · rcases dput_all p m with m | e
    · exact H.ok p m
    · rw [e]; exact ⟨hk, hx⟩
theorem now_of {kvs : List (Ky × D)} (H : Fin kvs) {p : Ky × D} (m : p ∈ kvs) (h : ent p = false) : NoW (.dct kvs) := fun τ => by
  rw [e_weights H]
  have : kvs.all ent = false := by
    rw [Bool.eq_false_iff]
    intro z
    have := List.all_eq_true.mp z p m
    rw [h] at this
    cases this
  rw [this, Bool.and_false]
theorem now_put {kvs : List (Ky × D)} (H : Fin kvs) (hl : kvs.length ≤ 50) {k : Ky} {x : D} (hk : KeyD k.d) (hx : Sim x) (h : ent (k, x) = false) : NoW (.dct (dput kvs k x)) := now_of (fin_put H hl hk hx) (dput_mem _ _ _) h
section
variable {ns : List Int} {τ : Store} {p a : Nat} {c : Int} {ws : WS}
/-- the store of the drawing -/
def S2 (τ : Store) (p : Nat) (X : Cell) (w : List (Ky × D)) : Store := τ.set p X ++ [.dct w]
section
variable {X Y : Cell} {w w' : List (Ky × D)}
theorem S2_pen (h : p < τ.length) : (S2 τ p X w)[p]? = some X := by
  unfold S2
  rw [List.getElem?_append_left (by simpa using h), List.getElem?_set_self h]
theorem S2_setpen (h : p < τ.length) : (S2 τ p X w).set p Y = S2 τ p Y w := by
  unfold S2
  rw [List.set_append_left _ _ (by simpa using h), List.set_set]
theorem S2_found : (S2 τ p X w)[τ.length]? = some (.dct w) := by
  unfold S2
  rw [List.getElem?_append_right (by simp)]
  simp
theorem S2_set (Z : Cell) : (S2 τ p X w).set τ.length Z = τ.set p X ++ [Z] := by
  unfold S2
  rw [List.set_append_right _ _ (by simp)]
  simp
theorem S2_take (Z : Cell) : (τ.set p X ++ [Z]).take τ.length = τ.set p X := List.take_left' (by simp)
end
def LA : List D := [.non, .lst [], .tup [], .str [97], .int 5, .bl true, .lst [.tup [.str [97], .int 1]]]
def LB : List D := [.str [], .str [65], .str [110, 105, 110, 101, 115, 105, 103, 110, 115], .str [115, 104, 111, 114, 101], .int 3, .non, .tup [.str [97]], .str [97, 49], .str [97, 32, 98]]
def LC : List D := [.non, .int (-1), .int 1000000001, .bl true, .str [49], .tup [.int 1], .int 10000000000000000000000000000000000000000]
def NINE : List (Ky × D) := [97, 98, 99, 100, 101, 102, 103, 104, 105].map fun n => (Sum.inr [n], D.int 1)
theorem la_no {d : D} (h : d ∈ LA) : NoW d := by
  unfold LA at h
  simp only [List.mem_cons, List.not_mem_nil, or_false] at h
  intro τ
  refine e_weights_no ?_ τ
  rcases h with h | h | h | h | h | h | h
  · exact .inl h
  · exact .inr (.inl ⟨_, h⟩)
  · exact .inr (.inr (.inl ⟨_, h⟩))
  · exact .inr (.inr (.inr (.inl ⟨_, h⟩)))
  · exact .inr (.inr (.inr (.inr (.inl ⟨_, h⟩))))
  · exact .inr (.inr (.inr (.inr (.inr ⟨_, h⟩))))
  · exact .inr (.inl ⟨_, h⟩)
/-- a wrong key: a text or an int, or none of them -/
theorem lb_no {d : D} (h : d ∈ LB) : (∃ k : Ky, d.ky = some k ∧ KeyD k.d ∧ isOwnD k.d = false) ∨ (d.ky = none ∧ KeyD d ∧ oddD d = true) := by
  unfold LB at h
  simp only [List.mem_cons, List.not_mem_nil, or_false] at h
  rcases h with rfl | rfl | rfl | rfl | rfl | rfl | rfl | rfl | rfl
  · exact .inl ⟨.inr [], rfl, .str _ (by decide), by decide⟩
  · exact .inl ⟨.inr _, rfl, .str _ (by decide), by decide⟩
  · exact .inl ⟨.inr _, rfl, .str _ (by decide), by decide⟩
  · exact .inl ⟨.inr _, rfl, .str _ (by decide), by decide⟩
  · exact .inl ⟨.inl _, rfl, .int _, by decide⟩
  · exact .inr ⟨rfl, .non, rfl⟩
  · exact .inr ⟨rfl, .tup _, rfl⟩
  · exact .inl ⟨.inr _, rfl, .str _ (by decide), by decide⟩
  · exact .inl ⟨.inr _, rfl, .str _ (by decide), by decide⟩
theorem lc_no {d : D} (h : d ∈ LC) : Sim d ∧ ent (.inr [97], d) = false := by
  unfold LC at h
  simp only [List.mem_cons, List.not_mem_nil, or_false] at h
  rcases h with rfl | rfl | rfl | rfl | rfl | rfl | rfl
  · exact ⟨.non, by decide⟩
  · exact ⟨.int _, by decide⟩
  · exact ⟨.int _, by decide⟩
  · exact ⟨.bl _, by decide⟩
  · exact ⟨.str _, by decide⟩
  · exact ⟨.tup _, by decide⟩
  · exact ⟨.int _, by decide⟩
theorem nine_no : NoW (.dct NINE) := fun τ => by
  have H : Fin NINE := ⟨by decide, fun p m => by
    obtain ⟨n, _, rfl⟩ := List.mem_map.mp m
    exact ⟨.str _ (by simp), .int _⟩, by decide⟩
  rw [e_weights H]
  rfl
def gB1 : GS := (gPutX (eVar 2) (eCall 2 d__law_pick (elCons (eVar 0) (elCons (eLst false (elCons (eC (.str [])) (elCons (eC (.str [65])) (elCons (eC (.str [110, 105, 110, 101, 115, 105, 103, 110, 115])) (elCons (eC (.str [115, 104, 111, 114, 101])) (elCons (eC (.int 3)) (elCons (eC .non) (elCons (eTup (elCons (eC (.str [97])) elNil)) (elCons (eC (.str [97, 49])) (elCons (eC (.str [97, 32, 98])) elNil)))))))))) elNil))) (eC (.int 1)))
def gB2 : GS := (gPutX (eVar 2) (eC (.str [97])) (eCall 2 d__law_pick (elCons (eVar 0) (elCons (eLst false (elCons (eC .non) (elCons (eNeg (eC (.int 1))) (elCons (eOp (oAdd false) (eOp oPow (eC (.int 10)) (eC (.int 9))) (eC (.int 1))) (elCons (eC (.bl true)) (elCons (eC (.str [49])) (elCons (eTup (elCons (eC (.int 1)) elNil)) (elCons (eOp oPow (eC (.int 10)) (eC (.int 40))) elNil)))))))) elNil))))
def gB3 : GS := (gSet 2 (eCB (c1 fDict) (elCons (eLc false (dSigns (eC (.str [97, 98, 99, 100, 101, 102, 103, 104, 105]))) (tName 4) bYes (eTup (elCons (eVar 4) (elCons (eC (.int 1)) elNil))) [4]) elNil)))
def gB0 : GS := (gRet (eCall 2 d__law_pick (elCons (eVar 0) (elCons (eLst false (elCons (eC .non) (elCons (eLst false elNil) (elCons (eTup elNil) (elCons (eC (.str [97])) (elCons (eC (.int 5)) (elCons (eC (.bl true)) (elCons (eLst false (elCons (eTup (elCons (eC (.str [97])) (elCons (eC (.int 1)) elNil))) elNil)) elNil)))))))) elNil))))
theorem g_bad_eq : g__law_bad_weights = (gSeq (gPar 2 3 (elCons (eCB (c1 fDict) (elCons (eVar 1) elNil)) (elCons (eCall 2 d__law_draw (elCons (eVar 0) (elCons (eC (.int 4)) elNil))) elNil)))
  (gSeq (gIf (bOf (eOp oEq (eVar 3) (eC (.int 0)))) gB0 VL.gNil)
  (gSeq (gIf (bOf (eOp oEq (eVar 3) (eC (.int 1)))) gB1 (gIf (bOf (eOp oEq (eVar 3) (eC (.int 2)))) gB2 gB3))
  (gRet (eLk (eVar 2)))))) := rfl
theorem e_bad (hp : τ[p]? = some (PenC ns a c)) (H : VOk ws) (ha : a + 3 ≤ 100000) :
    ∃ (d : D) (a' : Nat) (c' : Int), d__law_bad_weights [.loc p, .d (.dct (ws.map kv))] τ = .ok (.d d) (τ.set p (PenC ns a' c')) ∧ a' ≤ a + 2 ∧ NoW d := by
  have hlt : p < τ.length := (List.getElem?_eq_some_iff.mp hp).1
  have hself : τ.set p (PenC ns a c) = τ := by
    obtain ⟨h, e⟩ := List.getElem?_eq_some_iff.mp hp
    rw [← e]
    exact List.set_getElem_self h
  have hS : ∀ w, τ ++ [.dct w] = S2 τ p (PenC ns a c) w := fun w => by unfold S2; rw [hself]
  have HF := H.fin
  have h8 : (ws.map kv).length ≤ 8 := by rw [List.length_map]; exact H.few
  generalize hks : ws.map kv = ks at HF h8
  obtain ⟨n, a1, c1', q1, hn, b1⟩ := e_draw (m := 4) (S2_pen (X := PenC ns a c) (w := ks) hlt) (by omega) (by omega) (by omega)
  rw [S2_setpen hlt] at q1
  have q1 : d__law_draw [.loc p, .d (.int 4)] (S2 τ p (PenC ns a c) ks) = .ok (.d (.int n)) (S2 τ p (PenC ns a1 c1') ks) := q1
  have pick : ∀ {ds : List D}, 1 ≤ ds.length → ds.length ≤ 100000 → ∃ (x : D) (a' : Nat) (c' : Int), d__law_pick [.loc p, .d (.lst ds)] (S2 τ p (PenC ns a1 c1') ks) = .ok (.d x) (S2 τ p (PenC ns a' c') ks) ∧ x ∈ ds ∧ a' ≤ a1 + 1 := fun h1 h2 => by
    obtain ⟨x, a', c', e1, e2, e3⟩ := e_pick (S2_pen (X := PenC ns a1 c1') (w := ks) hlt) h1 h2 (by omega)
    rw [S2_setpen hlt] at e1
    exact ⟨x, a', c', e1, e2, e3⟩
  have hal : fDict (.dct ks) τ = .ok (.loc τ.length) (S2 τ p (PenC ns a c) ks) := by rw [← hS]; rfl
  have two : 2 ≤ sizeLine := by rw [sl_eq]; omega
  have one : 1 ≤ sizeLine := by rw [sl_eq]; omega
  have seven : 7 ≤ sizeLine := by rw [sl_eq]; omega
  have nine : 9 ≤ sizeLine := by rw [sl_eq]; omega
  have h8' : ks.length < sizeLine := by rw [sl_eq]; omega
  by_cases w0 : n = 0
  · obtain ⟨x, a', c', e1, e2, e3⟩ := pick (ds := LA) (by decide) (by decide)
    refine ⟨x, a', c', ?_, by omega, la_no e2⟩
    have e0 : gB0 [some (.loc p), some (.d (.dct ks)), some (.loc τ.length), some (.d (.int n)), none] (S2 τ p (PenC ns a1 c1') ks) = .rt (.d x) (S2 τ p (PenC ns a' c') ks) := by
      unfold LA at e1
      simp [callD, outR, retU, gSeq, gIf, gRet, gRetN, gSet, gExpr, VL.gNil, gNever, gUnp, gPar, gPar3, eVar, eC, elNil, elCons, eCall, gCall, eCB, gCB, vws_cons, vws_nil, c1, c2, eOp, opD, bOf, bAnd, bOr, bNeg, eAnd, eOr, eNot, eIf, eIs, isN, eIsi, D.ty, isTy, eChain, oLe, oLt, oGt, oGe, oEq, oNe, bNot, oAdd, oSub, fLen, fLenD, D.seq, eTup, gTupD, frzs, eLst, gLstD, allocL, eIx, oIx, fMin, take_self, R.bind, liftE, RS.seq, tName, tTupN, tNames, eMt, gMt, tyD, gB0, e1, two, seven, one]
    have ht : (S2 τ p (PenC ns a' c') ks).take τ.length = τ.set p (PenC ns a' c') := S2_take _
    have wi : (n : Int) = 0 := by omega
    rw [wi] at q1 e0
    simp [callD, outR, retU, gSeq, gIf, gRet, gRetN, gSet, gExpr, VL.gNil, gNever, gUnp, gPar, gPar3, eVar, eC, elNil, elCons, eCall, gCall, eCB, gCB, vws_cons, vws_nil, c1, c2, eOp, opD, bOf, bAnd, bOr, bNeg, eAnd, eOr, eNot, eIf, eIs, isN, eIsi, D.ty, isTy, eChain, oLe, oLt, oGt, oGe, oEq, oNe, bNot, oAdd, oSub, fLen, fLenD, D.seq, eTup, gTupD, frzs, eLst, gLstD, allocL, eIx, oIx, fMin, take_self, R.bind, liftE, RS.seq, tName, tTupN, tNames, eMt, gMt, tyD, d__law_bad_weights, g_bad_eq, hal, q1, e0, ht]
  · have w0' : ¬ (n : Int) = 0 := by omega
    by_cases w1 : n = 1
    · obtain ⟨x, a', c', e1, e2, e3⟩ := pick (ds := LB) (by decide) (by decide)
      have e0 : ∃ (Z : Cell) (d : D), gB1 [some (.loc p), some (.d (.dct ks)), some (.loc τ.length), some (.d (.int n)), none] (S2 τ p (PenC ns a1 c1') ks) = .nx [some (.loc p), some (.d (.dct ks)), some (.loc τ.length), some (.d (.int n)), none] (τ.set p (PenC ns a' c') ++ [Z]) ∧ NoW d ∧
          ∀ ρ : VL.Env, ρ[2]? = some (some (.loc τ.length)) → eLk (eVar 2) ρ (τ.set p (PenC ns a' c') ++ [Z]) = .ok (.d d) (τ.set p (PenC ns a' c') ++ [.dead]) := by
        unfold LB at e1
        have gl : (τ.set p (PenC ns a' c')).length = τ.length := by simp
        rcases lb_no e2 with ⟨k, k1, k2, k3⟩ | ⟨k1, k2, k3⟩
        · refine ⟨.dct (dput ks k (.int 1)), .dct (dput ks k (.int 1)), ?_, now_put HF (by omega) k2 (.int 1) ?_, fun ρ hρ => ?_⟩
          · simp [callD, outR, retU, gSeq, gIf, gRet, gRetN, gSet, gExpr, VL.gNil, gNever, gUnp, gPar, gPar3, eVar, eC, elNil, elCons, eCall, gCall, eCB, gCB, vws_cons, vws_nil, c1, c2, eOp, opD, bOf, bAnd, bOr, bNeg, eAnd, eOr, eNot, eIf, eIs, isN, eIsi, D.ty, isTy, eChain, oLe, oLt, oGt, oGe, oEq, oNe, bNot, oAdd, oSub, fLen, fLenD, D.seq, eTup, gTupD, frzs, eLst, gLstD, allocL, eIx, oIx, fMin, take_self, R.bind, liftE, RS.seq, tName, tTupN, tNames, eMt, gMt, tyD, gB1, gPutX, frz, e1, one, two, nine, putX, k1, S2_found, h8', S2_set]
          · unfold ent; simp only; rw [k3]; rfl
          · have g1 : (τ.set p (PenC ns a' c') ++ [Cell.dct (dput ks k (.int 1))])[τ.length]? = some (.dct (dput ks k (.int 1))) := by rw [← gl]; exact get_last _ _
            have g2 : (τ.set p (PenC ns a' c') ++ [Cell.dct (dput ks k (.int 1))]).set τ.length .dead = τ.set p (PenC ns a' c') ++ [.dead] := by rw [← gl]; exact set_last _ _ _
            simp only [eLk, eVar, hρ, R.bind_ok, g1, g2]
        · refine ⟨.dcx ks x, .dcx ks x, ?_, fun τ => e_weights_x HF k2 k3 τ, fun ρ hρ => ?_⟩
          · simp [callD, outR, retU, gSeq, gIf, gRet, gRetN, gSet, gExpr, VL.gNil, gNever, gUnp, gPar, gPar3, eVar, eC, elNil, elCons, eCall, gCall, eCB, gCB, vws_cons, vws_nil, c1, c2, eOp, opD, bOf, bAnd, bOr, bNeg, eAnd, eOr, eNot, eIf, eIs, isN, eIsi, D.ty, isTy, eChain, oLe, oLt, oGt, oGe, oEq, oNe, bNot, oAdd, oSub, fLen, fLenD, D.seq, eTup, gTupD, frzs, eLst, gLstD, allocL, eIx, oIx, fMin, take_self, R.bind, liftE, RS.seq, tName, tTupN, tNames, eMt, gMt, tyD, gB1, gPutX, frz, e1, one, two, nine, putX, k1, k3, S2_found, h8', S2_set]
          · have g1 : (τ.set p (PenC ns a' c') ++ [Cell.dcx ks x])[τ.length]? = some (.dcx ks x) := by rw [← gl]; exact get_last _ _
            have g2 : (τ.set p (PenC ns a' c') ++ [Cell.dcx ks x]).set τ.length .dead = τ.set p (PenC ns a' c') ++ [.dead] := by rw [← gl]; exact set_last _ _ _
            simp only [eLk, eVar, hρ, R.bind_ok, g1, g2]
      obtain ⟨Z, d, f1, f2, f3⟩ := e0
      refine ⟨d, a', c', ?_, by omega, f2⟩
      have f4 := f3 [some (.loc p), some (.d (.dct ks)), some (.loc τ.length), some (.d (.int n)), none] rfl
      have ht : (τ.set p (PenC ns a' c') ++ [Cell.dead]).take τ.length = τ.set p (PenC ns a' c') := S2_take _
      have wi : (n : Int) = 1 := by omega
      rw [wi] at q1 f1 f4
      simp [callD, outR, retU, gSeq, gIf, gRet, gRetN, gSet, gExpr, VL.gNil, gNever, gUnp, gPar, gPar3, eVar, eC, elNil, elCons, eCall, gCall, eCB, gCB, vws_cons, vws_nil, c1, c2, eOp, opD, bOf, bAnd, bOr, bNeg, eAnd, eOr, eNot, eIf, eIs, isN, eIsi, D.ty, isTy, eChain, oLe, oLt, oGt, oGe, oEq, oNe, bNot, oAdd, oSub, fLen, fLenD, D.seq, eTup, gTupD, frzs, eLst, gLstD, allocL, eIx, oIx, fMin, take_self, R.bind, liftE, RS.seq, tName, tTupN, tNames, eMt, gMt, tyD, d__law_bad_weights, g_bad_eq, hal, q1, f1, f4, ht]
    · have w1' : ¬ (n : Int) = 1 := by omega
      by_cases w2 : n = 2
      · obtain ⟨x, a', c', e1, e2, e3⟩ := pick (ds := LC) (by decide) (by decide)
        obtain ⟨k1, k2⟩ := lc_no e2
        refine ⟨.dct (dput ks (.inr [97]) x), a', c', ?_, by omega, now_put HF (by omega) (.str _ (by decide)) k1 k2⟩
        have gl : (τ.set p (PenC ns a' c')).length = τ.length := by simp
        have e0 : gB2 [some (.loc p), some (.d (.dct ks)), some (.loc τ.length), some (.d (.int n)), none] (S2 τ p (PenC ns a1 c1') ks) = .nx [some (.loc p), some (.d (.dct ks)), some (.loc τ.length), some (.d (.int n)), none] (τ.set p (PenC ns a' c') ++ [.dct (dput ks (.inr [97]) x)]) := by
          unfold LC at e1
          simp [callD, outR, retU, gSeq, gIf, gRet, gRetN, gSet, gExpr, VL.gNil, gNever, gUnp, gPar, gPar3, eVar, eC, elNil, elCons, eCall, gCall, eCB, gCB, vws_cons, vws_nil, c1, c2, eOp, opD, bOf, bAnd, bOr, bNeg, eAnd, eOr, eNot, eIf, eIs, isN, eIsi, D.ty, isTy, eChain, oLe, oLt, oGt, oGe, oEq, oNe, bNot, oAdd, oSub, fLen, fLenD, D.seq, eTup, gTupD, frzs, eLst, gLstD, allocL, eIx, oIx, fMin, take_self, R.bind, liftE, RS.seq, tName, tTupN, tNames, eMt, gMt, tyD, gB2, gPutX, frz, e1, eNeg, oPow, one, two, seven, putX, D.ky, S2_found, h8', S2_set]
        have f4 : eLk (eVar 2) [some (.loc p), some (.d (.dct ks)), some (.loc τ.length), some (.d (.int n)), none] (τ.set p (PenC ns a' c') ++ [Cell.dct (dput ks (.inr [97]) x)]) = .ok (.d (.dct (dput ks (.inr [97]) x))) (τ.set p (PenC ns a' c') ++ [.dead]) := by
          have g1 : (τ.set p (PenC ns a' c') ++ [Cell.dct (dput ks (.inr [97]) x)])[τ.length]? = some (.dct (dput ks (.inr [97]) x)) := by rw [← gl]; exact get_last _ _
          have g2 : (τ.set p (PenC ns a' c') ++ [Cell.dct (dput ks (.inr [97]) x)]).set τ.length .dead = τ.set p (PenC ns a' c') ++ [.dead] := by rw [← gl]; exact set_last _ _ _
          show (R.ok (U.loc τ.length) _).bind _ = _
          simp only [R.bind_ok, g1, g2]
        have ht : (τ.set p (PenC ns a' c') ++ [Cell.dead]).take τ.length = τ.set p (PenC ns a' c') := S2_take _
        have wi : (n : Int) = 2 := by omega
        rw [wi] at q1 e0 f4
        simp [callD, outR, retU, gSeq, gIf, gRet, gRetN, gSet, gExpr, VL.gNil, gNever, gUnp, gPar, gPar3, eVar, eC, elNil, elCons, eCall, gCall, eCB, gCB, vws_cons, vws_nil, c1, c2, eOp, opD, bOf, bAnd, bOr, bNeg, eAnd, eOr, eNot, eIf, eIs, isN, eIsi, D.ty, isTy, eChain, oLe, oLt, oGt, oGe, oEq, oNe, bNot, oAdd, oSub, fLen, fLenD, D.seq, eTup, gTupD, frzs, eLst, gLstD, allocL, eIx, oIx, fMin, take_self, R.bind, liftE, RS.seq, tName, tTupN, tNames, eMt, gMt, tyD, d__law_bad_weights, g_bad_eq, hal, q1, e0, f4, ht]
      · have w2' : ¬ (n : Int) = 2 := by omega
        refine ⟨.dct NINE, a1, c1', ?_, by omega, nine_no⟩
        have go : compGo (tName 4) bYes (eTup (elCons (eVar 4) (elCons (eC (.int 1)) elNil))) (wipeE [some (.loc p), some (.d (.dct ks)), some (.loc τ.length), some (.d (.int n)), none] [4]) (([97, 98, 99, 100, 101, 102, 103, 104, 105] : List Nat).map fun c => D.str [c]) (S2 τ p (PenC ns a1 c1') ks) [] =
            .ok ([] ++ (([97, 98, 99, 100, 101, 102, 103, 104, 105] : List Nat).map fun c => D.str [c]).map fun d => .tup [d, .int 1]) (S2 τ p (PenC ns a1 c1') ks) := by
          refine compGo_all _ [] (fun x m => ?_) (by rw [sl_eq]; simp)
          refine ⟨_, rfl, ?_⟩
          simp [callD, outR, retU, gSeq, gIf, gRet, gRetN, gSet, gExpr, VL.gNil, gNever, gUnp, gPar, gPar3, eVar, eC, elNil, elCons, eCall, gCall, eCB, gCB, vws_cons, vws_nil, c1, c2, eOp, opD, bOf, bAnd, bOr, bNeg, eAnd, eOr, eNot, eIf, eIs, isN, eIsi, D.ty, isTy, eChain, oLe, oLt, oGt, oGe, oEq, oNe, bNot, oAdd, oSub, fLen, fLenD, D.seq, eTup, gTupD, frzs, eLst, gLstD, allocL, eIx, oIx, fMin, take_self, R.bind, liftE, RS.seq, tName, tTupN, tNames, eMt, gMt, tyD, wipeE, two]
        have hd : fDict (.lst ([] ++ (([97, 98, 99, 100, 101, 102, 103, 104, 105] : List Nat).map fun c => D.str [c]).map fun d => .tup [d, .int 1])) (S2 τ p (PenC ns a1 c1') ks) = .ok (.loc (S2 τ p (PenC ns a1 c1') ks).length) (S2 τ p (PenC ns a1 c1') ks ++ [.dct NINE]) := rfl
        have e0 : gB3 [some (.loc p), some (.d (.dct ks)), some (.loc τ.length), some (.d (.int n)), none] (S2 τ p (PenC ns a1 c1') ks) = .nx [some (.loc p), some (.d (.dct ks)), some (.loc (S2 τ p (PenC ns a1 c1') ks).length), some (.d (.int n)), none] (S2 τ p (PenC ns a1 c1') ks ++ [.dct NINE]) := by
          generalize ([] ++ (([97, 98, 99, 100, 101, 102, 103, 104, 105] : List Nat).map fun c => D.str [c]).map fun d => D.tup [d, .int 1]) = rows at go hd
          have hsg : gSigns (.d (.str [97, 98, 99, 100, 101, 102, 103, 104, 105])) (S2 τ p (PenC ns a1 c1') ks) = .ok (([97, 98, 99, 100, 101, 102, 103, 104, 105] : List Nat).map fun c => D.str [c]) (S2 τ p (PenC ns a1 c1') ks) := by
            unfold gSigns
            simp [nine]
          generalize (([97, 98, 99, 100, 101, 102, 103, 104, 105] : List Nat).map fun c => D.str [c]) = sg at go hsg
          simp [callD, outR, retU, gSeq, gIf, gRet, gRetN, gSet, gExpr, VL.gNil, gNever, gUnp, gPar, gPar3, eVar, eC, elNil, elCons, eCall, gCall, eCB, gCB, vws_cons, vws_nil, c1, c2, eOp, opD, bOf, bAnd, bOr, bNeg, eAnd, eOr, eNot, eIf, eIs, isN, eIsi, D.ty, isTy, eChain, oLe, oLt, oGt, oGe, oEq, oNe, bNot, oAdd, oSub, fLen, fLenD, D.seq, eTup, gTupD, frzs, eLst, gLstD, allocL, eIx, oIx, fMin, take_self, R.bind, liftE, RS.seq, tName, tTupN, tNames, eMt, gMt, tyD, gB3, eLc, dSigns, hsg, go, hd]
        generalize hst : S2 τ p (PenC ns a1 c1') ks = st at *
        have f4 : eLk (eVar 2) [some (.loc p), some (.d (.dct ks)), some (.loc st.length), some (.d (.int n)), none] (st ++ [.dct NINE]) = .ok (.d (.dct NINE)) (st ++ [.dead]) := by
          show (R.ok (U.loc st.length) _).bind _ = _
          simp only [R.bind_ok, get_last, set_last]
        have ht : (st ++ [Cell.dead]).take τ.length = τ.set p (PenC ns a1 c1') := by
          rw [← hst]
          unfold S2
          rw [List.append_assoc]
          exact List.take_left' (by simp)
        have wi : (n : Int) = 3 := by omega
        rw [wi] at q1 e0 f4
        generalize NINE = nn at *
        simp [callD, outR, retU, gSeq, gIf, gRet, gRetN, gSet, gExpr, VL.gNil, gNever, gUnp, gPar, gPar3, eVar, eC, elNil, elCons, eCall, gCall, eCB, gCB, vws_cons, vws_nil, c1, c2, eOp, opD, bOf, bAnd, bOr, bNeg, eAnd, eOr, eNot, eIf, eIs, isN, eIsi, D.ty, isTy, eChain, oLe, oLt, oGt, oGe, oEq, oNe, bNot, oAdd, oSub, fLen, fLenD, D.seq, eTup, gTupD, frzs, eLst, gLstD, allocL, eIx, oIx, fMin, take_self, R.bind, liftE, RS.seq, tName, tTupN, tNames, eMt, gMt, tyD, d__law_bad_weights, g_bad_eq, hal, q1, e0, f4, ht]
end
end K80

/-! k80: what is refused. -/
namespace K80
open PySem PySem.Spec PySem.NumText PyProof.Rows L2 LamX VL VD
theorem e_mkD {c a b : Nat} {F : List U → Store → R U} {os : List Nat} {dvs : List D} {fs fk : EL} {ρ : VL.Env} {τ : Store} {us wss : List U} {r : R U} (h1 : fs ρ τ = .ok us τ) (h2 : fk ρ τ = .ok wss τ) (hl : us.length = a ∧ wss.length = b)
    (hm : gMakeD c F os dvs us wss τ = r) : eMakeD c a b F os dvs fs fk ρ τ = r := by
  unfold eMakeD
  rw [h1, R.bind_ok, h2, R.bind_ok, if_pos hl]
  exact hm
def LN : List D := [.int (-1), .bl true, .str [49], .tup [], .int 10000000001, .lst [.int 2], .dct []]
theorem ln_no {d : D} (h : d ∈ LN) : NoCap d := by
  unfold LN at h
  simp only [List.mem_cons, List.not_mem_nil, or_false] at h
  rcases h with rfl | rfl | rfl | rfl | rfl | rfl | rfl
  · exact ⟨.int _, by decide⟩
  · exact ⟨.bl _, by decide⟩
  · exact ⟨.str _, by decide⟩
  · exact ⟨.tup _, by decide⟩
  · exact ⟨.int _, by decide⟩
  · exact ⟨.lst _, by decide⟩
  · exact ⟨.dct _, by decide⟩
def gR0 : GS := (gParN [4, 5] (elCons (eCall 2 d__law_bad_weights (elCons (eVar 0) (elCons (eVar 1) elNil))) (elCons (eCall 2 d__law_pick (elCons (eVar 0) (elCons (eLst false (elCons (eNeg (eC (.int 1))) (elCons (eC (.bl true)) (elCons (eC (.str [49])) (elCons (eTup elNil) (elCons (eOp (oAdd false) (eOp oPow (eC (.int 10)) (eC (.int 10))) (eC (.int 1))) (elCons (eLst false (elCons (eC (.int 2)) elNil)) (elCons eD0 elNil)))))))) elNil))) elNil)))
def M1 : EV := eLam 4 gH__law_heard (eMakeD 1 1 2 d_Ledger___init__ [0, 1, 2, 3] [] (elCons (eVar 4) elNil) (elCons (eVar 5) (elCons (eVar 5) elNil)))
def M2 : EV := eLam 4 gH__law_heard (eMakeD 1 1 2 d_Ledger___init__ [0, 1, 2, 3] [] (elCons (eVar 1) elNil) (elCons (eVar 5) (elCons (eVar 5) elNil)))
def M3 : EV := eLam 4 gH__law_heard (eMakeD 1 1 2 d_Ledger___init__ [0, 1, 2, 3] [] (elCons (eVar 1) elNil) (elCons (eVar 2) (elCons (eVar 5) elNil)))
def M4 : EV := eLam 4 gH__law_heard (eMakeD 1 1 2 d_Ledger___init__ [0, 1, 3, 2] [] (elCons (eVar 1) elNil) (elCons (eVar 3) (elCons (eVar 5) elNil)))
def M5 : EV := eLam 4 gH__law_heard (eMeth 1 2 [119, 105, 116, 104, 95, 108, 111, 97, 100] [0, 1] [] d_Ledger_with_load 1 0 (eVar 7) (elCons (eVar 5) elNil) elNil)
def M6 : EV := eLam 4 gH__law_heard (eMeth 1 2 [119, 105, 116, 104, 95, 114, 117, 115, 104] [0, 1] [] d_Ledger_with_rush 0 1 (eVar 7) elNil (elCons (eVar 5) elNil))
def MK : EV := (eMakeD 1 1 2 d_Ledger___init__ [0, 1, 2, 3] [] (elCons (eVar 1) elNil) (elCons (eVar 2) (elCons (eVar 3) elNil)))
def HD : EV := (eOp oEq (eVar 6) (eLst false (elCons (eC (.str [119, 101, 105, 103, 104, 116, 115])) (elCons (eC (.str [108, 111, 97, 100])) (elCons (eC (.str [114, 117, 115, 104])) (elCons (eC (.str [108, 111, 97, 100])) (elCons (eC (.str [108, 111, 97, 100])) (elCons (eC (.str [114, 117, 115, 104])) elNil))))))))
def TD : EV := (eOp oEq (eCall 1 d__law_told (elCons (eVar 7) elNil)) (eCall 3 d__law_due (elCons (eVar 1) (elCons (eVar 2) (elCons (eVar 3) elNil)))))
theorem g_ref_eq : g__law_refused_right = (gSeq gR0
  (gSeq (gSet 6 (eLst true (elCons M1 (elCons M2 elNil))))
  (gSeq (gExpr (eAppend (eVar 6) (elCons M3 elNil)))
  (gSeq (gExpr (eAppend (eVar 6) (elCons M4 elNil)))
  (gSeq (gSet 7 MK)
  (gSeq (gExpr (eAppend (eVar 6) (elCons M5 elNil)))
  (gSeq (gExpr (eAppend (eVar 6) (elCons M6 elNil)))
  (gRet (eAnd HD TD))))))))) := rfl
section
variable {ns : List Int} {τ : Store} {p a : Nat} {c : Int} {ws vs : WS} {x y : Option Nat} {d n : D}
def H6 : List D := [.str WEIGHTS, .str LOAD, .str RUSH, .str LOAD, .str LOAD, .str RUSH]
/-- the names, with the row of what was heard, and the ledger -/
def ρR (p : Nat) (ws : WS) (x y : Option Nat) (d n : D) (h m : Option U) : VL.Env := [some (.loc p), some (.d (.dct (ws.map kv))), some (.d (optD x)), some (.d (optD y)), some (.d d), some (.d n), h, m]
theorem h1 (hd : NoW d) (h m : Option U) (σ : Store) : M1 (ρR p ws x y d n h m) σ = .ok (.d (.str WEIGHTS)) σ :=
  e_heard (e_mkD (us := [.d d]) (wss := [.d n, .d n]) rfl rfl ⟨rfl, rfl⟩ (mk_wts hd _ _ σ))
theorem h2 (H : VOk ws) (hn : NoCap n) (h m : Option U) (σ : Store) : M2 (ρR p ws x y d n h m) σ = .ok (.d (.str LOAD)) σ :=
  e_heard (e_mkD (us := [.d (.dct (ws.map kv))]) (wss := [.d n, .d n]) rfl rfl ⟨rfl, rfl⟩ (mk_load H hn _ σ))
theorem h3 (H : VOk ws) (hx : capOk x) (hn : NoCap n) (h m : Option U) (σ : Store) : M3 (ρR p ws x y d n h m) σ = .ok (.d (.str RUSH)) σ :=
  e_heard (e_mkD (us := [.d (.dct (ws.map kv))]) (wss := [.d (optD x), .d n]) rfl rfl ⟨rfl, rfl⟩ (mk_rush H hx hn σ))
theorem h4 (H : VOk ws) (hn : NoCap n) (h m : Option U) (σ : Store) : M4 (ρR p ws x y d n h m) σ = .ok (.d (.str LOAD)) σ :=
  e_heard (e_mkD (us := [.d (.dct (ws.map kv))]) (wss := [.d (optD y), .d n]) rfl rfl ⟨rfl, rfl⟩ (mk_loadS H hn _ σ))
theorem h5 (H : VOk vs) (hn : NoCap n) (h : Option U) (σ : Store) : M5 (ρR p ws x y d n h (some (.d (led vs x y)))) σ = .ok (.d (.str LOAD)) σ :=
  e_heard (meth_at (us := [.d n]) (wss := []) (x := .fn) (by decide) rfl rfl rfl ⟨rfl, rfl⟩ (x_load H hn σ))
theorem h6 (H : VOk vs) (hx : capOk x) (hn : NoCap n) (h : Option U) (σ : Store) : M6 (ρR p ws x y d n h (some (.d (led vs x y)))) σ = .ok (.d (.str RUSH)) σ :=
  e_heard (meth_at (us := []) (wss := [.d n]) (x := .fn) (by decide) rfl rfl rfl ⟨rfl, rfl⟩ (x_rush H hx hn σ))
theorem hm (H : VOk ws) (p' : vs.Perm ws) (hv : Asc vs) (hx : capOk x) (hy : capOk y) (h m : Option U) (σ : Store) : MK (ρR p ws x y d n h m) σ = .ok (.d (led vs x y)) σ :=
  e_mkD (us := [.d (.dct (ws.map kv))]) (wss := [.d (optD x), .d (optD y)]) rfl rfl ⟨rfl, rfl⟩ (e_mk H p' hv hx hy σ rfl)
theorem vok_nice (H : VOk vs) : niceW vs := H.own
theorem htd (H : VOk ws) (p' : vs.Perm ws) (hv : Asc vs) (hx : capOk x) (hy : capOk y) (h : Option U) (σ : Store) : TD (ρR p ws x y d n h (some (.d (led vs x y)))) σ = .ok (.d (.bl true)) σ := by
  have Hv := H.perm p'
  have t := e_told (a := x) (b := y) Hv.nd (by have := Hv.few; omega) σ
  have u := e_due H p' hv (optD x) (optD y) σ
  rw [← told_due] at u
  have q := eq_same (due_nice (vok_nice Hv) hx hy) (Nat.le_trans due_dep (by decide)) σ
  unfold TD ρR
  generalize toldD vs x y = dd at t u q
  generalize led vs x y = dl at t
  generalize ws.map kv = ks at u
  simp [callD, outR, retU, gSeq, gIf, gRet, gRetN, gSet, gExpr, VL.gNil, gNever, gUnp, gPar, gPar3, eVar, eC, elNil, elCons, eCall, gCall, eCB, gCB, vws_cons, vws_nil, c1, c2, eOp, opD, bOf, bAnd, bOr, bNeg, eAnd, eOr, eNot, eIf, eIs, isN, eIsi, D.ty, isTy, eChain, oLe, oLt, oGt, oGe, oAdd, oSub, fLen, fLenD, D.seq, eTup, gTupD, frzs, eLst, gLstD, allocL, eIx, oIx, fMin, take_self, R.bind, liftE, RS.seq, tName, tTupN, tNames, eMt, gMt, tyD, t, u, q]
theorem app_at {f : EV} {ρ : VL.Env} {σ : Store} {k : Nat} {l : List D} {t : T} (hk : ρ[6]? = some (some (.loc k))) (hs : σ[k]? = some (.lst l)) (hl : l.length < 100) (hf : f ρ σ = .ok (.d (.str t)) σ) : gExpr (eAppend (eVar 6) (elCons f elNil)) ρ σ = .nx ρ (σ.set k (.lst (l ++ [.str t]))) := by
  have h' : l.length < sizeLine := by rw [sl_eq]; omega
  simp [callD, outR, retU, gSeq, gIf, gRet, gRetN, gSet, gExpr, VL.gNil, gNever, gUnp, gPar, gPar3, eVar, eC, elNil, elCons, eCall, gCall, eCB, gCB, vws_cons, vws_nil, c1, c2, eOp, opD, bOf, bAnd, bOr, bNeg, eAnd, eOr, eNot, eIf, eIs, isN, eIsi, D.ty, isTy, eChain, oLe, oLt, oGt, oGe, oEq, oNe, bNot, oAdd, oSub, fLen, fLenD, D.seq, eTup, gTupD, frzs, eLst, gLstD, allocL, eIx, oIx, fMin, take_self, R.bind, liftE, RS.seq, tName, tTupN, tNames, eMt, gMt, tyD, gExpr, eAppend, hk, hs, hf, gAppend, h']
theorem e_R0 (hp : τ[p]? = some (PenC ns a c)) (H : VOk ws) (ha : a + 5 ≤ 100000) : ∃ (d n : D) (a' : Nat) (c' : Int),
    gR0 [some (.loc p), some (.d (.dct (ws.map kv))), some (.d (optD x)), some (.d (optD y)), none, none, none, none] τ = .nx (ρR p ws x y d n none none) (τ.set p (PenC ns a' c') ++ [.dead]) ∧ NoW d ∧ NoCap n ∧ a' ≤ a + 3 := by
  have hlt : p < τ.length := (List.getElem?_eq_some_iff.mp hp).1
  obtain ⟨d, a1, c1', q1, b1, hd⟩ := e_bad hp H (by omega)
  have hp1 : (τ.set p (PenC ns a1 c1') ++ [Cell.dead])[p]? = some (PenC ns a1 c1') := by
    rw [List.getElem?_append_left (by simpa using hlt), List.getElem?_set_self hlt]
  obtain ⟨n, a2, c2', q2, hn, b2⟩ := e_pick (ds := LN) hp1 (by decide) (by decide) (by omega)
  have hs : (τ.set p (PenC ns a1 c1') ++ [Cell.dead]).set p (PenC ns a2 c2') = τ.set p (PenC ns a2 c2') ++ [.dead] := by
    rw [List.set_append_left _ _ (by simpa using hlt), List.set_set]
  rw [hs] at q2
  refine ⟨d, n, a2, c2', ?_, hd, ln_no hn, by omega⟩
  have seven : 7 ≤ sizeLine := by rw [sl_eq]; omega
  have one : 1 ≤ sizeLine := by rw [sl_eq]; omega
  have gl : (τ.set p (PenC ns a1 c1')).length = τ.length := by simp
  have g1 : ∀ Z, (τ.set p (PenC ns a1 c1') ++ [Z])[τ.length]? = some Z := fun Z => by rw [← gl]; exact get_last _ _
  have g2 : ∀ Z Y, (τ.set p (PenC ns a1 c1') ++ [Z]).set τ.length Y = τ.set p (PenC ns a1 c1') ++ [Y] := fun Z Y => by rw [← gl]; exact set_last _ _ _
  unfold LN at q2
  unfold ρR
  generalize ws.map kv = ks at q1
  simp [callD, outR, retU, gSeq, gIf, gRet, gRetN, gSet, gExpr, VL.gNil, gNever, gUnp, gPar, gPar3, eVar, eC, elNil, elCons, eCall, gCall, eCB, gCB, vws_cons, vws_nil, c1, c2, eOp, opD, bOf, bAnd, bOr, bNeg, eAnd, eOr, eNot, eIf, eIs, isN, eIsi, D.ty, isTy, eChain, oLe, oLt, oGt, oGe, oEq, oNe, bNot, oAdd, oSub, fLen, fLenD, D.seq, eTup, gTupD, frzs, eLst, gLstD, allocL, eIx, oIx, fMin, take_self, R.bind, liftE, RS.seq, tName, tTupN, tNames, eMt, gMt, tyD, gR0, gParN, setN, q1, eNeg, oPow, one, seven, eD0, eDN, allocD, eLk, g1, g2, q2]
theorem chain {g0 g1 g2 g3 g4 g5 g6 : GS} {f h : EV} {ρ0 ρ1 ρ2 ρ3 ρ4 ρ5 ρ6 ρ7 : VL.Env} {τ0 τ1 τ2 τ3 τ4 τ5 τ6 τ7 : Store} (s0 : g0 ρ0 τ0 = .nx ρ1 τ1) (s1 : g1 ρ1 τ1 = .nx ρ2 τ2) (s2 : g2 ρ2 τ2 = .nx ρ3 τ3) (s3 : g3 ρ3 τ3 = .nx ρ4 τ4) (s4 : g4 ρ4 τ4 = .nx ρ5 τ5) (s5 : g5 ρ5 τ5 = .nx ρ6 τ6) (s6 : g6 ρ6 τ6 = .nx ρ7 τ7)
    (s7 : f ρ7 τ7 = .ok (.d (.bl true)) τ7) (s8 : h ρ7 τ7 = .ok (.d (.bl true)) τ7) : gSeq g0 (gSeq g1 (gSeq g2 (gSeq g3 (gSeq g4 (gSeq g5 (gSeq g6 (gRet (eAnd f h)))))))) ρ0 τ0 = .rt (.d (.bl true)) τ7 := by
  simp only [gSeq, s0, s1, s2, s3, s4, s5, s6, RS.seq, gRet, eAnd, s7, s8, R.bind, liftE]
end
end K80

/-! k80: what is refused. -/
namespace K80
open PySem PySem.Spec PySem.NumText PyProof.Rows L2 LamX VL VD
section
variable {ns : List Int} {τ : Store} {p a : Nat} {c : Int} {ws vs : WS} {x y : Option Nat} {d n : D}
theorem ref_body {st : Store} (H : VOk ws) (p' : vs.Perm ws) (hv : Asc vs) (hx : capOk x) (hy : capOk y) (hd : NoW d) (hn : NoCap n) {ρ0 : VL.Env} (s0 : gR0 ρ0 τ = .nx (ρR p ws x y d n none none) st) : g__law_refused_right ρ0 τ = .rt (.d (.bl true)) (st ++ [.lst H6]) := by
  have Hv := H.perm p'
  have two : 2 ≤ sizeLine := by rw [sl_eq]; omega
  have six : 6 ≤ sizeLine := by rw [sl_eq]; omega
  have s1 : gSet 6 (eLst true (elCons M1 (elCons M2 elNil))) (ρR p ws x y d n none none) st = .nx (ρR p ws x y d n (some (.loc st.length)) none) (st ++ [.lst [.str WEIGHTS, .str LOAD]]) := by
    have e1 := h1 (p := p) (ws := ws) (x := x) (y := y) (n := n) hd none none st
    have e2 := h2 (p := p) (x := x) (y := y) (d := d) H hn none none st
    have hs : (ρR p ws x y d n none none).set 6 (some (.loc st.length)) = ρR p ws x y d n (some (.loc st.length)) none := rfl
    rw [← hs]
    generalize ρR p ws x y d n none none = ρ at e1 e2
    simp [callD, outR, retU, gSeq, gIf, gRet, gRetN, gSet, gExpr, VL.gNil, gNever, gUnp, gPar, gPar3, eVar, eC, elNil, elCons, eCall, gCall, eCB, gCB, vws_cons, vws_nil, c1, c2, eOp, opD, bOf, bAnd, bOr, bNeg, eAnd, eOr, eNot, eIf, eIs, isN, eIsi, D.ty, isTy, eChain, oLe, oLt, oGt, oGe, oEq, oNe, bNot, oAdd, oSub, fLen, fLenD, D.seq, eTup, gTupD, frzs, eLst, gLstD, allocL, eIx, oIx, fMin, take_self, R.bind, liftE, RS.seq, tName, tTupN, tNames, eMt, gMt, tyD, e1, e2, two]
  have s2 : gExpr (eAppend (eVar 6) (elCons M3 elNil)) (ρR p ws x y d n (some (.loc st.length)) none) (st ++ [.lst [.str WEIGHTS, .str LOAD]]) = .nx (ρR p ws x y d n (some (.loc st.length)) none) (st ++ [.lst [.str WEIGHTS, .str LOAD, .str RUSH]]) := by
    rw [app_at rfl (get_last _ _) (by simp) (h3 H hx hn (some (.loc st.length)) none _), set_last]
    rfl
  have s3 : gExpr (eAppend (eVar 6) (elCons M4 elNil)) (ρR p ws x y d n (some (.loc st.length)) none) (st ++ [.lst [.str WEIGHTS, .str LOAD, .str RUSH]]) = .nx (ρR p ws x y d n (some (.loc st.length)) none) (st ++ [.lst [.str WEIGHTS, .str LOAD, .str RUSH, .str LOAD]]) := by
    rw [app_at rfl (get_last _ _) (by simp) (h4 H hn (some (.loc st.length)) none _), set_last]
    rfl
  have s4 : gSet 7 MK (ρR p ws x y d n (some (.loc st.length)) none) (st ++ [.lst [.str WEIGHTS, .str LOAD, .str RUSH, .str LOAD]]) = .nx (ρR p ws x y d n (some (.loc st.length)) (some (.d (led vs x y)))) (st ++ [.lst [.str WEIGHTS, .str LOAD, .str RUSH, .str LOAD]]) := by
    unfold gSet
    rw [hm H p' hv hx hy (some (.loc st.length)) none]
    rfl
  have s5 : gExpr (eAppend (eVar 6) (elCons M5 elNil)) (ρR p ws x y d n (some (.loc st.length)) (some (.d (led vs x y)))) (st ++ [.lst [.str WEIGHTS, .str LOAD, .str RUSH, .str LOAD]]) = .nx (ρR p ws x y d n (some (.loc st.length)) (some (.d (led vs x y)))) (st ++ [.lst [.str WEIGHTS, .str LOAD, .str RUSH, .str LOAD, .str LOAD]]) := by
    rw [app_at rfl (get_last _ _) (by simp) (h5 Hv hn (some (.loc st.length)) _), set_last]
    rfl
  have s6 : gExpr (eAppend (eVar 6) (elCons M6 elNil)) (ρR p ws x y d n (some (.loc st.length)) (some (.d (led vs x y)))) (st ++ [.lst [.str WEIGHTS, .str LOAD, .str RUSH, .str LOAD, .str LOAD]]) = .nx (ρR p ws x y d n (some (.loc st.length)) (some (.d (led vs x y)))) (st ++ [.lst H6]) := by
    rw [app_at rfl (get_last _ _) (by simp) (h6 Hv hx hn (some (.loc st.length)) _), set_last]
    rfl
  have s7 : HD (ρR p ws x y d n (some (.loc st.length)) (some (.d (led vs x y)))) (st ++ [.lst H6]) = .ok (.d (.bl true)) (st ++ [.lst H6]) := by
    have q : oEq (.lst H6) (.lst H6) (st ++ [.lst H6]) = .ok (.d (.bl true)) (st ++ [.lst H6]) := eq_same (by decide) (by decide) _
    have v : vw (st ++ [.lst H6]) (.loc st.length) = some (.lst H6) := by unfold vw; simp only [get_last]
    have h6' : (ρR p ws x y d n (some (.loc st.length)) (some (.d (led vs x y))))[6]? = some (some (.loc st.length)) := rfl
    generalize ρR p ws x y d n (some (.loc st.length)) (some (.d (led vs x y))) = ρ at h6'
    unfold H6 WEIGHTS LOAD RUSH at q v ⊢
    simp [callD, outR, retU, gSeq, gIf, gRet, gRetN, gSet, gExpr, VL.gNil, gNever, gUnp, gPar, gPar3, eVar, eC, elNil, elCons, eCall, gCall, eCB, gCB, vws_cons, vws_nil, c1, c2, eOp, opD, bOf, bAnd, bOr, bNeg, eAnd, eOr, eNot, eIf, eIs, isN, eIsi, D.ty, isTy, eChain, oLe, oLt, oGt, oGe, oAdd, oSub, fLen, fLenD, D.seq, eTup, gTupD, frzs, eLst, gLstD, allocL, eIx, oIx, fMin, take_self, R.bind, liftE, RS.seq, tName, tTupN, tNames, eMt, gMt, tyD, HD, h6', six, opD, v, q]
  have s8 := htd (p := p) (d := d) (n := n) H p' hv hx hy (some (.loc st.length)) (st ++ [.lst H6])
  rw [g_ref_eq]
  exact chain s0 s1 s2 s3 s4 s5 s6 s7 s8
end
end K80

/-! k80: what is refused. -/
namespace K80
open PySem PySem.Spec PySem.NumText PyProof.Rows L2 LamX VL VD
section
variable {ns : List Int} {τ : Store} {p a : Nat} {c : Int} {ws vs : WS} {x y : Option Nat} {d n : D}
theorem e_ref (hp : τ[p]? = some (PenC ns a c)) (H : VOk ws) (p' : vs.Perm ws) (hv : Asc vs) (hx : capOk x) (hy : capOk y) (ha : a + 5 ≤ 100000) :
    ∃ (a' : Nat) (c' : Int), d__law_refused_right [.loc p, .d (.dct (ws.map kv)), .d (optD x), .d (optD y)] τ = .ok (.d (.bl true)) (τ.set p (PenC ns a' c')) ∧ a' ≤ a + 3 := by
  obtain ⟨d, n, a', c', s0, hd, hn, b⟩ := e_R0 (x := x) (y := y) hp H ha
  refine ⟨a', c', ?_, b⟩
  have q := ref_body H p' hv hx hy hd hn s0
  have ht : (τ.set p (PenC ns a' c') ++ [Cell.dead] ++ [Cell.lst H6]).take τ.length = τ.set p (PenC ns a' c') := by
    rw [List.append_assoc]
    exact List.take_left' (by simp)
  unfold d__law_refused_right callD
  simp only [List.map_cons, List.map_nil, List.length_cons, List.length_nil, List.replicate, List.cons_append, List.nil_append, q, outR, retU, ht]
end
end K80

/-! k80: the tests of a turn of the law. -/
namespace K80
open PySem PySem.Spec PySem.NumText PyProof.Rows L2 LamX VL VD
theorem ndK_iff : ∀ {kvs : List (Ky × D)}, ndK kvs = true ↔ ∀ p ∈ kvs, p.2.nd = true
  | [] => by simp [ndK]
  | (k, d) :: kvs => by
    simp only [ndK, Bool.and_eq_true, ndK_iff (kvs := kvs), List.mem_cons, forall_eq_or_imp]
theorem nd_kv (ws : WS) : ndK (ws.map kv) = true := ndK_iff.mpr fun p m => by
  obtain ⟨q, _, rfl⟩ := List.mem_map.mp m
  rfl
theorem nd_put {kvs : List (Ky × D)} (h : ndK kvs = true) {k : Ky} {x : D} (hx : x.nd = true) : ndK (dput kvs k x) = true := ndK_iff.mpr fun p m => by
  rcases dput_all p m with m | e
  · exact ndK_iff.mp h p m
  · rw [e]; exact hx
theorem nd_rows : ∀ vs : WS, ndL (vs.map rowD) = true
  | [] => rfl
  | p :: vs => by
    have := nd_rows vs
    simp only [List.map_cons, ndL, rowD, D.nd, this, Bool.and_self]
theorem nd_led (vs : WS) (a b : Option Nat) : (led vs a b).nd = true := by
  have h := nd_rows vs
  have h2 : ∀ a : Option Nat, (optD a).nd = true := fun a => by cases a <;> rfl
  simp only [led, D.nd, ndF, ndL, h, h2, Bool.and_self]
theorem nd_pen (ns : List Int) (a : Nat) (c : Int) : (PenC ns a c).nd = true := by
  have h : ∀ ns : List Int, ndL (ns.map D.int) = true := fun ns => by
    induction ns with
    | nil => rfl
    | cons n ns ih => simp only [List.map_cons, ndL, D.nd, ih, Bool.and_self]
  simp only [PenC, Cell.nd, ndL, D.nd, h, Bool.and_self]
/-- a sorted row -/
theorem asc_ex : ∀ {ws : WS}, VOk ws → ∃ vs : WS, vs.Perm ws ∧ Asc vs := fun {ws} H => by
  let vs := ws.mergeSort fun p q => !decide (q.1 < p.1)
  have pm : vs.Perm ws := List.mergeSort_perm _ _
  refine ⟨vs, pm, ?_⟩
  have tr : ∀ a b c : T × Nat, (!decide (b.1 < a.1)) = true → (!decide (c.1 < b.1)) = true → (!decide (c.1 < a.1)) = true := fun a b c h1 h2 => by
    have h1 : ¬ b.1 < a.1 := by simpa using h1
    have h2 : ¬ c.1 < b.1 := by simpa using h2
    have h3 : ¬ c.1 < a.1 := List.not_lt.mpr (List.le_trans (List.not_lt.mp h1) (List.not_lt.mp h2))
    simp only [h3, decide_false, Bool.not_false]
  have to : ∀ a b : T × Nat, (!decide (b.1 < a.1) || !decide (a.1 < b.1)) = true := fun a b => by
    rcases List.le_total a.1 b.1 with h | h
    · have : ¬ b.1 < a.1 := List.not_lt.mpr h
      simp [this]
    · have : ¬ a.1 < b.1 := List.not_lt.mpr h
      simp [this]
  have sp := List.pairwise_mergeSort tr to ws
  have nd := (H.perm pm).nd
  have nd' : vs.Pairwise fun p q => p.1 ≠ q.1 := List.pairwise_map.mp nd
  refine (List.Pairwise.and sp nd').imp fun {a b} h => ?_
  obtain ⟨h1, h2⟩ := h
  have h1 : ¬ b.1 < a.1 := by simpa using h1
  rcases Decidable.em (a.1 < b.1) with h | h
  · exact h
  · exact absurd (List.le_antisymm (List.not_lt.mp h1) (List.not_lt.mp h)) h2
section
variable {ws vs : WS} {x y o l : Option Nat} {ρ : VL.Env} {σ σ1 : Store} {f g : EV}
def TL (f : EV) : EV := eCall 1 d__law_told (elCons f elNil)
def DU (f g : EV) : EV := eCall 3 d__law_due (elCons (eVar 3) (elCons f (elCons g elNil)))
def RP (f g : EV) : EB := bOf (eOp oNe (eCB (c1 fRepr) (elCons f elNil)) (eCB (c1 fRepr) (elCons g elNil)))
theorem tl_at (H : VOk vs) (h : f ρ σ = .ok (.d (led vs x y)) σ) : TL f ρ σ = .ok (.d (toldD vs x y)) σ :=
  e_call1 (el1 h) (e_told H.nd (by have := H.few; omega) σ)
theorem du_at (H : VOk ws) (p : vs.Perm ws) (hv : Asc vs) (h0 : ρ[3]? = some (some (.d (.dct (ws.map kv))))) (h1 : f ρ σ = .ok (.d (optD x)) σ) (h2 : g ρ σ = .ok (.d (optD y)) σ) : DU f g ρ σ = .ok (.d (toldD vs x y)) σ :=
  e_call3 (el_c (e_var h0 σ) (el_c h1 (el1 h2))) (e_due H p hv _ _ σ)
theorem rp_at {d : D} (h1 : f ρ σ = .ok (.d d) σ) (h2 : g ρ σ = .ok (.d d) σ) {t : T} (hr : fRepr d σ = .ok (.d (.str t)) σ) : RP f g ρ σ = .ok false σ :=
  b_of (e_op2 (e_cb1 h1 hr) (e_cb1 h2 hr) (str_ne t σ))
theorem rp_due (H : VOk ws) (p : vs.Perm ws) (hv : Asc vs) (hx : capOk x) (hy : capOk y) {f1 f2 f3 : EV} (h0 : ρ[3]? = some (some (.d (.dct (ws.map kv))))) (h : f1 ρ σ = .ok (.d (led vs x y)) σ) (h1 : f2 ρ σ = .ok (.d (optD x)) σ) (h2 : f3 ρ σ = .ok (.d (optD y)) σ) : RP (TL f1) (DU f2 f3) ρ σ = .ok false σ :=
  rp_at (tl_at (H.perm p) h) (du_at H p hv h0 h1 h2) (r_due (H.perm p).own (H.perm p).few hx hy σ)
def WLN : T := [119, 105, 116, 104, 95, 108, 111, 97, 100]
def WRN : T := [119, 105, 116, 104, 95, 114, 117, 115, 104]
def WLk : EV := eMeth 1 2 WLN [0, 1] [] d_Ledger_with_load 0 1 (eVar 7) elNil (elCons (eVar 9) elNil)
def WLp : EV := eMeth 1 2 WLN [0, 1] [] d_Ledger_with_load 1 0 (eVar 7) (elCons (eVar 9) elNil) elNil
def WRp : EV := eMeth 1 2 WRN [0, 1] [] d_Ledger_with_rush 1 0 (eVar 7) (elCons (eVar 10) elNil) elNil
theorem wlk_at (H : VOk vs) (hv : Asc vs) (hy : capOk y) (ho : capOk o) (h7 : ρ[7]? = some (some (.d (led vs x y)))) (h9 : ρ[9]? = some (some (.d (optD o)))) : WLk ρ σ = .ok (.d (led vs o y)) σ :=
  meth_at (us := []) (wss := [.d (optD o)]) (x := .fn) (by decide) (e_var h7 σ) rfl (el1 (e_var h9 σ)) ⟨rfl, rfl⟩ (w_load H hv hy ho σ)
theorem wlp_at (H : VOk vs) (hv : Asc vs) (hy : capOk y) (ho : capOk o) (h7 : ρ[7]? = some (some (.d (led vs x y)))) (h9 : ρ[9]? = some (some (.d (optD o)))) : WLp ρ σ = .ok (.d (led vs o y)) σ :=
  meth_at (us := [.d (optD o)]) (wss := []) (x := .fn) (by decide) (e_var h7 σ) (el1 (e_var h9 σ)) rfl ⟨rfl, rfl⟩ (w_load H hv hy ho σ)
theorem wrp_at (H : VOk vs) (hv : Asc vs) (hx : capOk x) (hl : capOk l) (h7 : ρ[7]? = some (some (.d (led vs x y)))) (h10 : ρ[10]? = some (some (.d (optD l)))) : WRp ρ σ = .ok (.d (led vs x l)) σ :=
  meth_at (us := [.d (optD l)]) (wss := []) (x := .fn) (by decide) (e_var h7 σ) (el1 (e_var h10 σ)) rfl ⟨rfl, rfl⟩ (w_rush H hv hx hl σ)
theorem led_ins (vs : WS) (x y : Option Nat) : ∃ fs, led vs x y = .ins 1 fs := ⟨_, rfl⟩
theorem eqi_at {vs' : WS} {x' y' : Option Nat} (H1 : VOk vs) (H2 : VOk vs') (hx : capOk x) (hy : capOk y) (hx' : capOk x') (hy' : capOk y') (h1 : f ρ σ = .ok (.d (led vs x y)) σ1) (h2 : g ρ σ1 = .ok (.d (led vs' x' y')) σ1) : eEqI 1 d_Ledger___eq__ f g ρ σ = .ok (.d (.bl (decide (vs = vs' ∧ x = x' ∧ y = y')))) σ1 := by
  have q := e_eq (a := x) (b := y) (c := x') (d := y') H1.own H2.own hx hy hx' hy' σ1
  unfold eEqI
  rw [h1, R.bind_ok, h2, R.bind_ok]
  obtain ⟨f1, e1⟩ := led_ins vs x y
  obtain ⟨f2, e2⟩ := led_ins vs' x' y'
  rw [e1, e2] at q ⊢
  unfold gEqI
  simp only
  rw [if_pos ⟨trivial, trivial⟩, q]
theorem nei_at {vs' : WS} {x' y' : Option Nat} (H1 : VOk vs) (H2 : VOk vs') (hx : capOk x) (hy : capOk y) (hx' : capOk x') (hy' : capOk y') (h1 : f ρ σ = .ok (.d (led vs x y)) σ1) (h2 : g ρ σ1 = .ok (.d (led vs' x' y')) σ1) : eNeI 1 d_Ledger___eq__ f g ρ σ = .ok (.d (.bl (!decide (vs = vs' ∧ x = x' ∧ y = y')))) σ1 := by
  have q := e_eq (a := x) (b := y) (c := x') (d := y') H1.own H2.own hx hy hx' hy' σ1
  unfold eNeI
  rw [h1, R.bind_ok, h2, R.bind_ok]
  obtain ⟨f1, e1⟩ := led_ins vs x y
  obtain ⟨f2, e2⟩ := led_ins vs' x' y'
  rw [e1, e2] at q ⊢
  unfold gNeI
  simp only
  rw [if_pos ⟨trivial, trivial⟩, q]
theorem eqo_at {d : D} (hd : othD d = true) (h1 : f ρ σ = .ok (.d (led vs x y)) σ) (h2 : g ρ σ = .ok (.d d) σ) : eEqO 1 d_Ledger___eq__ f g ρ σ = .ok (.d (.bl false)) σ := by
  have q := e_eqo (ws := vs) (a := x) (b := y) hd σ
  unfold eEqO
  rw [h1, R.bind_ok, h2, R.bind_ok]
  obtain ⟨f1, e1⟩ := led_ins vs x y
  rw [e1] at q ⊢
  unfold gEqO
  simp only
  rw [if_pos ⟨trivial, hd⟩, q]
theorem opt_eq (hx : capOk x) (hy : capOk y) (σ : Store) : oEq (optD x) (optD y) σ = .ok (.d (.bl (decide (x = y)))) σ := by
  have h0 := @opt_dep x
  have h1 := @opt_dep y
  rw [eq_nice (opt_nice hx) (opt_nice hy) (by omega) (by omega), eqv_opt]
theorem opt_ne (hx : capOk x) (hy : capOk y) (σ : Store) : oNe (optD x) (optD y) σ = .ok (.d (.bl (!decide (x = y)))) σ := by
  unfold oNe
  rw [opt_eq hx hy]
  rfl
theorem bl_ne (b : Bool) (σ : Store) : oNe (.bl b) (.bl b) σ = .ok (.d (.bl false)) σ := by simp [oNe, oEq, bNot]
/-! ### the four tests -/
def T9 : EB := RP (TL WLk) (DU (eVar 9) (eVar 5))
def T10 : EB := bOr (RP (TL WRp) (DU (eVar 4) (eVar 10))) (bOf (eOp oNe (eEqI 1 d_Ledger___eq__ WLp (eVar 7)) (eOp oEq (eVar 9) (eVar 4))))
def T12 : EB := bOr (bOf (eNeI 1 d_Ledger___eq__ (eVar 11) (eVar 7))) (bOr (bOf (eOp oNe (eNeI 1 d_Ledger___eq__ WRp (eVar 7)) (eOp oNe (eVar 10) (eVar 5)))) (bOr (bOf (eEqO 1 d_Ledger___eq__ (eVar 7) (eTup (elCons (eVar 3) (elCons (eVar 4) (elCons (eVar 5) elNil)))))) (bOf (eEqO 1 d_Ledger___eq__ (eVar 7) (eC .non)))))
/-- what a turn knows -/
structure En (ρ : VL.Env) (ws vs : WS) (x y : Option Nat) : Prop where
  len : ρ.length = 13
  pen : ρ[1]? = some (some (.loc 0))
  w : ρ[3]? = some (some (.d (.dct (ws.map kv))))
  l : ρ[4]? = some (some (.d (optD x)))
  r : ρ[5]? = some (some (.d (optD y)))
  m : ρ[7]? = some (some (.d (led vs x y)))
theorem En.set {ρ : VL.Env} (h : En ρ ws vs x y) (i : Nat) (hi : i ≠ 1 ∧ i ≠ 3 ∧ i ≠ 4 ∧ i ≠ 5 ∧ i ≠ 7) (z : Option U) : En (ρ.set i z) ws vs x y :=
  ⟨by rw [List.length_set]; exact h.len, sg_ne hi.1 h.pen, sg_ne hi.2.1 h.w, sg_ne hi.2.2.1 h.l, sg_ne hi.2.2.2.1 h.r, sg_ne hi.2.2.2.2 h.m⟩
structure Ok (ws vs : WS) (x y : Option Nat) : Prop where
  H : VOk ws
  p : vs.Perm ws
  a : Asc vs
  x : capOk x
  y : capOk y
theorem t7 (K : Ok ws vs x y) (E : En ρ ws vs x y) (σ : Store) : RP (TL (eVar 7)) (DU (eVar 4) (eVar 5)) ρ σ = .ok false σ :=
  rp_due K.H K.p K.a K.x K.y E.w (e_var E.m σ) (e_var E.l σ) (e_var E.r σ)
theorem t9 (K : Ok ws vs x y) (E : En ρ ws vs x y) (ho : capOk o) (h9 : ρ[9]? = some (some (.d (optD o)))) (σ : Store) : T9 ρ σ = .ok false σ :=
  rp_due K.H K.p K.a ho K.y E.w (wlk_at (K.H.perm K.p) K.a K.y ho E.m h9) (e_var h9 σ) (e_var E.r σ)
theorem t10 (K : Ok ws vs x y) (E : En ρ ws vs x y) (ho : capOk o) (hl : capOk l) (h9 : ρ[9]? = some (some (.d (optD o)))) (h10 : ρ[10]? = some (some (.d (optD l)))) (σ : Store) : T10 ρ σ = .ok false σ := by
  refine b_orF (rp_due K.H K.p K.a K.x hl E.w (wrp_at (K.H.perm K.p) K.a K.x hl E.m h10) (e_var E.l σ) (e_var h10 σ)) (b_of ?_)
  have Hv := K.H.perm K.p
  have e1 := eqi_at Hv Hv ho K.y K.x K.y (wlp_at (σ := σ) Hv K.a K.y ho E.m h9) (e_var E.m σ)
  have e2 : eOp oEq (eVar 9) (eVar 4) ρ σ = .ok (.d (.bl (decide (o = x)))) σ := e_op2 (e_var h9 σ) (e_var E.l σ) (opt_eq ho K.x σ)
  have e3 : decide (vs = vs ∧ o = x ∧ y = y) = decide (o = x) := by simp
  rw [e3] at e1
  exact e_op2 e1 e2 (bl_ne _ σ)
theorem tup3 (E : En ρ ws vs x y) (σ : Store) : eTup (elCons (eVar 3) (elCons (eVar 4) (elCons (eVar 5) elNil))) ρ σ = .ok (.d (.tup [.dct (ws.map kv), optD x, optD y])) σ := by
  have three : 3 ≤ sizeLine := by rw [sl_eq]; omega
  unfold eTup
  rw [el_c (e_var E.w σ) (el_c (e_var E.l σ) (el1 (e_var E.r σ))), R.bind_ok]
  unfold gTupD
  simp [frzs, three]
theorem t12 (K : Ok ws vs x y) (E : En ρ ws vs x y) (hl : capOk l) (h10 : ρ[10]? = some (some (.d (optD l)))) (h11 : ρ[11]? = some (some (.d (led vs x y)))) (σ : Store) : T12 ρ σ = .ok false σ := by
  have Hv := K.H.perm K.p
  have e1 := nei_at Hv Hv K.x K.y K.x K.y (e_var h11 σ) (e_var E.m σ)
  have n1 : (!decide (vs = vs ∧ x = x ∧ y = y)) = false := by simp
  rw [n1] at e1
  have e2 := nei_at Hv Hv K.x hl K.x K.y (wrp_at (σ := σ) Hv K.a K.x hl E.m h10) (e_var E.m σ)
  have e3 : eOp oNe (eVar 10) (eVar 5) ρ σ = .ok (.d (.bl (!decide (l = y)))) σ := e_op2 (e_var h10 σ) (e_var E.r σ) (opt_ne hl K.y σ)
  have n2 : (!decide (vs = vs ∧ x = x ∧ l = y)) = (!decide (l = y)) := by simp
  rw [n2] at e2
  exact b_orF (b_of e1) (b_orF (b_of (e_op2 e2 e3 (bl_ne _ σ))) (b_orF (b_of (eqo_at rfl (e_var E.m σ) (tup3 E σ))) (b_of (eqo_at rfl (e_var E.m σ) rfl))))
end
end K80

/-! k80: a turn of the law. -/
namespace K80
open PySem PySem.Spec PySem.NumText PyProof.Rows L2 LamX VL VD
def gF : GS := gRet (eC (.bl false))
def MK7 : EV := eMakeD 1 1 2 d_Ledger___init__ [0, 1, 2, 3] [] (elCons (eVar 6) elNil) (elCons (eVar 4) (elCons (eVar 5) elNil))
def MKr : EV := eMakeD 1 0 3 d_Ledger___init__ [0, 1, 3, 2] [] elNil (elCons (eLk (eCB (c1 fDict) (elCons (eRev false (eItems (eVar 3))) elNil))) (elCons (eVar 5) (elCons (eVar 4) elNil)))
def MKm : EV := eMakeD 1 1 2 d_Ledger___init__ [0, 1, 2, 3] [] (elCons (eLk (eVar 12)) elNil) (elCons (eVar 4) (elCons (eVar 5) elNil))
def CAPS : EL := (elCons (eCall 1 d__law_cap (elCons (eVar 1) elNil)) (elCons (eCall 1 d__law_cap (elCons (eVar 1) elNil)) elNil))
def RPS : EV := (eOp (oAdd false) (eOp (oAdd false) (eC (.str LEDG)) (eCB (c1 fStr) (elCons (eCB (c1 fLenX) (elCons (eVar 3) elNil)) elNil))) (eC (.str WTS)))
def T15 : EB := bOr (bIf (bOf (eOp oLt (eCB (c1 fLenX) (elCons (eVar 12) elNil)) (eC (.int 9)))) (bOf (eEqI 1 d_Ledger___eq__ MKm (eVar 7))) (bOf (eC (.bl false)))) (bOf (eOp oNe (eStrI 1 d_Ledger___repr__ (eVar 7)) RPS))
def T16 : EB := bNeg (bOf (eCall 4 d__law_refused_right (elCons (eVar 1) (elCons (eVar 3) (elCons (eVar 4) (elCons (eVar 5) elNil))))))
def gTurn : GS := (gSeq (gPar3 3 4 5 (elCons (eCall 1 d__law_weights (elCons (eVar 1) elNil)) CAPS))
  (gSeq (gSet 6 (eCB (c1 fDict) (elCons (eVar 3) elNil)))
  (gSeq (gSet 7 (eLoan 6 MK7))
  (gSeq (gPutX (eVar 6) (eC (.str [113])) (eC (.int 3)))
  (gSeq (gSet 8 (eProp 1 d_Ledger_weights (eVar 7)))
  (gSeq (gPutX (eVar 8) (eC (.str [114])) (eC (.int 4)))
  (gSeq (gIf (RP (TL (eVar 7)) (DU (eVar 4) (eVar 5))) gF VL.gNil)
  (gSeq (gPar 9 10 CAPS)
  (gSeq (gIf T9 gF VL.gNil)
  (gSeq (gIf T10 gF VL.gNil)
  (gSeq (gSet 11 MKr)
  (gSeq (gIf T12 gF VL.gNil)
  (gSeq (gSet 12 (eCB (c1 fDict) (elCons (eVar 3) elNil)))
  (gSeq (gPutX (eVar 12) (eC (.str [110])) (eC (.int 0)))
  (gSeq (gIf T15 gF VL.gNil)
  (gIf T16 gF VL.gNil))))))))))))))))
def gEnd : GS := (gRet (eAnd (eOp oEq (eCall 1 d__law_told (elCons (eMakeD 1 1 0 d_Ledger___init__ [0, 1, 2, 3] [.non, .non] (elCons eD0 elNil) elNil) elNil)) (eLst false (elCons (eLst false elNil) (elCons (eTup elNil) (elCons (eC .non) (elCons (eC .non) elNil)))))) (eAnd (eEqI 1 d_Ledger___eq__ (eMakeD 1 1 0 d_Ledger___init__ [0, 1, 2, 3] [.non, .non] (elCons eD0 elNil) elNil) (eMakeD 1 1 1 d_Ledger___init__ [0, 1, 2, 3] [.non] (elCons eD0 elNil) (elCons (eC .non) elNil))) (eNeI 1 d_Ledger___eq__ (eMakeD 1 1 0 d_Ledger___init__ [0, 1, 2, 3] [.non, .non] (elCons eD0 elNil) elNil) (eMakeD 1 1 1 d_Ledger___init__ [0, 1, 2, 3] [.non] (elCons eD0 elNil) (elCons (eC (.int 0)) elNil))))))
theorem g_law_eq : g_law = gSeq (gSet 1 (eCall 1 d__law_pen (elCons (eVar 0) elNil))) (gSeq (gFor (dRange1 (elCons (eC (.int 8)) elNil)) (tName 2) gTurn) gEnd) := rfl
section
variable {ws vs : WS} {x y o l : Option Nat} {ρ : VL.Env} {σ σ1 q : Store} {f g : EV} {ns : List Int} {a : Nat} {c : Int}
theorem all_app {q : Store} {X : Cell} (h : q.all Cell.nd = true) (hX : X.nd = true) : (q ++ [X]).all Cell.nd = true := by
  rw [List.all_append, h]
  simp [hX]
theorem caps_at (h1 : ρ[1]? = some (some (.loc 0))) (ha : a + 10 ≤ 100000) : ∃ (o l : Option Nat) (a' : Nat) (c' : Int), CAPS ρ (PenC ns a c :: q) = .ok [.d (optD o), .d (optD l)] (PenC ns a' c' :: q) ∧ capOk o ∧ capOk l ∧ a' ≤ a + 4 := by
  obtain ⟨o, a1, c1', e1, b1, ho⟩ := e_cdraw (τ := PenC ns a c :: q) (p := 0) rfl (by omega)
  obtain ⟨l, a2, c2', e2, b2, hl⟩ := e_cdraw (τ := PenC ns a1 c1' :: q) (p := 0) rfl (by omega)
  exact ⟨o, l, a2, c2', el_c (e_call1 (el1 (e_var h1 _)) e1) (el1 (e_call1 (el1 (e_var h1 _)) e2)), ho, hl, by omega⟩
theorem s_draws (h1 : ρ[1]? = some (some (.loc 0))) (ha : a + 50 ≤ 100000) : ∃ (ws : WS) (x y : Option Nat) (a' : Nat) (c' : Int), gPar3 3 4 5 (elCons (eCall 1 d__law_weights (elCons (eVar 1) elNil)) CAPS) ρ (PenC ns a c :: q) =
    .nx (((ρ.set 3 (some (.d (.dct (ws.map kv))))).set 4 (some (.d (optD x)))).set 5 (some (.d (optD y)))) (PenC ns a' c' :: q) ∧ VOk ws ∧ (∀ p ∈ ws, p.1 ∈ NAMES) ∧ capOk x ∧ capOk y ∧ a' ≤ a + 29 := by
  obtain ⟨ws, a1, c1', e1, b1, H, hn⟩ := e_wdraw (τ := PenC ns a c :: q) (p := 0) rfl (by omega)
  obtain ⟨x, y, a2, c2', e2, hx, hy, b2⟩ := caps_at (ns := ns) (a := a1) (c := c1') (q := q) h1 (by omega)
  exact ⟨ws, x, y, a2, c2', g_par3 (el_c (e_call1 (el1 (e_var h1 _)) e1) e2), H, hn, hx, hy, by omega⟩
theorem dict_at {i : Nat} {k : List (Ky × D)} (h : ρ[i]? = some (some (.d (.dct k)))) : eCB (c1 fDict) (elCons (eVar i) elNil) ρ σ = .ok (.loc σ.length) (σ ++ [.dct k]) := e_cb1 (e_var h σ) rfl
theorem put_at {i n : Nat} {k : List (Ky × D)} {t : T} {v : Int} (h : ρ[i]? = some (some (.loc n))) (hs : σ[n]? = some (.dct k)) (hl : k.length ≤ 100) : gPutX (eVar i) (eC (.str t)) (eC (.int v)) ρ σ = .nx ρ (σ.set n (.dct (dput k (.inr t) (.int v)))) := by
  have h' : k.length < sizeLine := by rw [sl_eq]; omega
  simp [callD, outR, retU, gSeq, gIf, gRet, gRetN, gSet, gExpr, VL.gNil, gNever, gUnp, gPar, gPar3, eVar, eC, elNil, elCons, eCall, gCall, eCB, gCB, vws_cons, vws_nil, c1, c2, eOp, opD, bOf, bAnd, bOr, bNeg, eAnd, eOr, eNot, eIf, eIs, isN, eIsi, D.ty, isTy, eChain, oLe, oLt, oGt, oGe, oEq, oNe, bNot, oAdd, oSub, fLen, fLenD, D.seq, eTup, gTupD, frzs, eLst, gLstD, allocL, eIx, oIx, fMin, take_self, R.bind, liftE, RS.seq, tName, tTupN, tNames, eMt, gMt, tyD, gPutX, frz, h, putX, hs, D.ky, h']
theorem loan_at {n : Nat} (K : Ok ws vs x y) (h6 : ρ[6]? = some (some (.loc n))) (h4 : ρ[4]? = some (some (.d (optD x)))) (h5 : ρ[5]? = some (some (.d (optD y)))) (hl : 6 < ρ.length) (hs : σ[n]? = some (.dct (ws.map kv))) (hn : σ.all Cell.nd = true) : eLoan 6 MK7 ρ σ = .ok (.d (led vs x y)) σ := by
  have g6 : (ρ.set 6 (some (.d (.dct (ws.map kv)))))[6]? = some (some (.d (.dct (ws.map kv)))) := sg_self hl
  have g4 : (ρ.set 6 (some (.d (.dct (ws.map kv)))))[4]? = some (some (.d (optD x))) := sg_ne (by decide) h4
  have g5 : (ρ.set 6 (some (.d (.dct (ws.map kv)))))[5]? = some (some (.d (optD y))) := sg_ne (by decide) h5
  have mk : MK7 (ρ.set 6 (some (.d (.dct (ws.map kv))))) (σ.set n .dead) = .ok (.d (led vs x y)) (σ.set n .dead) :=
    e_mkD (us := [.d (.dct (ws.map kv))]) (wss := [.d (optD x), .d (optD y)]) (el1 (e_var g6 _)) (el_c (e_var g4 _) (el1 (e_var g5 _))) ⟨rfl, rfl⟩ (e_mk K.H K.p K.a K.x K.y _ rfl)
  have hb : (σ.set n .dead).all Cell.nd = true := List.all_eq_true.mpr fun X m => by
    rcases List.mem_or_eq_of_mem_set m with m | e
    · exact List.all_eq_true.mp hn X m
    · rw [e]; rfl
  have hself : (σ.set n .dead).set n (.dct (ws.map kv)) = σ := by
    obtain ⟨h, e⟩ := List.getElem?_eq_some_iff.mp hs
    rw [List.set_set, ← e]
    exact List.set_getElem_self h
  unfold eLoan
  rw [h6]
  simp only
  rw [hs]
  simp only
  rw [mk]
  simp only
  rw [if_pos ⟨nd_led vs x y, hb⟩, hself]
theorem prop_w (K : Ok ws vs x y) (h7 : ρ[7]? = some (some (.d (led vs x y)))) : eProp 1 d_Ledger_weights (eVar 7) ρ σ = .ok (.loc σ.length) (σ ++ [.dct (vs.map kv)]) := by
  unfold eProp
  rw [e_var h7 σ, R.bind_ok]
  exact prop_at rfl (p_weights (K.H.perm K.p).nd σ)
theorem map_rev_rows (ws : WS) : (ws.map rowD).reverse = ws.reverse.map rowD := (List.map_reverse ..).symm
theorem mkr_at (K : Ok ws vs x y) (E : En ρ ws vs x y) (σ : Store) : MKr ρ σ = .ok (.d (led vs x y)) (σ ++ [.dead]) := by
  have hf := K.H.few
  have i1 : eItems (eVar 3) ρ σ = .ok (.d (.lst (ws.map rowD))) σ := by
    unfold eItems
    rw [e_var E.w σ, R.bind_ok]
    exact items_kv (by omega) σ
  have i2 : eRev false (eItems (eVar 3)) ρ σ = .ok (.d (.lst (ws.reverse.map rowD))) σ := by
    unfold eRev
    rw [i1, R.bind_ok]
    simp only [vw_d, allocL_f, map_rev_rows]
  have pm : (ws.reverse).Perm ws := List.reverse_perm ws
  have Hr := K.H.perm pm
  have i3 : eCB (c1 fDict) (elCons (eRev false (eItems (eVar 3))) elNil) ρ σ = .ok (.loc σ.length) (σ ++ [.dct (ws.reverse.map kv)]) := by
    refine e_cb1 i2 ?_
    unfold fDict
    simp only [pairs_rows, merge_kv Hr.nd]
    rfl
  have i4 : eLk (eCB (c1 fDict) (elCons (eRev false (eItems (eVar 3))) elNil)) ρ σ = .ok (.d (.dct (ws.reverse.map kv))) (σ ++ [.dead]) := by
    unfold eLk
    rw [i3, R.bind_ok]
    simp only [get_last, set_last]
  have e := e_mk Hr (K.p.trans pm.symm) K.a K.x K.y (σ ++ [.dead]) (os := [0, 1, 3, 2]) (dvs := []) (us := []) (wss := [.d (.dct (ws.reverse.map kv)), .d (optD y), .d (optD x)]) rfl
  unfold MKr eMakeD
  rw [el0, R.bind_ok, el_c i4 (el_c (e_var E.r _) (el1 (e_var E.l _))), R.bind_ok, if_pos ⟨rfl, rfl⟩]
  exact e
theorem strI_at (K : Ok ws vs x y) (h7 : ρ[7]? = some (some (.d (led vs x y)))) (σ : Store) : eStrI 1 d_Ledger___repr__ (eVar 7) ρ σ = .ok (.d (.str ((LEDG ++ itx (vs.length : Nat)) ++ WTS))) σ := by
  have q := e_repr (vs := vs) (a := x) (b := y) (by have := (K.H.perm K.p).few; omega) σ
  unfold eStrI
  rw [e_var h7 σ, R.bind_ok]
  obtain ⟨f1, e1⟩ := led_ins vs x y
  rw [e1] at q ⊢
  unfold gStrI
  simp only
  rw [if_pos trivial, q]
theorem rps_at (K : Ok ws vs x y) (E : En ρ ws vs x y) (σ : Store) : RPS ρ σ = .ok (.d (.str ((LEDG ++ itx (vs.length : Nat)) ++ WTS))) σ := by
  have hl : vs.length = ws.length := K.p.length_eq
  have hf := K.H.few
  rw [hl]
  have l1 := itx_short (n := ws.length) (by omega)
  have lg : (ws.length : Nat).log2 < 1920 := log_ok (Nat.lt_of_le_of_lt hf (by decide))
  have i1 : eCB (c1 fLenX) (elCons (eVar 3) elNil) ρ σ = .ok (.d (.int (ws.length : Nat))) σ := by
    refine e_cb1 (e_var E.w σ) ?_
    show R.ok (U.d (.int ((ws.map kv).length : Nat))) σ = _
    rw [List.length_map]
  have i2 : eCB (c1 fStr) (elCons (eCB (c1 fLenX) (elCons (eVar 3) elNil)) elNil) ρ σ = .ok (.d (.str (itx (ws.length : Nat)))) σ := by
    refine e_cb1 i1 ?_
    unfold fStr
    simp only
    rw [if_pos (by rw [Int.natAbs_natCast]; exact lg)]
  have z1 : LEDG.length + (itx ((ws.length : Nat) : Int)).length ≤ sizeLine := by rw [sl_eq]; have : LEDG.length = 7 := rfl; omega
  have z2 : (LEDG ++ itx ((ws.length : Nat) : Int)).length + WTS.length ≤ sizeLine := by rw [sl_eq, List.length_append]; have : LEDG.length = 7 := rfl; have : WTS.length = 9 := rfl; omega
  exact e_op2 (e_op2 rfl i2 (if_pos z1)) rfl (if_pos z2)
theorem n_own : isOwn [110] = true := by decide
theorem t15 {n : Nat} (K : Ok ws vs x y) (hN : ∀ p ∈ ws, p.1 ∈ NAMES) (E : En ρ ws vs x y) (h12 : ρ[12]? = some (some (.loc n))) (hs : σ[n]? = some (.dct (dput (ws.map kv) (.inr [110]) (.int 0)))) : ∃ σ', T15 ρ σ = .ok false σ' ∧ (σ' = σ ∨ σ' = σ.set n .dead) := by
  have hf := K.H.few
  have fresh : ∀ p ∈ ws, p.1 ≠ ([110], 0).1 := fun p m e => by
    have := hN p m
    rw [e] at this
    exact absurd this (by decide)
  have ed : dput (ws.map kv) (.inr [110]) (.int 0) = (ws ++ [([110], 0)]).map kv := dput_new (p := ([110], 0)) fresh
  rw [ed] at hs
  have i1 : eCB (c1 fLenX) (elCons (eVar 12) elNil) ρ σ = .ok (.d (.int ((ws.length + 1 : Nat) : Int))) σ := by
    unfold eCB
    rw [el1 (e_var h12 σ), R.bind_ok]
    unfold gCB
    have : vws σ [.loc n] = some [.dct ((ws ++ [([110], 0)]).map kv)] := by
      show (match vw σ (.loc n), some ([] : List D) with
        | some d, some ds => some (d :: ds)
        | _, _ => none) = _
      have : vw σ (.loc n) = some (.dct ((ws ++ [([110], 0)]).map kv)) := by unfold vw; simp only [hs]
      rw [this]
    rw [this]
    show R.ok (U.d (.int (((ws ++ [([110], 0)]).map kv).length : Nat))) σ = _
    rw [List.length_map, List.length_append]
    rfl
  have i2 : bOf (eOp oLt (eCB (c1 fLenX) (elCons (eVar 12) elNil)) (eC (.int 9))) ρ σ = .ok (decide (((ws.length + 1 : Nat) : Int) < 9)) σ := b_of (e_op2 i1 rfl rfl)
  have fin : ∀ σ', bOf (eOp oNe (eStrI 1 d_Ledger___repr__ (eVar 7)) RPS) ρ σ' = .ok false σ' := fun σ' => b_of (e_op2 (strI_at K E.m σ') (rps_at K E σ') (str_ne _ σ'))
  by_cases h9 : ws.length + 1 < 9
  · have d9 : decide (((ws.length + 1 : Nat) : Int) < 9) = true := decide_eq_true (by omega)
    rw [d9] at i2
    have Hm : VOk (ws ++ [([110], 0)]) := ⟨by simp; omega, fun p m => by
      rcases List.mem_append.mp m with m | m
      · exact K.H.own p m
      · rw [List.mem_singleton.mp m]; exact ⟨n_own, by decide⟩, by
      rw [List.map_append]
      refine List.nodup_append.mpr ⟨K.H.nd, by simp, fun t ht u hu => ?_⟩
      have hu : u = [110] := by simpa using hu
      subst hu
      obtain ⟨p, m, rfl⟩ := List.mem_map.mp ht
      exact fresh p m⟩
    obtain ⟨vm, pm, am⟩ := asc_ex Hm
    have i3 : eLk (eVar 12) ρ σ = .ok (.d (.dct ((ws ++ [([110], 0)]).map kv))) (σ.set n .dead) := by
      unfold eLk
      rw [e_var h12 σ, R.bind_ok]
      simp only [hs]
    have i4 : MKm ρ σ = .ok (.d (led vm x y)) (σ.set n .dead) := by
      have e := e_mk Hm pm am K.x K.y (σ.set n .dead) (os := [0, 1, 2, 3]) (dvs := []) (us := [.d (.dct ((ws ++ [([110], 0)]).map kv))]) (wss := [.d (optD x), .d (optD y)]) rfl
      unfold MKm eMakeD
      rw [el1 i3, R.bind_ok, el_c (e_var E.l _) (el1 (e_var E.r _)), R.bind_ok, if_pos ⟨rfl, rfl⟩]
      exact e
    have i5 := eqi_at (Hm.perm pm) (K.H.perm K.p) K.x K.y K.x K.y i4 (e_var E.m (σ.set n .dead))
    have ne : ¬ vm = vs := fun e => by
      have l1 := pm.length_eq
      have l2 := K.p.length_eq
      rw [e, List.length_append] at l1
      simp at l1
      omega
    have d0 : decide (vm = vs ∧ x = x ∧ y = y) = false := decide_eq_false fun h => ne h.1
    rw [d0] at i5
    exact ⟨_, b_orF (b_if i2 (b_of i5)) (fin _), .inr rfl⟩
  · have d9 : decide (((ws.length + 1 : Nat) : Int) < 9) = false := decide_eq_false (by omega)
    rw [d9] at i2
    exact ⟨_, b_orF (b_if i2 (b_of rfl)) (fin _), .inl rfl⟩
theorem t16 (K : Ok ws vs x y) (E : En ρ ws vs x y) (ha : a + 5 ≤ 100000) : ∃ (a' : Nat) (c' : Int), T16 ρ (PenC ns a c :: q) = .ok false (PenC ns a' c' :: q) ∧ a' ≤ a + 3 := by
  obtain ⟨a', c', e, b⟩ := e_ref (τ := PenC ns a c :: q) (p := 0) rfl K.H K.p K.a K.x K.y ha
  exact ⟨a', c', b_neg (b_of (e_call4 (el_c (e_var E.pen _) (el_c (e_var E.w _) (el_c (e_var E.l _) (el1 (e_var E.r _))))) e)), b⟩
end
end K80

/-! k80: the law. -/
namespace K80
open PySem PySem.Spec PySem.NumText PyProof.Rows L2 LamX VL VD
section
variable {ρ : VL.Env} {q : Store} {ns : List Int} {a : Nat} {c : Int}
theorem all_set {q : Store} {n : Nat} {X : Cell} (h : q.all Cell.nd = true) (hX : X.nd = true) : (q.set n X).all Cell.nd = true := List.all_eq_true.mpr fun Y m => by
  rcases List.mem_or_eq_of_mem_set m with m | e
  · exact List.all_eq_true.mp h Y m
  · rw [e]; exact hX
theorem turn (hn : ρ.length = 13) (h1 : ρ[1]? = some (some (.loc 0))) (hq : q.all Cell.nd = true) (ha : a + 60 ≤ 100000) :
    ∃ (ρ' : VL.Env) (a' : Nat) (c' : Int) (q' : Store), gTurn ρ (PenC ns a c :: q) = .nx ρ' (PenC ns a' c' :: q') ∧ ρ'.length = 13 ∧ ρ'[1]? = some (some (.loc 0)) ∧ q'.all Cell.nd = true ∧ a' ≤ a + 50 := by
  obtain ⟨ws, x, y, a1, c1', s1, H, hN, hx, hy, b1⟩ := s_draws (ns := ns) (c := c) (q := q) h1 (a := a) (by omega)
  obtain ⟨vs, pm, am⟩ := asc_ex H
  have K : Ok ws vs x y := ⟨H, pm, am, hx, hy⟩
  have hf := H.few
  have few : (ws.map kv).length ≤ 100 := by rw [List.length_map]; omega
  have fewv : (vs.map kv).length ≤ 100 := by rw [List.length_map, pm.length_eq]; omega
  -- the drawn ones
  obtain ⟨ρ1, e1⟩ : ∃ ρ1, ((ρ.set 3 (some (.d (.dct (ws.map kv))))).set 4 (some (.d (optD x)))).set 5 (some (.d (optD y))) = ρ1 := ⟨_, rfl⟩
  have n1 : ρ1.length = 13 := by rw [← e1]; simp [hn]
  have p1 : ρ1[1]? = some (some (.loc 0)) := by rw [← e1]; exact sg_ne (by decide) (sg_ne (by decide) (sg_ne (by decide) h1))
  have w1 : ρ1[3]? = some (some (.d (.dct (ws.map kv)))) := by rw [← e1]; exact sg_ne (by decide) (sg_ne (by decide) (sg_self (by omega)))
  have l1 : ρ1[4]? = some (some (.d (optD x))) := by rw [← e1]; exact sg_ne (by decide) (sg_self (by simp; omega))
  have r1 : ρ1[5]? = some (some (.d (optD y))) := by rw [← e1]; exact sg_self (by simp; omega)
  rw [e1] at s1
  -- given
  obtain ⟨σ1, f1⟩ : ∃ σ1, PenC ns a1 c1' :: q = σ1 := ⟨_, rfl⟩
  have hb1 : σ1.all Cell.nd = true := by rw [← f1, List.all_cons, nd_pen, hq]; rfl
  rw [f1] at s1
  have s2 := g_set (i := 6) (dict_at (σ := σ1) w1)
  obtain ⟨ρ2, e2⟩ : ∃ ρ2, ρ1.set 6 (some (.loc σ1.length)) = ρ2 := ⟨_, rfl⟩
  have n2 : ρ2.length = 13 := by rw [← e2]; simp [n1]
  have g6 : ρ2[6]? = some (some (.loc σ1.length)) := by rw [← e2]; exact sg_self (by omega)
  have p2 : ρ2[1]? = some (some (.loc 0)) := by rw [← e2]; exact sg_ne (by decide) p1
  have w2 : ρ2[3]? = some (some (.d (.dct (ws.map kv)))) := by rw [← e2]; exact sg_ne (by decide) w1
  have l2 : ρ2[4]? = some (some (.d (optD x))) := by rw [← e2]; exact sg_ne (by decide) l1
  have r2 : ρ2[5]? = some (some (.d (optD y))) := by rw [← e2]; exact sg_ne (by decide) r1
  rw [e2] at s2
  have hb2 : (σ1 ++ [Cell.dct (ws.map kv)]).all Cell.nd = true := all_app hb1 (nd_kv ws)
  -- made
  have s3 := g_set (i := 7) (loan_at K g6 l2 r2 (by omega) (get_last σ1 _) hb2)
  obtain ⟨ρ3, e3⟩ : ∃ ρ3, ρ2.set 7 (some (.d (led vs x y))) = ρ3 := ⟨_, rfl⟩
  have E3 : En ρ3 ws vs x y := by
    refine ⟨by rw [← e3]; simp [n2], ?_, ?_, ?_, ?_, by rw [← e3]; exact sg_self (by omega)⟩
    · rw [← e3]; exact sg_ne (by decide) p2
    · rw [← e3]; exact sg_ne (by decide) w2
    · rw [← e3]; exact sg_ne (by decide) l2
    · rw [← e3]; exact sg_ne (by decide) r2
  have g36 : ρ3[6]? = some (some (.loc σ1.length)) := by rw [← e3]; exact sg_ne (by decide) g6
  rw [e3] at s3
  have s4 := put_at (t := [113]) (v := 3) g36 (get_last σ1 (.dct (ws.map kv))) few
  rw [set_last] at s4
  obtain ⟨σ2, f2⟩ : ∃ σ2, σ1 ++ [Cell.dct (dput (ws.map kv) (.inr [113]) (.int 3))] = σ2 := ⟨_, rfl⟩
  have hb3 : σ2.all Cell.nd = true := by rw [← f2]; exact all_app hb1 (nd_put (nd_kv ws) rfl)
  rw [f2] at s4
  -- told
  have s5 := g_set (i := 8) (prop_w (σ := σ2) K E3.m)
  obtain ⟨ρ4, e4⟩ : ∃ ρ4, ρ3.set 8 (some (.loc σ2.length)) = ρ4 := ⟨_, rfl⟩
  have E4 : En ρ4 ws vs x y := by rw [← e4]; exact E3.set 8 (by decide) _
  have g48 : ρ4[8]? = some (some (.loc σ2.length)) := by rw [← e4]; exact sg_self (by rw [E3.len]; decide)
  rw [e4] at s5
  have s6 := put_at (t := [114]) (v := 4) g48 (get_last σ2 (.dct (vs.map kv))) fewv
  rw [set_last] at s6
  obtain ⟨q3, f3⟩ : ∃ q3, σ2 ++ [Cell.dct (dput (vs.map kv) (.inr [114]) (.int 4))] = PenC ns a1 c1' :: q3 := by
    rw [← f2, ← f1]; exact ⟨_, rfl⟩
  have hb4 : (PenC ns a1 c1' :: q3).all Cell.nd = true := by rw [← f3]; exact all_app hb3 (nd_put (nd_kv vs) rfl)
  rw [f3] at s6
  have s7 := g_ifF (g := gF) (t7 K E4 (PenC ns a1 c1' :: q3))
  -- other, less
  obtain ⟨o, l, a2, c2', q8, ho, hl, b2⟩ := caps_at (ns := ns) (a := a1) (c := c1') (q := q3) E4.pen (by omega)
  have s8 := g_par (i := 9) (j := 10) q8
  obtain ⟨ρ5, e5⟩ : ∃ ρ5, (ρ4.set 9 (some (.d (optD o)))).set 10 (some (.d (optD l))) = ρ5 := ⟨_, rfl⟩
  have E5 : En ρ5 ws vs x y := by rw [← e5]; exact (E4.set 9 (by decide) _).set 10 (by decide) _
  have g59 : ρ5[9]? = some (some (.d (optD o))) := by rw [← e5]; exact sg_ne (by decide) (sg_self (by rw [E4.len]; decide))
  have g510 : ρ5[10]? = some (some (.d (optD l))) := by rw [← e5]; exact sg_self (by rw [List.length_set, E4.len]; decide)
  rw [e5] at s8
  have s9 := g_ifF (g := gF) (t9 K E5 ho g59 (PenC ns a2 c2' :: q3))
  have s10 := g_ifF (g := gF) (t10 K E5 ho hl g59 g510 (PenC ns a2 c2' :: q3))
  -- again
  have s11 := g_set (i := 11) (mkr_at K E5 (PenC ns a2 c2' :: q3))
  obtain ⟨ρ6, e6⟩ : ∃ ρ6, ρ5.set 11 (some (.d (led vs x y))) = ρ6 := ⟨_, rfl⟩
  have E6 : En ρ6 ws vs x y := by rw [← e6]; exact E5.set 11 (by decide) _
  have g611 : ρ6[11]? = some (some (.d (led vs x y))) := by rw [← e6]; exact sg_self (by rw [E5.len]; decide)
  have g610 : ρ6[10]? = some (some (.d (optD l))) := by rw [← e6]; exact sg_ne (by decide) g510
  rw [e6] at s11
  have hq3 : q3.all Cell.nd = true := by
    rw [List.all_cons, Bool.and_eq_true] at hb4
    exact hb4.2
  have s12 := g_ifF (g := gF) (t12 K E6 hl g610 g611 (PenC ns a2 c2' :: q3 ++ [.dead]))
  -- more
  have s13 := g_set (i := 12) (dict_at (σ := PenC ns a2 c2' :: q3 ++ [.dead]) E6.w)
  obtain ⟨ρ7, e7⟩ : ∃ ρ7, ρ6.set 12 (some (.loc (PenC ns a2 c2' :: q3 ++ [Cell.dead]).length)) = ρ7 := ⟨_, rfl⟩
  have E7 : En ρ7 ws vs x y := by rw [← e7]; exact E6.set 12 (by decide) _
  have g712 : ρ7[12]? = some (some (.loc (PenC ns a2 c2' :: q3 ++ [Cell.dead]).length)) := by rw [← e7]; exact sg_self (by rw [E6.len]; decide)
  rw [e7] at s13
  have s14 := put_at (t := [110]) (v := 0) g712 (get_last (PenC ns a2 c2' :: q3 ++ [Cell.dead]) (.dct (ws.map kv))) few
  rw [set_last] at s14
  obtain ⟨σ', q15, hσ⟩ := t15 K hN E7 g712 (get_last (PenC ns a2 c2' :: q3 ++ [Cell.dead]) (.dct (dput (ws.map kv) (.inr [110]) (.int 0))))
  have s15 := g_ifF (g := gF) q15
  obtain ⟨q4, f4, hq4⟩ : ∃ q4, σ' = PenC ns a2 c2' :: q4 ∧ q4.all Cell.nd = true := by
    rcases hσ with h | h
    · exact ⟨q3 ++ [Cell.dead] ++ [Cell.dct (dput (ws.map kv) (.inr [110]) (.int 0))], h.trans rfl, all_app (X := Cell.dct (dput (ws.map kv) (.inr [110]) (.int 0))) (all_app (X := Cell.dead) hq3 rfl) (nd_put (nd_kv ws) rfl)⟩
    · rw [set_last] at h
      exact ⟨q3 ++ [Cell.dead] ++ [Cell.dead], h.trans rfl, all_app (X := Cell.dead) (all_app (X := Cell.dead) hq3 rfl) rfl⟩
  rw [f4] at s15
  obtain ⟨a3, c3', q16, b3⟩ := t16 (ns := ns) (c := c2') (q := q4) K E7 (a := a2) (by omega)
  have s16 := g_ifF (g := gF) q16
  refine ⟨ρ7, a3, c3', q4, ?_, E7.len, E7.pen, hq4, by omega⟩
  unfold gTurn
  rw [g_seq s1, g_seq s2, g_seq s3, g_seq s4, g_seq s5, g_seq s6, g_seq s7, g_seq s8, g_seq s9, g_seq s10, g_seq s11, g_seq s12, g_seq s13, g_seq s14, g_seq s15]
  exact s16
theorem loopL : ∀ (r : Nat) (lo : Int) (ρ : VL.Env) (a : Nat) (c : Int) (q : Store), ρ.length = 13 → ρ[1]? = some (some (.loc 0)) → q.all Cell.nd = true → a + 60 * r ≤ 100000 →
    ∃ (ρ' : VL.Env) (τ' : Store), forGo (tName 2) gTurn (rngD lo r) ρ (PenC ns a c :: q) = .nx ρ' τ'
  | 0, lo, ρ, a, c, q, hn, h1, hq, ha => ⟨ρ, _, rfl⟩
  | r + 1, lo, ρ, a, c, q, hn, h1, hq, ha => by
    obtain ⟨ρ1, a1, c1', q1, e, n1, p1, b1, b2⟩ := turn (ns := ns) (c := c) (ρ := ρ.set 2 (some (.d (.int lo)))) (by simp [hn]) (sg_ne (by decide) h1) hq (a := a) (by omega)
    obtain ⟨ρ', τ', e2⟩ := loopL r (lo + 1) ρ1 a1 c1' q1 n1 p1 b1 (by omega)
    refine ⟨ρ', τ', ?_⟩
    have u : forGo (tName 2) gTurn (rngD lo (r + 1)) ρ (PenC ns a c :: q) =
        match gTurn (ρ.set 2 (some (.d (.int lo)))) (PenC ns a c :: q) with
        | .nx ρ2 τ2 => forGo (tName 2) gTurn (rngD (lo + 1) r) ρ2 τ2
        | .ct ρ2 τ2 => forGo (tName 2) gTurn (rngD (lo + 1) r) ρ2 τ2
        | .bk ρ2 τ2 => .nx ρ2 τ2
        | r => r := rfl
    rw [u, e]
    exact e2
end
/-! ### the end -/
theorem v0 : VOk [] := ⟨by simp, fun p m => by simp at m, by simp⟩
theorem a0 : Asc [] := .nil
theorem ok0 (b : Option Nat) (hb : capOk b) : Ok [] [] b none := ⟨v0, List.Perm.refl _, a0, hb, trivial⟩
section
variable {ρ : VL.Env} {τ : Store}
theorem d0_at (ρ : VL.Env) (τ : Store) : eD0 ρ τ = .ok (.d (.dct [])) (τ ++ [.dead]) := by
  unfold eD0 eLk eDN allocD
  rw [R.bind_ok]
  simp only [get_last, set_last]
theorem mk0 (ρ : VL.Env) (τ : Store) : eMakeD 1 1 0 d_Ledger___init__ [0, 1, 2, 3] [.non, .non] (elCons eD0 elNil) elNil ρ τ = .ok (.d (led [] none none)) (τ ++ [.dead]) := by
  have e := e_mk v0 (List.Perm.refl _) a0 (a := none) (b := none) trivial trivial (τ ++ [.dead]) (os := [0, 1, 2, 3]) (dvs := [.non, .non]) (us := [.d (.dct [])]) (wss := []) rfl
  unfold eMakeD
  rw [el1 (d0_at ρ τ), R.bind_ok, el0, R.bind_ok, if_pos ⟨rfl, rfl⟩]
  exact e
theorem mk1 {b : Option Nat} (hb : capOk b) {f : EV} (hf : ∀ σ, f ρ σ = .ok (.d (optD b)) σ) (τ : Store) : eMakeD 1 1 1 d_Ledger___init__ [0, 1, 2, 3] [.non] (elCons eD0 elNil) (elCons f elNil) ρ τ = .ok (.d (led [] b none)) (τ ++ [.dead]) := by
  have e := e_mk v0 (List.Perm.refl _) a0 (a := b) (b := none) hb trivial (τ ++ [.dead]) (os := [0, 1, 2, 3]) (dvs := [.non]) (us := [.d (.dct [])]) (wss := [.d (optD b)]) rfl
  unfold eMakeD
  rw [el1 (d0_at ρ τ), R.bind_ok, el1 (hf _), R.bind_ok, if_pos ⟨rfl, rfl⟩]
  exact e
theorem eqi0 {b : Option Nat} (hb : capOk b) {f : EV} (hf : ∀ σ, f ρ σ = .ok (.d (optD b)) σ) (τ : Store) : eEqI 1 d_Ledger___eq__ (eMakeD 1 1 0 d_Ledger___init__ [0, 1, 2, 3] [.non, .non] (elCons eD0 elNil) elNil) (eMakeD 1 1 1 d_Ledger___init__ [0, 1, 2, 3] [.non] (elCons eD0 elNil) (elCons f elNil)) ρ τ = .ok (.d (.bl (decide (none = b)))) (τ ++ [.dead] ++ [.dead]) := by
  have q := e_eq (ws := []) (vs := []) (a := none) (b := none) (c := b) (d := none) v0.own v0.own trivial trivial hb trivial (τ ++ [.dead] ++ [.dead])
  unfold eEqI
  rw [mk0, R.bind_ok, mk1 hb hf, R.bind_ok]
  obtain ⟨f1, e1⟩ := led_ins [] none none
  obtain ⟨f2, e2⟩ := led_ins [] b none
  rw [e1, e2] at q ⊢
  unfold gEqI
  simp only
  rw [if_pos ⟨trivial, trivial⟩, q]
  simp
theorem nei0 {b : Option Nat} (hb : capOk b) {f : EV} (hf : ∀ σ, f ρ σ = .ok (.d (optD b)) σ) (τ : Store) : eNeI 1 d_Ledger___eq__ (eMakeD 1 1 0 d_Ledger___init__ [0, 1, 2, 3] [.non, .non] (elCons eD0 elNil) elNil) (eMakeD 1 1 1 d_Ledger___init__ [0, 1, 2, 3] [.non] (elCons eD0 elNil) (elCons f elNil)) ρ τ = .ok (.d (.bl (!decide (none = b)))) (τ ++ [.dead] ++ [.dead]) := by
  have q := e_eq (ws := []) (vs := []) (a := none) (b := none) (c := b) (d := none) v0.own v0.own trivial trivial hb trivial (τ ++ [.dead] ++ [.dead])
  unfold eNeI
  rw [mk0, R.bind_ok, mk1 hb hf, R.bind_ok]
  obtain ⟨f1, e1⟩ := led_ins [] none none
  obtain ⟨f2, e2⟩ := led_ins [] b none
  rw [e1, e2] at q ⊢
  unfold gNeI
  simp only
  rw [if_pos ⟨trivial, trivial⟩, q]
  simp
theorem e_end (ρ : VL.Env) (τ : Store) : ∃ τ', gEnd ρ τ = .rt (.d (.bl true)) τ' := by
  have t := e_call1 (F := d__law_told) (el1 (mk0 ρ τ)) (e_told (vs := []) (a := none) (b := none) (by simp) (by simp) (τ ++ [.dead]))
  have l : eLst false (elCons (eLst false elNil) (elCons (eTup elNil) (elCons (eC .non) (elCons (eC .non) elNil)))) ρ (τ ++ [.dead]) = .ok (.d (toldD [] none none)) (τ ++ [.dead]) := by
    have four : 4 ≤ sizeLine := by rw [sl_eq]; omega
    simp [eLst, gLstD, eTup, gTupD, elCons, elNil, eC, frzs, four, toldD, namesD, optD, R.bind, allocL]
  have q := eq_same (a := toldD [] none none) (by decide) (by decide) (τ ++ [.dead])
  have s1 := e_op2 (o := oEq) t l q
  have s2 := eqi0 (ρ := ρ) (b := none) trivial (f := eC .non) (fun _ => rfl) (τ ++ [.dead])
  have s3 := nei0 (ρ := ρ) (b := some 0) (by show (0 : Nat) ≤ _; omega) (f := eC (.int 0)) (fun _ => rfl) (τ ++ [.dead] ++ [.dead] ++ [.dead])
  exact ⟨_, g_ret (e_andT s1 (e_andT s2 s3))⟩
end
theorem law_plain (ns : List Int) (hl : ns.length ≤ 63) (hb : ∀ z ∈ ns, Builtin.Int.intBits z ≤ 1048576) : ∃ τ, d_law [.d (.fl (ns.map .int))] [] = .ok (.d (.bl true)) τ := by
  have p : d__law_pen [.d (.fl (ns.map .int))] [] = .ok (.loc 0) [PenC ns 0 0] := e_pen ns hl
  have hcall : d_law [.d (.fl (ns.map .int))] [] = outR 0 (g_law [some (.d (.fl (ns.map .int))), none, none, none, none, none, none, none, none, none, none, none, none] []) := rfl
  have s1 : gSet 1 (eCall 1 d__law_pen (elCons (eVar 0) elNil)) [some (.d (.fl (ns.map .int))), none, none, none, none, none, none, none, none, none, none, none, none] [] = .nx [some (.d (.fl (ns.map .int))), some (.loc 0), none, none, none, none, none, none, none, none, none, none, none] [PenC ns 0 0] := g_set (e_call1 (F := d__law_pen) (el1 (e_var rfl _)) p)
  obtain ⟨ρ', τ', q⟩ := loopL (ns := ns) 8 0 [some (.d (.fl (ns.map .int))), some (.loc 0), none, none, none, none, none, none, none, none, none, none, none] 0 0 [] rfl rfl rfl (by omega)
  have s2 : gFor (dRange1 (elCons (eC (.int 8)) elNil)) (tName 2) gTurn [some (.d (.fl (ns.map .int))), some (.loc 0), none, none, none, none, none, none, none, none, none, none, none] [PenC ns 0 0] = .nx ρ' τ' := q
  obtain ⟨τ2, z⟩ := e_end ρ' τ'
  rw [hcall, g_law_eq, g_seq s1, g_seq s2, z]
  exact ⟨_, rfl⟩
end K80


namespace K80
open PySem PySem.Spec PyProof.Rows L2 LamX VL
theorem kit_self {K : PySem.W.Frag} {v : Value} : PySem.W.kitOne K v v = some true := by unfold PySem.W.kitOne; simp
theorem all_mk {P : Program} {w : World} {K : PySem.W.Frag} {h : Heap} {mg : Str → Option Value} {fa cO Pt DK : Addr} (X : K.In h) (NS : h.Ns mainGlobals mg) (hfa : mg "law" = some (.ref fa)) (hT : h.get? Pt = some { cls := .none, data := .fields #[] }) (nT : K.lookup Pt = none) (hd : PySem.W.codeHdIn K cO Pt = true) (tp : (P.main.scope.names.lookup ("super" : Str)).isSome = false)
    {f__law_pen : Addr} {oc__law_pen : Value} {od__law_pen an__law_pen : Option Addr} {sl__law_pen : Array (Option Value)} {kV__law_pen dc__law_pen pm__law_pen cd__law_pen ct__law_pen : Value}
    (a__law_pen : PySem.W.nsIn K mainGlobals "_law_pen" = some (some (.ref f__law_pen)))
    (l__law_pen : K.lookup f__law_pen = some ⟨oc__law_pen, od__law_pen, .func (PySem.W.fnOf "_law_pen" "_law_pen" (defArgs st__law_pen) (defBody st__law_pen) (defScope st__law_pen) .none kV__law_pen dc__law_pen pm__law_pen an__law_pen cd__law_pen ct__law_pen), sl__law_pen⟩)
    (c__law_pen : PySem.W.codeIn K cd__law_pen "_law_pen" = true)
    (k__law_pen : PySem.W.keepIn K (.ref f__law_pen) = true)
    {f__law_draw : Addr} {oc__law_draw : Value} {od__law_draw an__law_draw : Option Addr} {sl__law_draw : Array (Option Value)} {kV__law_draw dc__law_draw pm__law_draw cd__law_draw ct__law_draw : Value}
    (a__law_draw : PySem.W.nsIn K mainGlobals "_law_draw" = some (some (.ref f__law_draw)))
    (l__law_draw : K.lookup f__law_draw = some ⟨oc__law_draw, od__law_draw, .func (PySem.W.fnOf "_law_draw" "_law_draw" (defArgs st__law_draw) (defBody st__law_draw) (defScope st__law_draw) .none kV__law_draw dc__law_draw pm__law_draw an__law_draw cd__law_draw ct__law_draw), sl__law_draw⟩)
    (c__law_draw : PySem.W.codeIn K cd__law_draw "_law_draw" = true)
    (k__law_draw : PySem.W.keepIn K (.ref f__law_draw) = true)
    {f__law_pick : Addr} {oc__law_pick : Value} {od__law_pick an__law_pick : Option Addr} {sl__law_pick : Array (Option Value)} {kV__law_pick dc__law_pick pm__law_pick cd__law_pick ct__law_pick : Value}
    (a__law_pick : PySem.W.nsIn K mainGlobals "_law_pick" = some (some (.ref f__law_pick)))
    (l__law_pick : K.lookup f__law_pick = some ⟨oc__law_pick, od__law_pick, .func (PySem.W.fnOf "_law_pick" "_law_pick" (defArgs st__law_pick) (defBody st__law_pick) (defScope st__law_pick) .none kV__law_pick dc__law_pick pm__law_pick an__law_pick cd__law_pick ct__law_pick), sl__law_pick⟩)
    (c__law_pick : PySem.W.codeIn K cd__law_pick "_law_pick" = true)
    (k__law_pick : PySem.W.keepIn K (.ref f__law_pick) = true)
    {f__law_weights : Addr} {oc__law_weights : Value} {od__law_weights an__law_weights : Option Addr} {sl__law_weights : Array (Option Value)} {kV__law_weights dc__law_weights pm__law_weights cd__law_weights ct__law_weights : Value}
    (a__law_weights : PySem.W.nsIn K mainGlobals "_law_weights" = some (some (.ref f__law_weights)))
    (l__law_weights : K.lookup f__law_weights = some ⟨oc__law_weights, od__law_weights, .func (PySem.W.fnOf "_law_weights" "_law_weights" (defArgs st__law_weights) (defBody st__law_weights) (defScope st__law_weights) .none kV__law_weights dc__law_weights pm__law_weights an__law_weights cd__law_weights ct__law_weights), sl__law_weights⟩)
    (c__law_weights : PySem.W.codeIn K cd__law_weights "_law_weights" = true)
    (k__law_weights : PySem.W.keepIn K (.ref f__law_weights) = true)
    {f__law_cap : Addr} {oc__law_cap : Value} {od__law_cap an__law_cap : Option Addr} {sl__law_cap : Array (Option Value)} {kV__law_cap dc__law_cap pm__law_cap cd__law_cap ct__law_cap : Value}
    (a__law_cap : PySem.W.nsIn K mainGlobals "_law_cap" = some (some (.ref f__law_cap)))
    (l__law_cap : K.lookup f__law_cap = some ⟨oc__law_cap, od__law_cap, .func (PySem.W.fnOf "_law_cap" "_law_cap" (defArgs st__law_cap) (defBody st__law_cap) (defScope st__law_cap) .none kV__law_cap dc__law_cap pm__law_cap an__law_cap cd__law_cap ct__law_cap), sl__law_cap⟩)
    (c__law_cap : PySem.W.codeIn K cd__law_cap "_law_cap" = true)
    (k__law_cap : PySem.W.keepIn K (.ref f__law_cap) = true)
    {f_is_name : Addr} {oc_is_name : Value} {od_is_name an_is_name : Option Addr} {sl_is_name : Array (Option Value)} {kV_is_name dc_is_name pm_is_name cd_is_name ct_is_name : Value}
    (a_is_name : PySem.W.nsIn K mainGlobals "is_name" = some (some (.ref f_is_name)))
    (l_is_name : K.lookup f_is_name = some ⟨oc_is_name, od_is_name, .func (PySem.W.fnOf "is_name" "is_name" (defArgs st_is_name) (defBody st_is_name) (defScope st_is_name) .none kV_is_name dc_is_name pm_is_name an_is_name cd_is_name ct_is_name), sl_is_name⟩)
    (c_is_name : PySem.W.codeIn K cd_is_name "is_name" = true)
    (k_is_name : PySem.W.keepIn K (.ref f_is_name) = true)
    {f_is_own_name : Addr} {oc_is_own_name : Value} {od_is_own_name an_is_own_name : Option Addr} {sl_is_own_name : Array (Option Value)} {kV_is_own_name dc_is_own_name pm_is_own_name cd_is_own_name ct_is_own_name : Value}
    (a_is_own_name : PySem.W.nsIn K mainGlobals "is_own_name" = some (some (.ref f_is_own_name)))
    (l_is_own_name : K.lookup f_is_own_name = some ⟨oc_is_own_name, od_is_own_name, .func (PySem.W.fnOf "is_own_name" "is_own_name" (defArgs st_is_own_name) (defBody st_is_own_name) (defScope st_is_own_name) .none kV_is_own_name dc_is_own_name pm_is_own_name an_is_own_name cd_is_own_name ct_is_own_name), sl_is_own_name⟩)
    (c_is_own_name : PySem.W.codeIn K cd_is_own_name "is_own_name" = true)
    (k_is_own_name : PySem.W.keepIn K (.ref f_is_own_name) = true)
    {f_is_integer : Addr} {oc_is_integer : Value} {od_is_integer an_is_integer : Option Addr} {sl_is_integer : Array (Option Value)} {kV_is_integer dc_is_integer pm_is_integer cd_is_integer ct_is_integer : Value}
    (a_is_integer : PySem.W.nsIn K mainGlobals "is_integer" = some (some (.ref f_is_integer)))
    (l_is_integer : K.lookup f_is_integer = some ⟨oc_is_integer, od_is_integer, .func (PySem.W.fnOf "is_integer" "is_integer" (defArgs st_is_integer) (defBody st_is_integer) (defScope st_is_integer) .none kV_is_integer dc_is_integer pm_is_integer an_is_integer cd_is_integer ct_is_integer), sl_is_integer⟩)
    (c_is_integer : PySem.W.codeIn K cd_is_integer "is_integer" = true)
    (k_is_integer : PySem.W.keepIn K (.ref f_is_integer) = true)
    {f_is_between : Addr} {oc_is_between : Value} {od_is_between an_is_between : Option Addr} {sl_is_between : Array (Option Value)} {kV_is_between dc_is_between pm_is_between cd_is_between ct_is_between : Value}
    (a_is_between : PySem.W.nsIn K mainGlobals "is_between" = some (some (.ref f_is_between)))
    (l_is_between : K.lookup f_is_between = some ⟨oc_is_between, od_is_between, .func (PySem.W.fnOf "is_between" "is_between" (defArgs st_is_between) (defBody st_is_between) (defScope st_is_between) .none kV_is_between dc_is_between pm_is_between an_is_between cd_is_between ct_is_between), sl_is_between⟩)
    (c_is_between : PySem.W.codeIn K cd_is_between "is_between" = true)
    (k_is_between : PySem.W.keepIn K (.ref f_is_between) = true)
    {f_are_weights : Addr} {oc_are_weights : Value} {od_are_weights an_are_weights : Option Addr} {sl_are_weights : Array (Option Value)} {kV_are_weights dc_are_weights pm_are_weights cd_are_weights ct_are_weights : Value}
    (a_are_weights : PySem.W.nsIn K mainGlobals "are_weights" = some (some (.ref f_are_weights)))
    (l_are_weights : K.lookup f_are_weights = some ⟨oc_are_weights, od_are_weights, .func (PySem.W.fnOf "are_weights" "are_weights" (defArgs st_are_weights) (defBody st_are_weights) (defScope st_are_weights) .none kV_are_weights dc_are_weights pm_are_weights an_are_weights cd_are_weights ct_are_weights), sl_are_weights⟩)
    (c_are_weights : PySem.W.codeIn K cd_are_weights "are_weights" = true)
    (k_are_weights : PySem.W.keepIn K (.ref f_are_weights) = true)
    {f_is_cap : Addr} {oc_is_cap : Value} {od_is_cap an_is_cap : Option Addr} {sl_is_cap : Array (Option Value)} {kV_is_cap dc_is_cap pm_is_cap cd_is_cap ct_is_cap : Value}
    (a_is_cap : PySem.W.nsIn K mainGlobals "is_cap" = some (some (.ref f_is_cap)))
    (l_is_cap : K.lookup f_is_cap = some ⟨oc_is_cap, od_is_cap, .func (PySem.W.fnOf "is_cap" "is_cap" (defArgs st_is_cap) (defBody st_is_cap) (defScope st_is_cap) .none kV_is_cap dc_is_cap pm_is_cap an_is_cap cd_is_cap ct_is_cap), sl_is_cap⟩)
    (c_is_cap : PySem.W.codeIn K cd_is_cap "is_cap" = true)
    (k_is_cap : PySem.W.keepIn K (.ref f_is_cap) = true)
    {f_Ledger___init__ : Addr} {oc_Ledger___init__ : Value} {od_Ledger___init__ an_Ledger___init__ : Option Addr} {sl_Ledger___init__ : Array (Option Value)} {dc_Ledger___init__ pm_Ledger___init__ cd_Ledger___init__ ct_Ledger___init__ : Value}
    {f_Ledger_weights : Addr} {oc_Ledger_weights : Value} {od_Ledger_weights an_Ledger_weights : Option Addr} {sl_Ledger_weights : Array (Option Value)} {kV_Ledger_weights dc_Ledger_weights pm_Ledger_weights cd_Ledger_weights ct_Ledger_weights : Value}
    {f_Ledger_names : Addr} {oc_Ledger_names : Value} {od_Ledger_names an_Ledger_names : Option Addr} {sl_Ledger_names : Array (Option Value)} {kV_Ledger_names dc_Ledger_names pm_Ledger_names cd_Ledger_names ct_Ledger_names : Value}
    {f_Ledger_load_cap : Addr} {oc_Ledger_load_cap : Value} {od_Ledger_load_cap an_Ledger_load_cap : Option Addr} {sl_Ledger_load_cap : Array (Option Value)} {kV_Ledger_load_cap dc_Ledger_load_cap pm_Ledger_load_cap cd_Ledger_load_cap ct_Ledger_load_cap : Value}
    {f_Ledger_rush_cap : Addr} {oc_Ledger_rush_cap : Value} {od_Ledger_rush_cap an_Ledger_rush_cap : Option Addr} {sl_Ledger_rush_cap : Array (Option Value)} {kV_Ledger_rush_cap dc_Ledger_rush_cap pm_Ledger_rush_cap cd_Ledger_rush_cap ct_Ledger_rush_cap : Value}
    {f__law_told : Addr} {oc__law_told : Value} {od__law_told an__law_told : Option Addr} {sl__law_told : Array (Option Value)} {kV__law_told dc__law_told pm__law_told cd__law_told ct__law_told : Value}
    (a__law_told : PySem.W.nsIn K mainGlobals "_law_told" = some (some (.ref f__law_told)))
    (l__law_told : K.lookup f__law_told = some ⟨oc__law_told, od__law_told, .func (PySem.W.fnOf "_law_told" "_law_told" (defArgs st__law_told) (defBody st__law_told) (defScope st__law_told) .none kV__law_told dc__law_told pm__law_told an__law_told cd__law_told ct__law_told), sl__law_told⟩)
    (c__law_told : PySem.W.codeIn K cd__law_told "_law_told" = true)
    (k__law_told : PySem.W.keepIn K (.ref f__law_told) = true)
    {f__law_due : Addr} {oc__law_due : Value} {od__law_due an__law_due : Option Addr} {sl__law_due : Array (Option Value)} {kV__law_due dc__law_due pm__law_due cd__law_due ct__law_due : Value}
    (a__law_due : PySem.W.nsIn K mainGlobals "_law_due" = some (some (.ref f__law_due)))
    (l__law_due : K.lookup f__law_due = some ⟨oc__law_due, od__law_due, .func (PySem.W.fnOf "_law_due" "_law_due" (defArgs st__law_due) (defBody st__law_due) (defScope st__law_due) .none kV__law_due dc__law_due pm__law_due an__law_due cd__law_due ct__law_due), sl__law_due⟩)
    (c__law_due : PySem.W.codeIn K cd__law_due "_law_due" = true)
    (k__law_due : PySem.W.keepIn K (.ref f__law_due) = true)
    {f_Ledger_with_load : Addr} {oc_Ledger_with_load : Value} {od_Ledger_with_load an_Ledger_with_load : Option Addr} {sl_Ledger_with_load : Array (Option Value)} {kV_Ledger_with_load dc_Ledger_with_load pm_Ledger_with_load cd_Ledger_with_load ct_Ledger_with_load : Value}
    {f_Ledger_with_rush : Addr} {oc_Ledger_with_rush : Value} {od_Ledger_with_rush an_Ledger_with_rush : Option Addr} {sl_Ledger_with_rush : Array (Option Value)} {kV_Ledger_with_rush dc_Ledger_with_rush pm_Ledger_with_rush cd_Ledger_with_rush ct_Ledger_with_rush : Value}
    {f_Ledger___eq__ : Addr} {oc_Ledger___eq__ : Value} {od_Ledger___eq__ an_Ledger___eq__ : Option Addr} {sl_Ledger___eq__ : Array (Option Value)} {kV_Ledger___eq__ dc_Ledger___eq__ pm_Ledger___eq__ cd_Ledger___eq__ ct_Ledger___eq__ : Value}
    {f_Ledger___repr__ : Addr} {oc_Ledger___repr__ : Value} {od_Ledger___repr__ an_Ledger___repr__ : Option Addr} {sl_Ledger___repr__ : Array (Option Value)} {kV_Ledger___repr__ dc_Ledger___repr__ pm_Ledger___repr__ cd_Ledger___repr__ ct_Ledger___repr__ : Value}
    {f__law_bad_weights : Addr} {oc__law_bad_weights : Value} {od__law_bad_weights an__law_bad_weights : Option Addr} {sl__law_bad_weights : Array (Option Value)} {kV__law_bad_weights dc__law_bad_weights pm__law_bad_weights cd__law_bad_weights ct__law_bad_weights : Value}
    (a__law_bad_weights : PySem.W.nsIn K mainGlobals "_law_bad_weights" = some (some (.ref f__law_bad_weights)))
    (l__law_bad_weights : K.lookup f__law_bad_weights = some ⟨oc__law_bad_weights, od__law_bad_weights, .func (PySem.W.fnOf "_law_bad_weights" "_law_bad_weights" (defArgs st__law_bad_weights) (defBody st__law_bad_weights) (defScope st__law_bad_weights) .none kV__law_bad_weights dc__law_bad_weights pm__law_bad_weights an__law_bad_weights cd__law_bad_weights ct__law_bad_weights), sl__law_bad_weights⟩)
    (c__law_bad_weights : PySem.W.codeIn K cd__law_bad_weights "_law_bad_weights" = true)
    (k__law_bad_weights : PySem.W.keepIn K (.ref f__law_bad_weights) = true)
    {f__law_heard : Addr} {oc__law_heard : Value} {od__law_heard an__law_heard : Option Addr} {sl__law_heard : Array (Option Value)} {kV__law_heard dc__law_heard pm__law_heard cd__law_heard ct__law_heard : Value}
    (a__law_heard : PySem.W.nsIn K mainGlobals "_law_heard" = some (some (.ref f__law_heard)))
    (l__law_heard : K.lookup f__law_heard = some ⟨oc__law_heard, od__law_heard, .func (PySem.W.fnOf "_law_heard" "_law_heard" (defArgs st__law_heard) (defBody st__law_heard) (defScope st__law_heard) .none kV__law_heard dc__law_heard pm__law_heard an__law_heard cd__law_heard ct__law_heard), sl__law_heard⟩)
    (c__law_heard : PySem.W.codeIn K cd__law_heard "_law_heard" = true)
    (k__law_heard : PySem.W.keepIn K (.ref f__law_heard) = true)
    {f__law_refused_right : Addr} {oc__law_refused_right : Value} {od__law_refused_right an__law_refused_right : Option Addr} {sl__law_refused_right : Array (Option Value)} {kV__law_refused_right dc__law_refused_right pm__law_refused_right ct__law_refused_right : Value}
    (a__law_refused_right : PySem.W.nsIn K mainGlobals "_law_refused_right" = some (some (.ref f__law_refused_right)))
    (l__law_refused_right : K.lookup f__law_refused_right = some ⟨oc__law_refused_right, od__law_refused_right, .func (PySem.W.fnOf "_law_refused_right" "_law_refused_right" (defArgs st__law_refused_right) (defBody st__law_refused_right) (defScope st__law_refused_right) .none kV__law_refused_right dc__law_refused_right pm__law_refused_right an__law_refused_right (.ref cO) ct__law_refused_right), sl__law_refused_right⟩)
    (c__law_refused_right : PySem.W.codeIn K (.ref cO) "_law_refused_right" = true)
    (k__law_refused_right : PySem.W.keepIn K (.ref f__law_refused_right) = true)
    {f_law : Addr} {oc_law : Value} {od_law an_law : Option Addr} {sl_law : Array (Option Value)} {kV_law dc_law pm_law cd_law ct_law : Value}
    (a_law : PySem.W.nsIn K mainGlobals "law" = some (some (.ref f_law)))
    (l_law : K.lookup f_law = some ⟨oc_law, od_law, .func (PySem.W.fnOf "law" "law" (defArgs st_law) (defBody st_law) (defScope st_law) .none kV_law dc_law pm_law an_law cd_law ct_law), sl_law⟩)
    (c_law : PySem.W.codeIn K cd_law "law" = true)
    (k_law : PySem.W.keepIn K (.ref f_law) = true)
    (u_abs : PySem.W.nsIn K mainGlobals "abs" = some none)
    (u_all : PySem.W.nsIn K mainGlobals "all" = some none)
    (u_bool : PySem.W.nsIn K mainGlobals "bool" = some none)
    (u_dict : PySem.W.nsIn K mainGlobals "dict" = some none)
    (u_int : PySem.W.nsIn K mainGlobals "int" = some none)
    (u_isinstance : PySem.W.nsIn K mainGlobals "isinstance" = some none)
    (u_len : PySem.W.nsIn K mainGlobals "len" = some none)
    (u_list : PySem.W.nsIn K mainGlobals "list" = some none)
    (u_range : PySem.W.nsIn K mainGlobals "range" = some none)
    (u_repr : PySem.W.nsIn K mainGlobals "repr" = some none)
    (u_sorted : PySem.W.nsIn K mainGlobals "sorted" = some none)
    (u_str : PySem.W.nsIn K mainGlobals "str" = some none)
    (u_tuple : PySem.W.nsIn K mainGlobals "tuple" = some none)
    {t_LETTERS : Tok}
    (g_LETTERS : PySem.W.nsIn K mainGlobals "LETTERS" = some (some (.str (PySem.Str.ofString "abcdefghijklmnopqrstuvwxyz") t_LETTERS)))
    {t_MOST_CAP : Tok}
    (g_MOST_CAP : PySem.W.nsIn K mainGlobals "MOST_CAP" = some (some (.int 10000000000 t_MOST_CAP)))
    {t_MOST_ISLES : Tok}
    (g_MOST_ISLES : PySem.W.nsIn K mainGlobals "MOST_ISLES" = some (some (.int 8 t_MOST_ISLES)))
    {t_MOST_LETTERS : Tok}
    (g_MOST_LETTERS : PySem.W.nsIn K mainGlobals "MOST_LETTERS" = some (some (.int 8 t_MOST_LETTERS)))
    {t_MOST_WEIGHT : Tok}
    (g_MOST_WEIGHT : PySem.W.nsIn K mainGlobals "MOST_WEIGHT" = some (some (.int 1000000000 t_MOST_WEIGHT)))
    {t_SHORE : Tok}
    (g_SHORE : PySem.W.nsIn K mainGlobals "SHORE" = some (some (.str (PySem.Str.ofString "shore") t_SHORE)))
    {C CL CD fI cda cc : Addr} {nmE qE : Str} {NE : Addr} {bsE : List Value} {bmE : List Value} {snE : List Str} {subE : List Value} {abE : Bool} {colE : Option Bool} {ddE : Option Addr} {m0 m1 m2 m3 m5 : Option Value} {ocE dcE pmE ctE clE cclE : Value} {odE anE cldE cddE : Option Addr} {slE cslE ccsE : Array (Option Value)} {vsE : Array Value} {fileE : Str} {tfE : Tok}
    {pr_Ledger_weights : Addr} {rest_Ledger_weights : List Value}
    {pr_Ledger_names : Addr} {rest_Ledger_names : List Value}
    {pr_Ledger_load_cap : Addr} {rest_Ledger_load_cap : List Value}
    {pr_Ledger_rush_cap : Addr} {rest_Ledger_rush_cap : List Value}
    (e_g : PySem.W.nsIn K mainGlobals "InvalidLedger" = some (some (.ref C)))
    (e_l : K.lookup C = some (excClassObj nmE qE C NE bsE bmE true snE subE abE colE ddE m0 m1 m2 m3 m5 "ValueError.__new__"))
    (e_k : PySem.W.keepIn K (.ref C) = true)
    (e_sa : PySem.W.findIn K (.ref C) "__setattr__" = some (some (.builtin "object.__setattr__")))
    (e_ga : PySem.W.findIn K (.ref C) "__getattribute__" = some (some (.builtin "BaseException.__getattribute__")))
    (e_gg : PySem.W.findIn K (.ref C) "__getattr__" = some none)
    (e_f_part : PySem.W.findIn K (.ref C) "part" = some none)
    (e_ex : PySem.W.subIn K (.ref C) (.type "BaseException") = some true)
    (e_v : PySem.W.subIn K (.ref C) (.type "ValueError") = some true)
    (e_m : PySem.W.mroIn K C (.ref C) = some true)
    (e_t : PySem.W.typeIn K (.ref C) = some (.type "type"))
    (e_h : PySem.W.hasDictIn K C = true)
    (e_ic : PySem.W.isClsIn K C = true)
    (e_sc : PySem.W.subIn K (.ref C) (.ref C) = some true)
    (e_o : PySem.W.nsIn K PySem.cStatics "thirdparty.any" = some none)
    (e_ns : PySem.W.nsIn K mainGlobals "super" = some none)
    (e_i : PySem.W.findIn K (.ref C) "__init__" = some (some (.ref fI)))
    (e_ti : PySem.W.typeIn K (.ref fI) = some (.type "function"))
    (e_fn : K.lookup fI = some ⟨ocE, odE, .func (PySem.W.ksFn "__init__" "InvalidLedger.__init__" (VX.iA ⟨9, 17, 9, 21⟩ [(("part" : Str), (⟨9, 23, 9, 27⟩ : Pos))]) (VX.sup (PySem.Str.ofString "no such ledger") ⟨10, 8, 10, 13⟩ ⟨10, 8, 10, 15⟩ ⟨10, 8, 10, 24⟩ ⟨10, 25, 10, 41⟩ ⟨10, 8, 10, 42⟩ ⟨10, 8, 10, 42⟩ :: [.Assign [.Attribute (.Name "self" ⟨11, 8, 11, 12⟩) "part" ⟨11, 8, 11, 17⟩] (.Name "part" ⟨11, 20, 11, 24⟩) ⟨11, 8, 11, 24⟩]) (VX.iS [("part" : Str)]) .none .none dcE pmE anE (.ref cda) ctE cc), slE⟩)
    (e_co : PySem.W.codeIn K (.ref cda) "InvalidLedger.__init__" = true)
    (e_cc : K.lookup cc = some ⟨clE, cldE, .cell (some (.ref C)), cslE⟩)
    (e_ca : K.lookup cda = some ⟨cclE, cddE, .fields vsE, ccsE⟩)
    (e_vs : vsE[2]? = some (.str fileE tfE))
    (e_fi : ((P.main.file : Str) == fileE) = true)
    (e_su : PySem.W.ks_superIn K C C "__init__" = some (some (.builtin "ValueError.__init__")))
    (e_bm : PySem.HandSPX.refsVE bmE = true)
    (e_ha : PySem.W.findIn K (.ref C) "__class__" = some (some (.builtin "object.__class__")))
    (e_hm : PySem.W.mroIn K C (.type "object") = some true)
    (o_hn : PySem.W.specialIn K (.builtin "object.__class__") "__get__" = some (some (.builtin "getset_descriptor.__get__")))
    (o_tk : PySem.W.takesIn K (.builtin "object.__class__") = some true)
    (d_g : PySem.W.nsIn K mainGlobals "DuskError" = some (some (.ref CD)))
    (d_ex : PySem.W.subIn K (.ref CD) (.type "BaseException") = some true)
    (d_h : PySem.W.hasDictIn K CD = true)
    (d_t : PySem.W.typeIn K (.ref CD) = some (.type "type"))
    (d_s : PySem.W.subIn K (.ref C) (.ref CD) = some true)
    (k_g : PySem.W.nsIn K mainGlobals "Ledger" = some (some (.ref CL)))
    (k_pg : PySem.W.plainGet K CL Str.empty = true)
    (k_hd : PySem.W.hasDictIn K CL = true)
    (k_po : PySem.W.plainOver K CL = true)
    (k_sa : PySem.W.findIn K (.ref CL) "__setattr__" = some (some (.builtin "object.__setattr__")))
    (k_f_entries : PySem.W.findIn K (.ref CL) "entries" = some none)
    (k_f_limits : PySem.W.findIn K (.ref CL) "limits" = some none)
    (k_ha : PySem.W.findIn K (.ref CL) "__class__" = some (some (.builtin "object.__class__")))
    (k_hm : PySem.W.mroIn K CL (.type "object") = some true)
    (k_ns : PySem.W.kitOne K (.ref CL) (.type "str") = some false)
    (k_mk : PySem.W.makesIn K CL = true)
    (k_kp : PySem.W.keepIn K (.ref CL) = true)
    (k_rd : PySem.W.readsIn K CL (.type "type") = true)
    (k_rg : PySem.W.specialIn K (.ref CL) "__getattribute__" = some (some (.builtin "type.__getattribute__")))
    (k_ne : PySem.W.findIn K (.ref CL) "__ne__" = some (some (.builtin "object.__ne__")))
    (kn_NoneType : PySem.W.kitOne K (.type "NoneType") (.ref CL) = some false)
    (kn_bool : PySem.W.kitOne K (.type "bool") (.ref CL) = some false)
    (kn_int : PySem.W.kitOne K (.type "int") (.ref CL) = some false)
    (kn_str : PySem.W.kitOne K (.type "str") (.ref CL) = some false)
    (kn_tuple : PySem.W.kitOne K (.type "tuple") (.ref CL) = some false)
    (kn_list : PySem.W.kitOne K (.type "list") (.ref CL) = some false)
    (kn_dict : PySem.W.kitOne K (.type "dict") (.ref CL) = some false)
    (kf_NoneType : PySem.W.notFirst K CL (.type "NoneType") = true)
    (kf_tuple : PySem.W.notFirst K CL (.type "tuple") = true)
    (a_Ledger___init__ : PySem.W.findIn K (.ref CL) "__init__" = some (some (.ref f_Ledger___init__)))
    (i_Ledger___init__ : PySem.W.isFn K (.ref f_Ledger___init__) = true)
    (l_Ledger___init__ : K.lookup f_Ledger___init__ = some ⟨oc_Ledger___init__, od_Ledger___init__, .func (PySem.W.fnOf "__init__" "Ledger.__init__" (defArgs st_Ledger___init__) (defBody st_Ledger___init__) (defScope st_Ledger___init__) .none (.ref DK) dc_Ledger___init__ pm_Ledger___init__ an_Ledger___init__ cd_Ledger___init__ ct_Ledger___init__), sl_Ledger___init__⟩)
    (c_Ledger___init__ : PySem.W.codeIn K cd_Ledger___init__ "Ledger.__init__" = true)
    (k_Ledger___init__ : PySem.W.keepIn K (.ref f_Ledger___init__) = true)
    (a_Ledger_weights : PySem.W.findIn K (.ref CL) "weights" = some (some (.ref pr_Ledger_weights)))
    (g_Ledger_weights : PySem.W.specialIn K (.ref pr_Ledger_weights) "__get__" = some (some (.builtin "property.__get__")))
    (t_Ledger_weights : PySem.W.takesIn K (.ref pr_Ledger_weights) = some true)
    (r_Ledger_weights : PySem.W.recIn K pr_Ledger_weights "property" = some (.ref f_Ledger_weights :: rest_Ledger_weights))
    (l_Ledger_weights : K.lookup f_Ledger_weights = some ⟨oc_Ledger_weights, od_Ledger_weights, .func (PySem.W.fnOf "weights" "Ledger.weights" (defArgs st_Ledger_weights) (defBody st_Ledger_weights) (defScope st_Ledger_weights) .none kV_Ledger_weights dc_Ledger_weights pm_Ledger_weights an_Ledger_weights cd_Ledger_weights ct_Ledger_weights), sl_Ledger_weights⟩)
    (c_Ledger_weights : PySem.W.codeIn K cd_Ledger_weights "Ledger.weights" = true)
    (k_Ledger_weights : PySem.W.keepIn K (.ref f_Ledger_weights) = true)
    (a_Ledger_names : PySem.W.findIn K (.ref CL) "names" = some (some (.ref pr_Ledger_names)))
    (g_Ledger_names : PySem.W.specialIn K (.ref pr_Ledger_names) "__get__" = some (some (.builtin "property.__get__")))
    (t_Ledger_names : PySem.W.takesIn K (.ref pr_Ledger_names) = some true)
    (r_Ledger_names : PySem.W.recIn K pr_Ledger_names "property" = some (.ref f_Ledger_names :: rest_Ledger_names))
    (l_Ledger_names : K.lookup f_Ledger_names = some ⟨oc_Ledger_names, od_Ledger_names, .func (PySem.W.fnOf "names" "Ledger.names" (defArgs st_Ledger_names) (defBody st_Ledger_names) (defScope st_Ledger_names) .none kV_Ledger_names dc_Ledger_names pm_Ledger_names an_Ledger_names cd_Ledger_names ct_Ledger_names), sl_Ledger_names⟩)
    (c_Ledger_names : PySem.W.codeIn K cd_Ledger_names "Ledger.names" = true)
    (k_Ledger_names : PySem.W.keepIn K (.ref f_Ledger_names) = true)
    (a_Ledger_load_cap : PySem.W.findIn K (.ref CL) "load_cap" = some (some (.ref pr_Ledger_load_cap)))
    (g_Ledger_load_cap : PySem.W.specialIn K (.ref pr_Ledger_load_cap) "__get__" = some (some (.builtin "property.__get__")))
    (t_Ledger_load_cap : PySem.W.takesIn K (.ref pr_Ledger_load_cap) = some true)
    (r_Ledger_load_cap : PySem.W.recIn K pr_Ledger_load_cap "property" = some (.ref f_Ledger_load_cap :: rest_Ledger_load_cap))
    (l_Ledger_load_cap : K.lookup f_Ledger_load_cap = some ⟨oc_Ledger_load_cap, od_Ledger_load_cap, .func (PySem.W.fnOf "load_cap" "Ledger.load_cap" (defArgs st_Ledger_load_cap) (defBody st_Ledger_load_cap) (defScope st_Ledger_load_cap) .none kV_Ledger_load_cap dc_Ledger_load_cap pm_Ledger_load_cap an_Ledger_load_cap cd_Ledger_load_cap ct_Ledger_load_cap), sl_Ledger_load_cap⟩)
    (c_Ledger_load_cap : PySem.W.codeIn K cd_Ledger_load_cap "Ledger.load_cap" = true)
    (k_Ledger_load_cap : PySem.W.keepIn K (.ref f_Ledger_load_cap) = true)
    (a_Ledger_rush_cap : PySem.W.findIn K (.ref CL) "rush_cap" = some (some (.ref pr_Ledger_rush_cap)))
    (g_Ledger_rush_cap : PySem.W.specialIn K (.ref pr_Ledger_rush_cap) "__get__" = some (some (.builtin "property.__get__")))
    (t_Ledger_rush_cap : PySem.W.takesIn K (.ref pr_Ledger_rush_cap) = some true)
    (r_Ledger_rush_cap : PySem.W.recIn K pr_Ledger_rush_cap "property" = some (.ref f_Ledger_rush_cap :: rest_Ledger_rush_cap))
    (l_Ledger_rush_cap : K.lookup f_Ledger_rush_cap = some ⟨oc_Ledger_rush_cap, od_Ledger_rush_cap, .func (PySem.W.fnOf "rush_cap" "Ledger.rush_cap" (defArgs st_Ledger_rush_cap) (defBody st_Ledger_rush_cap) (defScope st_Ledger_rush_cap) .none kV_Ledger_rush_cap dc_Ledger_rush_cap pm_Ledger_rush_cap an_Ledger_rush_cap cd_Ledger_rush_cap ct_Ledger_rush_cap), sl_Ledger_rush_cap⟩)
    (c_Ledger_rush_cap : PySem.W.codeIn K cd_Ledger_rush_cap "Ledger.rush_cap" = true)
    (k_Ledger_rush_cap : PySem.W.keepIn K (.ref f_Ledger_rush_cap) = true)
    (a_Ledger_with_load : PySem.W.findIn K (.ref CL) "with_load" = some (some (.ref f_Ledger_with_load)))
    (i_Ledger_with_load : PySem.W.isFn K (.ref f_Ledger_with_load) = true)
    (l_Ledger_with_load : K.lookup f_Ledger_with_load = some ⟨oc_Ledger_with_load, od_Ledger_with_load, .func (PySem.W.fnOf "with_load" "Ledger.with_load" (defArgs st_Ledger_with_load) (defBody st_Ledger_with_load) (defScope st_Ledger_with_load) .none kV_Ledger_with_load dc_Ledger_with_load pm_Ledger_with_load an_Ledger_with_load cd_Ledger_with_load ct_Ledger_with_load), sl_Ledger_with_load⟩)
    (c_Ledger_with_load : PySem.W.codeIn K cd_Ledger_with_load "Ledger.with_load" = true)
    (k_Ledger_with_load : PySem.W.keepIn K (.ref f_Ledger_with_load) = true)
    (a_Ledger_with_rush : PySem.W.findIn K (.ref CL) "with_rush" = some (some (.ref f_Ledger_with_rush)))
    (i_Ledger_with_rush : PySem.W.isFn K (.ref f_Ledger_with_rush) = true)
    (l_Ledger_with_rush : K.lookup f_Ledger_with_rush = some ⟨oc_Ledger_with_rush, od_Ledger_with_rush, .func (PySem.W.fnOf "with_rush" "Ledger.with_rush" (defArgs st_Ledger_with_rush) (defBody st_Ledger_with_rush) (defScope st_Ledger_with_rush) .none kV_Ledger_with_rush dc_Ledger_with_rush pm_Ledger_with_rush an_Ledger_with_rush cd_Ledger_with_rush ct_Ledger_with_rush), sl_Ledger_with_rush⟩)
    (c_Ledger_with_rush : PySem.W.codeIn K cd_Ledger_with_rush "Ledger.with_rush" = true)
    (k_Ledger_with_rush : PySem.W.keepIn K (.ref f_Ledger_with_rush) = true)
    (a_Ledger___eq__ : PySem.W.findIn K (.ref CL) "__eq__" = some (some (.ref f_Ledger___eq__)))
    (i_Ledger___eq__ : PySem.W.isFn K (.ref f_Ledger___eq__) = true)
    (l_Ledger___eq__ : K.lookup f_Ledger___eq__ = some ⟨oc_Ledger___eq__, od_Ledger___eq__, .func (PySem.W.fnOf "__eq__" "Ledger.__eq__" (defArgs st_Ledger___eq__) (defBody st_Ledger___eq__) (defScope st_Ledger___eq__) .none kV_Ledger___eq__ dc_Ledger___eq__ pm_Ledger___eq__ an_Ledger___eq__ cd_Ledger___eq__ ct_Ledger___eq__), sl_Ledger___eq__⟩)
    (c_Ledger___eq__ : PySem.W.codeIn K cd_Ledger___eq__ "Ledger.__eq__" = true)
    (k_Ledger___eq__ : PySem.W.keepIn K (.ref f_Ledger___eq__) = true)
    (a_Ledger___repr__ : PySem.W.findIn K (.ref CL) "__repr__" = some (some (.ref f_Ledger___repr__)))
    (i_Ledger___repr__ : PySem.W.isFn K (.ref f_Ledger___repr__) = true)
    (l_Ledger___repr__ : K.lookup f_Ledger___repr__ = some ⟨oc_Ledger___repr__, od_Ledger___repr__, .func (PySem.W.fnOf "__repr__" "Ledger.__repr__" (defArgs st_Ledger___repr__) (defBody st_Ledger___repr__) (defScope st_Ledger___repr__) .none kV_Ledger___repr__ dc_Ledger___repr__ pm_Ledger___repr__ an_Ledger___repr__ cd_Ledger___repr__ ct_Ledger___repr__), sl_Ledger___repr__⟩)
    (c_Ledger___repr__ : PySem.W.codeIn K cd_Ledger___repr__ "Ledger.__repr__" = true)
    (k_Ledger___repr__ : PySem.W.keepIn K (.ref f_Ledger___repr__) = true)
    (kd_load : PySem.W.nsIn K DK "load" = some (some .none))
    (kd_rush : PySem.W.nsIn K DK "rush" = some (some .none))
    : ∃ (fd : FuncData) (cs : List (Addr × Addr)) (G : Gd), G.K = K ∧ (∀ p ∈ cs, h.get? p.2 = some { cls := .none, data := .fields #[] }) ∧ (∀ p ∈ cs, K.lookup p.2 = none) ∧ (∀ p ∈ cs, PySem.W.CodeHd h p.1 p.2) ∧ (∀ q ∈ G.T, q.1 ∈ cs.map (·.2)) ∧ (∀ (s : Shared) (u : Value), BindsTo s fd ⟨[u], []⟩ [(("script" : Str), u)]) ∧
      ∀ base : Heap, K.In base → base.Ns mainGlobals mg → (∀ p ∈ cs, TabB base mg p.1 p.2) → FnV P w K mg base 16 fa fd [("script" : Str)] (spV G 1 d_law) := by
  have e0 := hfa.symm.trans (PySem.W.mg_of X NS a_law)
  cases e0
  have tx : VX.Txt P K mg "InvalidLedger" C [("part" : Str)] := by
    refine { gC := PySem.W.mg_of X NS e_g, kC := e_k, cls := ⟨nmE, qE, NE, bsE, bmE, snE, subE, abE, colE, ddE, m0, m1, m2, m3, m5, e_l, e_bm⟩, sa := e_sa, noF := ?_, exC := e_ex, subV := e_v, mroC := e_m, tyC := e_t, hdC := e_h, sup := e_su, opq := e_o, noS := PySem.W.mg_none_of X NS e_ns, top := tp, fld := by decide +kernel, nd := by decide +kernel, scS := by decide +kernel, scC := by decide +kernel, fn := ?_ }
    · intro f hf
      simp only [List.mem_cons, List.not_mem_nil, or_false] at hf
      rcases hf with rfl
      · exact e_f_part
    · exact ⟨fI, cda, cc, ocE, odE, _, dcE, pmE, anE, ctE, slE, _, _, _, _, _, _, _, _, _, _, clE, cldE, cslE, cclE, cddE, vsE, ccsE, fileE, tfE, fun s us hl => (match us, hl with | [_, _], _ => .of_eq rfl), fun env => ⟨_, rfl⟩, rfl, .cons (.nil), e_i, e_ti, e_fn, e_co, e_cc, e_ca, e_vs, e_fi⟩
  have el : [("part" : Str)] = (T.s [112, 97, 114, 116] :: ([] : List T).map T.s) := by
    show [(PySem.Str.ofString "part")] = [T.s [112, 97, 114, 116]]
    rw [lit29]
  rw [el] at tx
  let G : Gd := ⟨K, fun n => match n with | 0 => C | 1 => CL | _ => CD, [(Pt, ("_law_refused_right.<locals>." : Str) ++ "<lambda>")], w, C, fun _ => False, fun _ _ _ z => z⟩
  have cl : Cls K CL := ⟨k_pg, k_hd, k_po, k_sa⟩
  have kd : ClsD mg G "Ledger" 1 [("entries" : Str), ("limits" : Str)] := by
    refine ⟨PySem.W.mg_of X NS k_g, cl, fun f hf => ?_, ⟨cl, k_ha, o_hn, o_tk, k_hm, kit_self⟩, k_ns⟩
    simp only [List.mem_cons, List.not_mem_nil, or_false] at hf
    rcases hf with rfl | rfl
    · exact k_f_entries
    · exact k_f_limits
  have nc : NotC K CL := fun a h => by
    simp only [List.mem_cons, List.not_mem_nil, or_false] at h
    rcases h with rfl | rfl | rfl | rfl | rfl | rfl | rfl
    · exact kn_NoneType
    · exact kn_bool
    · exact kn_int
    · exact kn_str
    · exact kn_tuple
    · exact kn_list
    · exact kn_dict
  have B : Bnds P mg G := ⟨PySem.W.mg_none_of X NS u_abs, PySem.W.mg_none_of X NS u_all, PySem.W.mg_none_of X NS u_bool, PySem.W.mg_none_of X NS u_dict, PySem.W.mg_none_of X NS u_int, PySem.W.mg_none_of X NS u_isinstance, PySem.W.mg_none_of X NS u_len, PySem.W.mg_none_of X NS u_list, PySem.W.mg_none_of X NS u_range, PySem.W.mg_none_of X NS u_repr, PySem.W.mg_none_of X NS u_sorted, PySem.W.mg_none_of X NS u_str, PySem.W.mg_none_of X NS u_tuple, ⟨_, PySem.W.mg_of X NS g_LETTERS, ⟨t_LETTERS, rfl⟩⟩, ⟨_, PySem.W.mg_of X NS g_MOST_CAP, ⟨t_MOST_CAP, rfl⟩⟩, ⟨_, PySem.W.mg_of X NS g_MOST_ISLES, ⟨t_MOST_ISLES, rfl⟩⟩, ⟨_, PySem.W.mg_of X NS g_MOST_LETTERS, ⟨t_MOST_LETTERS, rfl⟩⟩, ⟨_, PySem.W.mg_of X NS g_MOST_WEIGHT, ⟨t_MOST_WEIGHT, rfl⟩⟩, ⟨_, PySem.W.mg_of X NS g_SHORE, ⟨t_SHORE, rfl⟩⟩, tx, ⟨⟨e_ga, e_gg, e_ex, e_h⟩, e_ha, o_hn, o_tk, e_hm, e_ic, kit_self⟩, e_f_part, PySem.W.exm_ref e_ex e_h e_t e_sc, PySem.W.mg_of X NS d_g, PySem.W.exm_ref d_ex d_h d_t d_s, kd, nc, ⟨kf_NoneType, kf_tuple⟩⟩
  have F__law_pen : Fun G.K "_law_pen" "_law_pen" st__law_pen _ _ := fun_mk (st := st__law_pen) l__law_pen c__law_pen k__law_pen
  have F__law_draw : Fun G.K "_law_draw" "_law_draw" st__law_draw _ _ := fun_mk (st := st__law_draw) l__law_draw c__law_draw k__law_draw
  have F__law_pick : Fun G.K "_law_pick" "_law_pick" st__law_pick _ _ := fun_mk (st := st__law_pick) l__law_pick c__law_pick k__law_pick
  have F__law_weights : Fun G.K "_law_weights" "_law_weights" st__law_weights _ _ := fun_mk (st := st__law_weights) l__law_weights c__law_weights k__law_weights
  have F__law_cap : Fun G.K "_law_cap" "_law_cap" st__law_cap _ _ := fun_mk (st := st__law_cap) l__law_cap c__law_cap k__law_cap
  have F_is_name : Fun G.K "is_name" "is_name" st_is_name _ _ := fun_mk (st := st_is_name) l_is_name c_is_name k_is_name
  have F_is_own_name : Fun G.K "is_own_name" "is_own_name" st_is_own_name _ _ := fun_mk (st := st_is_own_name) l_is_own_name c_is_own_name k_is_own_name
  have F_is_integer : Fun G.K "is_integer" "is_integer" st_is_integer _ _ := fun_mk (st := st_is_integer) l_is_integer c_is_integer k_is_integer
  have F_is_between : Fun G.K "is_between" "is_between" st_is_between _ _ := fun_mk (st := st_is_between) l_is_between c_is_between k_is_between
  have F_are_weights : Fun G.K "are_weights" "are_weights" st_are_weights _ _ := fun_mk (st := st_are_weights) l_are_weights c_are_weights k_are_weights
  have F_is_cap : Fun G.K "is_cap" "is_cap" st_is_cap _ _ := fun_mk (st := st_is_cap) l_is_cap c_is_cap k_is_cap
  have F_Ledger___init__ : Fun G.K "__init__" "Ledger.__init__" st_Ledger___init__ _ _ := fun_mk (st := st_Ledger___init__) l_Ledger___init__ c_Ledger___init__ k_Ledger___init__
  have F_Ledger_weights : Fun G.K "weights" "Ledger.weights" st_Ledger_weights _ _ := fun_mk (st := st_Ledger_weights) l_Ledger_weights c_Ledger_weights k_Ledger_weights
  have F_Ledger_names : Fun G.K "names" "Ledger.names" st_Ledger_names _ _ := fun_mk (st := st_Ledger_names) l_Ledger_names c_Ledger_names k_Ledger_names
  have F_Ledger_load_cap : Fun G.K "load_cap" "Ledger.load_cap" st_Ledger_load_cap _ _ := fun_mk (st := st_Ledger_load_cap) l_Ledger_load_cap c_Ledger_load_cap k_Ledger_load_cap
  have F_Ledger_rush_cap : Fun G.K "rush_cap" "Ledger.rush_cap" st_Ledger_rush_cap _ _ := fun_mk (st := st_Ledger_rush_cap) l_Ledger_rush_cap c_Ledger_rush_cap k_Ledger_rush_cap
  have F__law_told : Fun G.K "_law_told" "_law_told" st__law_told _ _ := fun_mk (st := st__law_told) l__law_told c__law_told k__law_told
  have F__law_due : Fun G.K "_law_due" "_law_due" st__law_due _ _ := fun_mk (st := st__law_due) l__law_due c__law_due k__law_due
  have F_Ledger_with_load : Fun G.K "with_load" "Ledger.with_load" st_Ledger_with_load _ _ := fun_mk (st := st_Ledger_with_load) l_Ledger_with_load c_Ledger_with_load k_Ledger_with_load
  have F_Ledger_with_rush : Fun G.K "with_rush" "Ledger.with_rush" st_Ledger_with_rush _ _ := fun_mk (st := st_Ledger_with_rush) l_Ledger_with_rush c_Ledger_with_rush k_Ledger_with_rush
  have F_Ledger___eq__ : Fun G.K "__eq__" "Ledger.__eq__" st_Ledger___eq__ _ _ := fun_mk (st := st_Ledger___eq__) l_Ledger___eq__ c_Ledger___eq__ k_Ledger___eq__
  have F_Ledger___repr__ : Fun G.K "__repr__" "Ledger.__repr__" st_Ledger___repr__ _ _ := fun_mk (st := st_Ledger___repr__) l_Ledger___repr__ c_Ledger___repr__ k_Ledger___repr__
  have F__law_bad_weights : Fun G.K "_law_bad_weights" "_law_bad_weights" st__law_bad_weights _ _ := fun_mk (st := st__law_bad_weights) l__law_bad_weights c__law_bad_weights k__law_bad_weights
  have F__law_heard : Fun G.K "_law_heard" "_law_heard" st__law_heard _ _ := fun_mk (st := st__law_heard) l__law_heard c__law_heard k__law_heard
  have F__law_refused_right : Fun G.K "_law_refused_right" "_law_refused_right" st__law_refused_right _ _ := fun_mk (st := st__law_refused_right) l__law_refused_right c__law_refused_right k__law_refused_right
  have F_law : Fun G.K "law" "law" st_law _ _ := fun_mk (st := st_law) l_law c_law k_law
  refine ⟨(PySem.W.fnOf "law" "law" (defArgs st_law) (defBody st_law) (defScope st_law) .none kV_law dc_law pm_law an_law cd_law ct_law), [(cO, Pt)], G, rfl, fun p hp => ?_, fun p hp => ?_, fun p hp => ?_, fun q hq => ?_, fun s u => .of_eq rfl, fun base Xb Nb hTB => ?_⟩
  · rw [List.mem_singleton.mp hp]; exact hT
  · rw [List.mem_singleton.mp hp]; exact nT
  · rw [List.mem_singleton.mp hp]; exact PySem.W.codeHd_of_K X hd
  · rw [List.mem_singleton.mp hq]; exact List.mem_singleton.mpr rfl
  · have TM : Maker base mg G.T (PySem.W.fnOf "_law_refused_right" "_law_refused_right" (defArgs st__law_refused_right) (defBody st__law_refused_right) (defScope st__law_refused_right) .none kV__law_refused_right dc__law_refused_right pm__law_refused_right an__law_refused_right (.ref cO) ct__law_refused_right) (("_law_refused_right.<locals>." : Str) ++ "<lambda>") cO Pt := ⟨hTB (cO, Pt) List.mem_cons_self, rfl, List.mem_cons_self, fun p hp _ => by rw [List.mem_singleton.mp hp]⟩
    have D__law_pen := def__law_pen (P := P) (mg := mg) (base := base) (G := G) B F__law_pen (PySem.W.mg_of X NS a__law_pen)
    have D__law_draw := def__law_draw (P := P) (mg := mg) (base := base) (G := G) B F__law_draw (PySem.W.mg_of X NS a__law_draw)
    have D__law_pick := def__law_pick (P := P) (mg := mg) (base := base) (G := G) B F__law_pick (PySem.W.mg_of X NS a__law_pick) D__law_draw
    have D__law_weights := def__law_weights (P := P) (mg := mg) (base := base) (G := G) B F__law_weights (PySem.W.mg_of X NS a__law_weights) D__law_draw D__law_pick
    have D__law_cap := def__law_cap (P := P) (mg := mg) (base := base) (G := G) B F__law_cap (PySem.W.mg_of X NS a__law_cap) D__law_pick D__law_draw
    have D_is_name := def_is_name (P := P) (mg := mg) (base := base) (G := G) B F_is_name (PySem.W.mg_of X NS a_is_name)
    have D_is_own_name := def_is_own_name (P := P) (mg := mg) (base := base) (G := G) B F_is_own_name (PySem.W.mg_of X NS a_is_own_name) D_is_name
    have D_is_integer := def_is_integer (P := P) (mg := mg) (base := base) (G := G) B F_is_integer (PySem.W.mg_of X NS a_is_integer)
    have D_is_between := def_is_between (P := P) (mg := mg) (base := base) (G := G) B F_is_between (PySem.W.mg_of X NS a_is_between) D_is_integer
    have D_are_weights := def_are_weights (P := P) (mg := mg) (base := base) (G := G) B F_are_weights (PySem.W.mg_of X NS a_are_weights) D_is_own_name D_is_between
    have D_is_cap := def_is_cap (P := P) (mg := mg) (base := base) (G := G) B F_is_cap (PySem.W.mg_of X NS a_is_cap) D_is_between
    have D_mk_Ledger_1_load_rush := def_mk_Ledger_1_load_rush (P := P) (mg := mg) (base := base) (G := G) B F_Ledger___init__ ⟨k_mk, a_Ledger___init__, i_Ledger___init__, k_kp⟩ D_are_weights D_is_cap
    have D_mk_Ledger_1_rush_load := def_mk_Ledger_1_rush_load (P := P) (mg := mg) (base := base) (G := G) B F_Ledger___init__ ⟨k_mk, a_Ledger___init__, i_Ledger___init__, k_kp⟩ D_are_weights D_is_cap
    have D_mk_Ledger_0_weights_rush_load := def_mk_Ledger_0_weights_rush_load (P := P) (mg := mg) (base := base) (G := G) B F_Ledger___init__ ⟨k_mk, a_Ledger___init__, i_Ledger___init__, k_kp⟩ D_are_weights D_is_cap
    have D_mk_Ledger_1_ := def_mk_Ledger_1_ (P := P) (mg := mg) (base := base) (G := G) B F_Ledger___init__ ⟨k_mk, a_Ledger___init__, i_Ledger___init__, k_kp⟩ rfl (fun q hq => by simp only [List.mem_cons, List.not_mem_nil, or_false] at hq; rcases hq with rfl | rfl <;> first | exact kd_load | exact kd_rush) D_are_weights D_is_cap
    have D_mk_Ledger_1_load := def_mk_Ledger_1_load (P := P) (mg := mg) (base := base) (G := G) B F_Ledger___init__ ⟨k_mk, a_Ledger___init__, i_Ledger___init__, k_kp⟩ rfl (fun q hq => by simp only [List.mem_cons, List.not_mem_nil, or_false] at hq; rcases hq with rfl <;> first | exact kd_rush) D_are_weights D_is_cap
    have D_Ledger_weights := def_Ledger_weights (P := P) (mg := mg) (base := base) (G := G) B F_Ledger_weights ⟨a_Ledger_weights, g_Ledger_weights, t_Ledger_weights, ⟨_, r_Ledger_weights⟩⟩
    have D_Ledger_names := def_Ledger_names (P := P) (mg := mg) (base := base) (G := G) B F_Ledger_names ⟨a_Ledger_names, g_Ledger_names, t_Ledger_names, ⟨_, r_Ledger_names⟩⟩
    have D_Ledger_load_cap := def_Ledger_load_cap (P := P) (mg := mg) (base := base) (G := G) B F_Ledger_load_cap ⟨a_Ledger_load_cap, g_Ledger_load_cap, t_Ledger_load_cap, ⟨_, r_Ledger_load_cap⟩⟩
    have D_Ledger_rush_cap := def_Ledger_rush_cap (P := P) (mg := mg) (base := base) (G := G) B F_Ledger_rush_cap ⟨a_Ledger_rush_cap, g_Ledger_rush_cap, t_Ledger_rush_cap, ⟨_, r_Ledger_rush_cap⟩⟩
    have D__law_told := def__law_told (P := P) (mg := mg) (base := base) (G := G) B F__law_told (PySem.W.mg_of X NS a__law_told) D_Ledger_weights D_Ledger_names D_Ledger_load_cap D_Ledger_rush_cap
    have D__law_due := def__law_due (P := P) (mg := mg) (base := base) (G := G) B F__law_due (PySem.W.mg_of X NS a__law_due)
    have D_mt_with_load_1_ := def_mt_with_load_1_ (P := P) (mg := mg) (base := base) (G := G) B F_Ledger_with_load ⟨a_Ledger_with_load, i_Ledger_with_load, k_Ledger_with_load⟩ D_mk_Ledger_1_load_rush D_Ledger_weights
    have D_mt_with_load_0_load := def_mt_with_load_0_load (P := P) (mg := mg) (base := base) (G := G) B F_Ledger_with_load ⟨a_Ledger_with_load, i_Ledger_with_load, k_Ledger_with_load⟩ D_mk_Ledger_1_load_rush D_Ledger_weights
    have D_mt_with_rush_0_rush := def_mt_with_rush_0_rush (P := P) (mg := mg) (base := base) (G := G) B F_Ledger_with_rush ⟨a_Ledger_with_rush, i_Ledger_with_rush, k_Ledger_with_rush⟩ D_mk_Ledger_1_load_rush D_Ledger_weights
    have D_mt_with_rush_1_ := def_mt_with_rush_1_ (P := P) (mg := mg) (base := base) (G := G) B F_Ledger_with_rush ⟨a_Ledger_with_rush, i_Ledger_with_rush, k_Ledger_with_rush⟩ D_mk_Ledger_1_load_rush D_Ledger_weights
    have D_Ledger___eq__ := def_Ledger___eq__ (P := P) (mg := mg) (base := base) (G := G) B F_Ledger___eq__ ⟨a_Ledger___eq__, i_Ledger___eq__, k_ne, k_hm⟩
    have D_Ledger___repr__ := def_Ledger___repr__ (P := P) (mg := mg) (base := base) (G := G) B F_Ledger___repr__ ⟨a_Ledger___repr__, i_Ledger___repr__⟩
    have D__law_bad_weights := def__law_bad_weights (P := P) (mg := mg) (base := base) (G := G) B F__law_bad_weights (PySem.W.mg_of X NS a__law_bad_weights) D__law_draw D__law_pick
    have D_lam__law_heard := def_lam__law_heard (P := P) (mg := mg) (base := base) (G := G) B F__law_heard (PySem.W.mg_of X NS a__law_heard)
    have D__law_refused_right := def__law_refused_right (P := P) (mg := mg) (base := base) (G := G) B F__law_refused_right (PySem.W.mg_of X NS a__law_refused_right) D__law_bad_weights D__law_pick D_lam__law_heard D_mk_Ledger_1_load_rush D_mk_Ledger_1_rush_load D_mt_with_load_1_ D_mt_with_rush_0_rush D__law_told D__law_due TM
    exact ok_law B F_law D__law_pen D__law_weights D__law_cap D_mk_Ledger_1_load_rush D_Ledger_weights D__law_told D__law_due D_mt_with_load_0_load D_mt_with_rush_1_ D_Ledger___eq__ D_mt_with_load_1_ D_mk_Ledger_0_weights_rush_load D_Ledger___repr__ D__law_refused_right D_mk_Ledger_1_ D_mk_Ledger_1_load
end K80
open PySem PySem.W PyProof.Rows in
set_option maxRecDepth 100000 in
set_option maxHeartbeats 0 in
theorem PySem.Challenge.cw_duskwishes_k80_ledgers_made_and_refused_holds : PySem.Challenge.rw_duskwishes_k80_ledgers_made_and_refused.Holds := by
  w_on; o_law; k_head; (case hw => w_witness2)
  k_fill
  refine VL.walk_of_ask (l := PySem.Challenge.rw_duskwishes_k80_ledgers_made_and_refused) (n := 63) (k := 16) (x := "script") rfl (by decide) (by kernel_rfl) ⟨rfl, by decide, by decide⟩ (fun w h Y => km_in_of Y) ?F
  intro w mg fa h Y KX G hmg
  have hT8 := km_tabs_of Y _ List.mem_cons_self
  obtain ⟨fd, cs, Gd, h1, h2, h3, h4, h5, h6, h7⟩ : ∃ (fd : FuncData) (cs : List (Addr × Addr)) (G : VL.Gd), _ := by
    refine' K80.all_mk (P := (PySem.Challenge.rw_duskwishes_k80_ledgers_made_and_refused).prog) (w := w) KX G hmg hT8 ?nT ?hd ?tp ?a__law_pen ?l__law_pen ?c__law_pen ?k__law_pen ?a__law_draw ?l__law_draw ?c__law_draw ?k__law_draw ?a__law_pick ?l__law_pick ?c__law_pick ?k__law_pick ?a__law_weights ?l__law_weights ?c__law_weights ?k__law_weights ?a__law_cap ?l__law_cap ?c__law_cap ?k__law_cap ?a_is_name ?l_is_name ?c_is_name ?k_is_name ?a_is_own_name ?l_is_own_name ?c_is_own_name ?k_is_own_name ?a_is_integer ?l_is_integer ?c_is_integer ?k_is_integer ?a_is_between ?l_is_between ?c_is_between ?k_is_between ?a_are_weights ?l_are_weights ?c_are_weights ?k_are_weights ?a_is_cap ?l_is_cap ?c_is_cap ?k_is_cap ?a__law_told ?l__law_told ?c__law_told ?k__law_told ?a__law_due ?l__law_due ?c__law_due ?k__law_due ?a__law_bad_weights ?l__law_bad_weights ?c__law_bad_weights ?k__law_bad_weights ?a__law_heard ?l__law_heard ?c__law_heard ?k__law_heard ?a__law_refused_right ?l__law_refused_right ?c__law_refused_right ?k__law_refused_right ?a_law ?l_law ?c_law ?k_law ?u_abs ?u_all ?u_bool ?u_dict ?u_int ?u_isinstance ?u_len ?u_list ?u_range ?u_repr ?u_sorted ?u_str ?u_tuple ?g_LETTERS ?g_MOST_CAP ?g_MOST_ISLES ?g_MOST_LETTERS ?g_MOST_WEIGHT ?g_SHORE ?e_g ?e_l ?e_k ?e_sa ?e_ga ?e_gg ?e_f_part ?e_ex ?e_v ?e_m ?e_t ?e_h ?e_ic ?e_sc ?e_o ?e_ns ?e_i ?e_ti ?e_fn ?e_co ?e_cc ?e_ca ?e_vs ?e_fi ?e_su ?e_bm ?e_ha ?e_hm ?o_hn ?o_tk ?d_g ?d_ex ?d_h ?d_t ?d_s ?k_g ?k_pg ?k_hd ?k_po ?k_sa ?k_f_entries ?k_f_limits ?k_ha ?k_hm ?k_ns ?k_mk ?k_kp ?k_rd ?k_rg ?k_ne ?kn_NoneType ?kn_bool ?kn_int ?kn_str ?kn_tuple ?kn_list ?kn_dict ?kf_NoneType ?kf_tuple ?a_Ledger___init__ ?i_Ledger___init__ ?l_Ledger___init__ ?c_Ledger___init__ ?k_Ledger___init__ ?a_Ledger_weights ?g_Ledger_weights ?t_Ledger_weights ?r_Ledger_weights ?l_Ledger_weights ?c_Ledger_weights ?k_Ledger_weights ?a_Ledger_names ?g_Ledger_names ?t_Ledger_names ?r_Ledger_names ?l_Ledger_names ?c_Ledger_names ?k_Ledger_names ?a_Ledger_load_cap ?g_Ledger_load_cap ?t_Ledger_load_cap ?r_Ledger_load_cap ?l_Ledger_load_cap ?c_Ledger_load_cap ?k_Ledger_load_cap ?a_Ledger_rush_cap ?g_Ledger_rush_cap ?t_Ledger_rush_cap ?r_Ledger_rush_cap ?l_Ledger_rush_cap ?c_Ledger_rush_cap ?k_Ledger_rush_cap ?a_Ledger_with_load ?i_Ledger_with_load ?l_Ledger_with_load ?c_Ledger_with_load ?k_Ledger_with_load ?a_Ledger_with_rush ?i_Ledger_with_rush ?l_Ledger_with_rush ?c_Ledger_with_rush ?k_Ledger_with_rush ?a_Ledger___eq__ ?i_Ledger___eq__ ?l_Ledger___eq__ ?c_Ledger___eq__ ?k_Ledger___eq__ ?a_Ledger___repr__ ?i_Ledger___repr__ ?l_Ledger___repr__ ?c_Ledger___repr__ ?k_Ledger___repr__ ?kd_load ?kd_rush
    (case a__law_pen => first | k_is | rfl | decide +kernel)
    (case l__law_pen => first | k_is | rfl | decide +kernel)
    (case c__law_pen => first | k_is | rfl | decide +kernel)
    (case k__law_pen => first | k_is | rfl | decide +kernel)
    (case a__law_draw => first | k_is | rfl | decide +kernel)
    (case l__law_draw => first | k_is | rfl | decide +kernel)
    (case c__law_draw => first | k_is | rfl | decide +kernel)
    (case k__law_draw => first | k_is | rfl | decide +kernel)
    (case a__law_pick => first | k_is | rfl | decide +kernel)
    (case l__law_pick => first | k_is | rfl | decide +kernel)
    (case c__law_pick => first | k_is | rfl | decide +kernel)
    (case k__law_pick => first | k_is | rfl | decide +kernel)
    (case a__law_weights => first | k_is | rfl | decide +kernel)
    (case l__law_weights => first | k_is | rfl | decide +kernel)
    (case c__law_weights => first | k_is | rfl | decide +kernel)
    (case k__law_weights => first | k_is | rfl | decide +kernel)
    (case a__law_cap => first | k_is | rfl | decide +kernel)
    (case l__law_cap => first | k_is | rfl | decide +kernel)
    (case c__law_cap => first | k_is | rfl | decide +kernel)
    (case k__law_cap => first | k_is | rfl | decide +kernel)
    (case a_is_name => first | k_is | rfl | decide +kernel)
    (case l_is_name => first | k_is | rfl | decide +kernel)
    (case c_is_name => first | k_is | rfl | decide +kernel)
    (case k_is_name => first | k_is | rfl | decide +kernel)
    (case a_is_own_name => first | k_is | rfl | decide +kernel)
    (case l_is_own_name => first | k_is | rfl | decide +kernel)
    (case c_is_own_name => first | k_is | rfl | decide +kernel)
    (case k_is_own_name => first | k_is | rfl | decide +kernel)
    (case a_is_integer => first | k_is | rfl | decide +kernel)
    (case l_is_integer => first | k_is | rfl | decide +kernel)
    (case c_is_integer => first | k_is | rfl | decide +kernel)
    (case k_is_integer => first | k_is | rfl | decide +kernel)
    (case a_is_between => first | k_is | rfl | decide +kernel)
    (case l_is_between => first | k_is | rfl | decide +kernel)
    (case c_is_between => first | k_is | rfl | decide +kernel)
    (case k_is_between => first | k_is | rfl | decide +kernel)
    (case a_are_weights => first | k_is | rfl | decide +kernel)
    (case l_are_weights => first | k_is | rfl | decide +kernel)
    (case c_are_weights => first | k_is | rfl | decide +kernel)
    (case k_are_weights => first | k_is | rfl | decide +kernel)
    (case a_is_cap => first | k_is | rfl | decide +kernel)
    (case l_is_cap => first | k_is | rfl | decide +kernel)
    (case c_is_cap => first | k_is | rfl | decide +kernel)
    (case k_is_cap => first | k_is | rfl | decide +kernel)
    (case a__law_told => first | k_is | rfl | decide +kernel)
    (case l__law_told => first | k_is | rfl | decide +kernel)
    (case c__law_told => first | k_is | rfl | decide +kernel)
    (case k__law_told => first | k_is | rfl | decide +kernel)
    (case a__law_due => first | k_is | rfl | decide +kernel)
    (case l__law_due => first | k_is | rfl | decide +kernel)
    (case c__law_due => first | k_is | rfl | decide +kernel)
    (case k__law_due => first | k_is | rfl | decide +kernel)
    (case a__law_bad_weights => first | k_is | rfl | decide +kernel)
    (case l__law_bad_weights => first | k_is | rfl | decide +kernel)
    (case c__law_bad_weights => first | k_is | rfl | decide +kernel)
    (case k__law_bad_weights => first | k_is | rfl | decide +kernel)
    (case a__law_heard => first | k_is | rfl | decide +kernel)
    (case l__law_heard => first | k_is | rfl | decide +kernel)
    (case c__law_heard => first | k_is | rfl | decide +kernel)
    (case k__law_heard => first | k_is | rfl | decide +kernel)
    (case a__law_refused_right => first | k_is | rfl | decide +kernel)
    (case l__law_refused_right => first | k_is | rfl | decide +kernel)
    (case c__law_refused_right => first | k_is | rfl | decide +kernel)
    (case k__law_refused_right => first | k_is | rfl | decide +kernel)
    (case a_law => first | k_is | rfl | decide +kernel)
    (case l_law => first | k_is | rfl | decide +kernel)
    (case c_law => first | k_is | rfl | decide +kernel)
    (case k_law => first | k_is | rfl | decide +kernel)
    (case u_abs => first | k_is | rfl | decide +kernel)
    (case u_all => first | k_is | rfl | decide +kernel)
    (case u_bool => first | k_is | rfl | decide +kernel)
    (case u_dict => first | k_is | rfl | decide +kernel)
    (case u_int => first | k_is | rfl | decide +kernel)
    (case u_isinstance => first | k_is | rfl | decide +kernel)
    (case u_len => first | k_is | rfl | decide +kernel)
    (case u_list => first | k_is | rfl | decide +kernel)
    (case u_range => first | k_is | rfl | decide +kernel)
    (case u_repr => first | k_is | rfl | decide +kernel)
    (case u_sorted => first | k_is | rfl | decide +kernel)
    (case u_str => first | k_is | rfl | decide +kernel)
    (case u_tuple => first | k_is | rfl | decide +kernel)
    (case g_LETTERS => first | k_is | rfl | decide +kernel)
    (case g_MOST_CAP => first | k_is | rfl | decide +kernel)
    (case g_MOST_ISLES => first | k_is | rfl | decide +kernel)
    (case g_MOST_LETTERS => first | k_is | rfl | decide +kernel)
    (case g_MOST_WEIGHT => first | k_is | rfl | decide +kernel)
    (case g_SHORE => first | k_is | rfl | decide +kernel)
    (case e_g => first | k_is | rfl | decide +kernel)
    (case e_l => first | k_is | rfl | decide +kernel)
    (case e_k => first | k_is | rfl | decide +kernel)
    (case e_sa => first | k_is | rfl | decide +kernel)
    (case e_ga => first | k_is | rfl | decide +kernel)
    (case e_gg => first | k_is | rfl | decide +kernel)
    (case e_f_part => first | k_is | rfl | decide +kernel)
    (case e_ex => first | k_is | rfl | decide +kernel)
    (case e_v => first | k_is | rfl | decide +kernel)
    (case e_m => first | k_is | rfl | decide +kernel)
    (case e_t => first | k_is | rfl | decide +kernel)
    (case e_h => first | k_is | rfl | decide +kernel)
    (case e_ic => first | k_is | rfl | decide +kernel)
    (case e_sc => first | k_is | rfl | decide +kernel)
    (case e_o => first | k_is | rfl | decide +kernel)
    (case e_ns => first | k_is | rfl | decide +kernel)
    (case e_i => first | k_is | rfl | decide +kernel)
    (case e_ti => first | k_is | rfl | decide +kernel)
    (case e_fn => first | k_is | rfl | decide +kernel)
    (case e_co => first | k_is | rfl | decide +kernel)
    (case e_cc => first | k_is | rfl | decide +kernel)
    (case e_ca => first | k_is | rfl | decide +kernel)
    (case e_vs => rfl)
    (case e_fi => decide +kernel)
    (case e_su => ks_is)
    (case e_bm => decide +kernel)
    (case e_ha => first | k_is | rfl | decide +kernel)
    (case e_hm => first | k_is | rfl | decide +kernel)
    (case o_hn => first | k_is | rfl | decide +kernel)
    (case o_tk => first | k_is | rfl | decide +kernel)
    (case d_g => first | k_is | rfl | decide +kernel)
    (case d_ex => first | k_is | rfl | decide +kernel)
    (case d_h => first | k_is | rfl | decide +kernel)
    (case d_t => first | k_is | rfl | decide +kernel)
    (case d_s => first | k_is | rfl | decide +kernel)
    (case k_g => first | k_is | rfl | decide +kernel)
    (case k_pg => first | k_is | rfl | decide +kernel)
    (case k_hd => first | k_is | rfl | decide +kernel)
    (case k_po => first | k_is | rfl | decide +kernel)
    (case k_sa => first | k_is | rfl | decide +kernel)
    (case k_f_entries => first | k_is | rfl | decide +kernel)
    (case k_f_limits => first | k_is | rfl | decide +kernel)
    (case k_ha => first | k_is | rfl | decide +kernel)
    (case k_hm => first | k_is | rfl | decide +kernel)
    (case k_ns => first | k_is | rfl | decide +kernel)
    (case k_mk => first | k_is | rfl | decide +kernel)
    (case k_kp => first | k_is | rfl | decide +kernel)
    (case k_rd => first | k_is | rfl | decide +kernel)
    (case k_rg => first | k_is | rfl | decide +kernel)
    (case k_ne => first | k_is | rfl | decide +kernel)
    (case kn_NoneType => first | k_is | rfl | decide +kernel)
    (case kn_bool => first | k_is | rfl | decide +kernel)
    (case kn_int => first | k_is | rfl | decide +kernel)
    (case kn_str => first | k_is | rfl | decide +kernel)
    (case kn_tuple => first | k_is | rfl | decide +kernel)
    (case kn_list => first | k_is | rfl | decide +kernel)
    (case kn_dict => first | k_is | rfl | decide +kernel)
    (case kf_NoneType => first | k_is | rfl | decide +kernel)
    (case kf_tuple => first | k_is | rfl | decide +kernel)
    (case a_Ledger___init__ => first | k_is | rfl | decide +kernel)
    (case i_Ledger___init__ => first | k_is | rfl | decide +kernel)
    (case l_Ledger___init__ => first | k_is | rfl | decide +kernel)
    (case c_Ledger___init__ => first | k_is | rfl | decide +kernel)
    (case k_Ledger___init__ => first | k_is | rfl | decide +kernel)
    (case a_Ledger_weights => first | k_is | rfl | decide +kernel)
    (case g_Ledger_weights => first | k_is | rfl | decide +kernel)
    (case t_Ledger_weights => first | k_is | rfl | decide +kernel)
    (case r_Ledger_weights => first | k_is | rfl | decide +kernel)
    (case l_Ledger_weights => first | k_is | rfl | decide +kernel)
    (case c_Ledger_weights => first | k_is | rfl | decide +kernel)
    (case k_Ledger_weights => first | k_is | rfl | decide +kernel)
    (case a_Ledger_names => first | k_is | rfl | decide +kernel)
    (case g_Ledger_names => first | k_is | rfl | decide +kernel)
    (case t_Ledger_names => first | k_is | rfl | decide +kernel)
    (case r_Ledger_names => first | k_is | rfl | decide +kernel)
    (case l_Ledger_names => first | k_is | rfl | decide +kernel)
    (case c_Ledger_names => first | k_is | rfl | decide +kernel)
    (case k_Ledger_names => first | k_is | rfl | decide +kernel)
    (case a_Ledger_load_cap => first | k_is | rfl | decide +kernel)
    (case g_Ledger_load_cap => first | k_is | rfl | decide +kernel)
    (case t_Ledger_load_cap => first | k_is | rfl | decide +kernel)
    (case r_Ledger_load_cap => first | k_is | rfl | decide +kernel)
    (case l_Ledger_load_cap => first | k_is | rfl | decide +kernel)
    (case c_Ledger_load_cap => first | k_is | rfl | decide +kernel)
    (case k_Ledger_load_cap => first | k_is | rfl | decide +kernel)
    (case a_Ledger_rush_cap => first | k_is | rfl | decide +kernel)
    (case g_Ledger_rush_cap => first | k_is | rfl | decide +kernel)
    (case t_Ledger_rush_cap => first | k_is | rfl | decide +kernel)
    (case r_Ledger_rush_cap => first | k_is | rfl | decide +kernel)
    (case l_Ledger_rush_cap => first | k_is | rfl | decide +kernel)
    (case c_Ledger_rush_cap => first | k_is | rfl | decide +kernel)
    (case k_Ledger_rush_cap => first | k_is | rfl | decide +kernel)
    (case a_Ledger_with_load => first | k_is | rfl | decide +kernel)
    (case i_Ledger_with_load => first | k_is | rfl | decide +kernel)
    (case l_Ledger_with_load => first | k_is | rfl | decide +kernel)
    (case c_Ledger_with_load => first | k_is | rfl | decide +kernel)
    (case k_Ledger_with_load => first | k_is | rfl | decide +kernel)
    (case a_Ledger_with_rush => first | k_is | rfl | decide +kernel)
    (case i_Ledger_with_rush => first | k_is | rfl | decide +kernel)
    (case l_Ledger_with_rush => first | k_is | rfl | decide +kernel)
    (case c_Ledger_with_rush => first | k_is | rfl | decide +kernel)
    (case k_Ledger_with_rush => first | k_is | rfl | decide +kernel)
    (case a_Ledger___eq__ => first | k_is | rfl | decide +kernel)
    (case i_Ledger___eq__ => first | k_is | rfl | decide +kernel)
    (case l_Ledger___eq__ => first | k_is | rfl | decide +kernel)
    (case c_Ledger___eq__ => first | k_is | rfl | decide +kernel)
    (case k_Ledger___eq__ => first | k_is | rfl | decide +kernel)
    (case a_Ledger___repr__ => first | k_is | rfl | decide +kernel)
    (case i_Ledger___repr__ => first | k_is | rfl | decide +kernel)
    (case l_Ledger___repr__ => first | k_is | rfl | decide +kernel)
    (case c_Ledger___repr__ => first | k_is | rfl | decide +kernel)
    (case k_Ledger___repr__ => first | k_is | rfl | decide +kernel)
    (case kd_load => first | k_is | rfl | decide +kernel)
    (case kd_rush => first | k_is | rfl | decide +kernel)
    (case nT => first | k_is | rfl | decide +kernel | kernel_rfl); (case hd => first | k_is | decide +kernel | kernel_rfl); (case tp => decide +kernel)
  exact ⟨fd, cs, Gd, K80.d_law, h1, h2, h3, h4, h5, h6, fun ns hl hb => K80.law_plain ns hl hb, h7⟩
