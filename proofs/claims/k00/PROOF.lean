import PyProof.Rows.All
import Wide.All
import OpenK.AllK
import Wide.FinOn
import HandS.ForMost
import HandS.ForExc
import HandS.CallSlots
import HandS.IsInst
import HandS.TupAny
import HandS.TupLe
import HandS.Style
import HandS.Deep
import HandS.More
import KE.DataCmp
import KE.SortData
import HandS.DictComp
import HandS.TupMul
import PyProof.StrOps2
import PyProof.FitsStr
import KE.KDictPairs
import HandS.Small
import HandS.ExcIs
import HandS.ExcField
import HandS.TupSets
import HandS.Set
import HandS.SetKeys
import HandS.Strs
import PySem.Challenge.RW_treesread_k00_signs_ranks_and_trees
set_option Elab.async false
set_option linter.all false
set_option maxRecDepth 100000
set_option maxHeartbeats 4000000
namespace Mi
open PySem PySem.Spec L2
open PyProof.Rows hiding St

/-- plain data, without a heap: what never changes once it is made -/
inductive D where
  | non | bl (b : Bool) | int (i : Int) | str (x : Str)
  | tup (xs : List D) | lst (xs : List D) | dct (kvs : List (D × D)) | ins (C : Str) (fs : List (Str × D))
  /-- the exception that a suite holds -/
  | exo

/-- an object that changes: held by one slot alone -/
inductive Cell where
  | lst (xs : List D) | dct (kvs : List (D × D)) | ins (C : Str) (fs : List (Str × D))
/-- a slot of a def: unknown, a value, an own changing object (own: made here; else a caller's) -/
inductive Slot where
  | emp | val (d : D) | cel (own : Bool) (c : Cell)
abbrev Env' := List Slot
def Cell.frz : Cell → D
  | .lst xs => .lst xs
  | .dct kvs => .dct kvs
  | .ins C fs => .ins C fs

def isMutO : HO → Prop
  | .lst _ => True
  | .dK _ => True
  | .dT _ => True
  | .ins _ _ _ => True
  | .ext _ => True
  | _ => False

/-- the module's names, the program, the world -/
structure Mw where
  m : Str → Option Value
  P : Program
  w : World
  ex : Option Addr
def keyD : Key → D
  | .inl i => .int i
  | .inr x => .str x

section
variable (K : PySem.W.Frag) (mg : Mw) (H : Hp) (Z : Addr → Prop)
/-- a list that is read: an own of the heap, or one of the module -/
def RdL (a : Addr) (vs : List V) : Prop := (¬ Z a ∧ Rd H a (.lst vs)) ∨
  ∃ (o : Obj) (its : Array Value) (n : Nat), K.lookup a = some o ∧ o.cls = .type "list" ∧ o.dict = none ∧ o.data = .seq its n ∧ its.size ≤ sizeLine ∧ Vals vs its.toList
/-- a tuple that is read: its object is known to bear no attributes -/
def XT (a : Addr) (vs : List V) : Prop := (∃ ob : Obj, ob.dict = none ∧ H a = some (.frz ob (.tup vs))) ∨
  ∃ (o : Obj) (its : Array Value) (n : Nat), K.lookup a = some o ∧ o.cls = .type "tuple" ∧ o.dict = none ∧ o.data = .seq its n ∧ its.size ≤ sizeLine ∧ Vals vs its.toList
mutual
inductive Rep : D → V → Prop
  | non : Rep .non .non
  | bl (b : Bool) : Rep (.bl b) (.bl b)
  | int (i : Int) : Rep (.int i) (.int i)
  | str (x : Str) : Rep (.str x) (.str x)
  | tup {a : Addr} {ds : List D} {vs : List V} : XT K H a vs → Reps ds vs → Rep (.tup ds) (.ref a)
  | lst {a : Addr} {ds : List D} {vs : List V} : RdL K H Z a vs → Reps ds vs → Rep (.lst ds) (.ref a)
  | dct {a : Addr} {ob : Obj} {kvs : List (D × D)} {kws : List (Key × V)} : H a = some (.frz ob (.dK kws)) → RepKs kvs kws → Rep (.dct kvs) (.ref a)
  | ins {a c dx : Addr} {C : Str} {fs : List (Str × D)} {fvs : List (Str × V)} : ¬ Z a → mg.m C = some (.ref c) → H a = some (.ins c dx fvs) → RepFs fs fvs → Rep (.ins C fs) (.ref a)
  | exo {a : Addr} : mg.ex = some a → Rep .exo (.ref a)
inductive Reps : List D → List V → Prop
  | nil : Reps [] []
  | cons {d : D} {ds : List D} {v : V} {vs : List V} : Rep d v → Reps ds vs → Reps (d :: ds) (v :: vs)
inductive RepKs : List (D × D) → List (Key × V) → Prop
  | nil : RepKs [] []
  | cons {d : D} {r : List (D × D)} {k : Key} {v : V} {s : List (Key × V)} : Rep d v → RepKs r s → RepKs ((keyD k, d) :: r) ((k, v) :: s)
inductive RepFs : List (Str × D) → List (Str × V) → Prop
  | nil : RepFs [] []
  | cons {d : D} {r : List (Str × D)} {k : Str} {v : V} {s : List (Str × V)} : Rep d v → RepFs r s → RepFs ((k, d) :: r) ((k, v) :: s)
end
/-- a changing object's content -/
inductive CellAt (a : Addr) : Cell → Prop
  | lst {ds : List D} {vs : List V} : H a = some (.lst vs) → Reps K mg H Z ds vs → CellAt a (.lst ds)
  | dct {kvs : List (D × D)} {kws : List (Key × V)} : H a = some (.dK kws) → RepKs K mg H Z kvs kws → CellAt a (.dct kvs)
  | ins {c dx : Addr} {C : Str} {fs : List (Str × D)} {fvs : List (Str × V)} : mg.m C = some (.ref c) → H a = some (.ins c dx fvs) → RepFs K mg H Z fs fvs → CellAt a (.ins C fs)
end

/-- what is not about to change stays -/
def Gr (H : Hp) (Z : Addr → Prop) (H' : Hp) (Z' : Addr → Prop) : Prop :=
  ∀ a o, H a = some o → (¬ Z a ∨ ¬ isMutO o) → H' a = some o ∧ (¬ Z a → ¬ Z' a)
theorem Gr.refl (H : Hp) (Z : Addr → Prop) : Gr H Z H Z := fun _ _ h _ => ⟨h, id⟩

section
variable {K : PySem.W.Frag} {mg : Mw} {H H' : Hp} {Z Z' : Addr → Prop}
theorem Gr.frz (g : Gr H Z H' Z') {a : Addr} {o : HO} (h : H a = some o) (n : ¬ isMutO o) : H' a = some o := (g a o h (.inr n)).1
theorem XT.sq {a : Addr} {vs : List V} (h : XT K H a vs) : SqT K H a vs := by
  rcases h with ⟨ob, _, h⟩ | ⟨o, its, n, h1, h2, _, h4, h5, h6⟩
  · exact .inl (.inr ⟨ob, h⟩)
  · exact .inr ⟨o, its, n, h1, h2, h4, h5, h6⟩
theorem Gr.tup (g : Gr H Z H' Z') {a : Addr} {vs : List V} (h : XT K H a vs) : XT K H' a vs := by
  rcases h with ⟨ob, d, h⟩ | h
  · exact .inl ⟨ob, d, g.frz h (fun z => z)⟩
  · exact .inr h
theorem Gr.lst (g : Gr H Z H' Z') {a : Addr} {vs : List V} (h : RdL K H Z a vs) : RdL K H' Z' a vs := by
  rcases h with ⟨n, h | ⟨o, h⟩⟩ | h
  · have q := g a _ h (.inl n)
    exact .inl ⟨q.2 n, .inl q.1⟩
  · have q := g a _ h (.inl n)
    exact .inl ⟨q.2 n, .inr ⟨o, q.1⟩⟩
  · exact .inr h
mutual
theorem Rep.mono (g : Gr H Z H' Z') : ∀ {d : D} {v : V}, Rep K mg H Z d v → Rep K mg H' Z' d v
  | _, _, .non => .non
  | _, _, .bl b => .bl b
  | _, _, .int i => .int i
  | _, _, .str x => .str x
  | _, _, .tup h r => .tup (g.tup h) (Reps.mono g r)
  | _, _, .lst h r => .lst (g.lst h) (Reps.mono g r)
  | _, _, .dct h r => .dct (g.frz h (fun z => z)) (RepKs.mono g r)
  | _, _, .ins n m h r => .ins ((g _ _ h (.inl n)).2 n) m (g _ _ h (.inl n)).1 (RepFs.mono g r)
  | _, _, .exo h => .exo h
theorem Reps.mono (g : Gr H Z H' Z') : ∀ {ds : List D} {vs : List V}, Reps K mg H Z ds vs → Reps K mg H' Z' ds vs
  | _, _, .nil => .nil
  | _, _, .cons h r => .cons (Rep.mono g h) (Reps.mono g r)
theorem RepKs.mono (g : Gr H Z H' Z') : ∀ {ds : List (D × D)} {vs : List (Key × V)}, RepKs K mg H Z ds vs → RepKs K mg H' Z' ds vs
  | _, _, .nil => .nil
  | _, _, .cons h r => .cons (Rep.mono g h) (RepKs.mono g r)
theorem RepFs.mono (g : Gr H Z H' Z') : ∀ {ds : List (Str × D)} {vs : List (Str × V)}, RepFs K mg H Z ds vs → RepFs K mg H' Z' ds vs
  | _, _, .nil => .nil
  | _, _, .cons h r => .cons (Rep.mono g h) (RepFs.mono g r)
end
theorem Reps.length : ∀ {ds : List D} {vs : List V}, Reps K mg H Z ds vs → ds.length = vs.length
  | _, _, .nil => rfl
  | _, _, .cons _ r => congrArg (· + 1) (Reps.length r)
theorem Reps.get : ∀ {ds : List D} {vs : List V} {i : Nat} {d : D}, Reps K mg H Z ds vs → ds[i]? = some d → ∃ v, vs[i]? = some v ∧ Rep K mg H Z d v
  | _, _, _, _, .nil, e => by simp at e
  | _, _, 0, _, .cons r _, e => by simp at e; subst e; exact ⟨_, rfl, r⟩
  | _, _, i + 1, _, .cons _ t, e => by
    obtain ⟨v, h1, h2⟩ := Reps.get (i := i) t (by simpa using e)
    exact ⟨v, by simpa using h1, h2⟩
theorem Reps.get' : ∀ {ds : List D} {vs : List V} {i : Nat} {v : V}, Reps K mg H Z ds vs → vs[i]? = some v → ∃ d, ds[i]? = some d ∧ Rep K mg H Z d v
  | _, _, _, _, .nil, e => by simp at e
  | _, _, 0, _, .cons r _, e => by simp at e; subst e; exact ⟨_, rfl, r⟩
  | _, _, i + 1, _, .cons _ t, e => by
    obtain ⟨v, h1, h2⟩ := Reps.get' (i := i) t (by simpa using e)
    exact ⟨v, by simpa using h1, h2⟩
theorem Reps.append : ∀ {ds es : List D} {vs ws : List V}, Reps K mg H Z ds vs → Reps K mg H Z es ws → Reps K mg H Z (ds ++ es) (vs ++ ws)
  | _, _, _, _, .nil, s => s
  | _, _, _, _, .cons r t, s => .cons r (Reps.append t s)
theorem Reps.take : ∀ {ds : List D} {vs : List V} (n : Nat), Reps K mg H Z ds vs → Reps K mg H Z (ds.take n) (vs.take n)
  | _, _, 0, _ => .nil
  | _, _, _ + 1, .nil => .nil
  | _, _, n + 1, .cons r t => .cons r (Reps.take n t)
theorem Reps.drop : ∀ {ds : List D} {vs : List V} (n : Nat), Reps K mg H Z ds vs → Reps K mg H Z (ds.drop n) (vs.drop n)
  | _, _, 0, r => r
  | _, _, _ + 1, .nil => .nil
  | _, _, n + 1, .cons _ t => Reps.drop n t
theorem Reps.set {d : D} {v : V} (r : Rep K mg H Z d v) : ∀ {ds : List D} {vs : List V} (i : Nat), Reps K mg H Z ds vs → Reps K mg H Z (ds.set i d) (vs.set i v)
  | _, _, _, .nil => .nil
  | _, _, 0, .cons _ t => .cons r t
  | _, _, i + 1, .cons q t => .cons q (Reps.set r i t)
theorem Reps.eraseIdx : ∀ {ds : List D} {vs : List V} (i : Nat), Reps K mg H Z ds vs → Reps K mg H Z (ds.eraseIdx i) (vs.eraseIdx i)
  | _, _, _, .nil => .nil
  | _, _, 0, .cons _ t => t
  | _, _, i + 1, .cons q t => .cons q (Reps.eraseIdx i t)
theorem Reps.dropLast {ds : List D} {vs : List V} (r : Reps K mg H Z ds vs) : Reps K mg H Z ds.dropLast vs.dropLast := by
  rw [List.dropLast_eq_take, List.dropLast_eq_take, r.length]
  exact r.take _
theorem Reps.reverse : ∀ {ds : List D} {vs : List V}, Reps K mg H Z ds vs → Reps K mg H Z ds.reverse vs.reverse
  | _, _, .nil => .nil
  | _, _, .cons r t => by
    rw [List.reverse_cons, List.reverse_cons]
    exact (Reps.reverse t).append (.cons r .nil)
theorem CellAt.mono (g : Gr H Z H' Z') {a : Addr} {c : Cell} (h : CellAt K mg H Z a c) (k : ∀ o, H a = some o → H' a = some o) : CellAt K mg H' Z' a c := by
  cases h with
  | lst h r => exact .lst (k _ h) (r.mono g)
  | dct h r => exact .dct (k _ h) (r.mono g)
  | ins m h r => exact .ins m (k _ h) (r.mono g)
theorem CellAt.there {a : Addr} {c : Cell} (h : CellAt K mg H Z a c) : ∃ o, H a = some o ∧ isMutO o := by
  cases h with
  | lst h r => exact ⟨_, h, trivial⟩
  | dct h r => exact ⟨_, h, trivial⟩
  | ins m h r => exact ⟨_, h, trivial⟩
end

/-- what a def's body knows from outside: the module, the addresses that are not its own to alias (z), the parameters' objects that it may change (p) -/
structure Bd where
  K : PySem.W.Frag
  mg : Mw
  z : Addr → Prop
  p : Nat → Option Addr
  /-- what stands as it is: the fields of a caught exception -/
  kp : Addr → Option HO
def noK : Addr → Option HO := fun _ => none
def Bd.add (B : Bd) (a : Addr) : Bd := { B with z := fun b => B.z b ∨ b = a }

/-- the changing objects of the slots -/
def Zof (σ : St) (env : Env') (a : Addr) : Prop := ∃ (i : Nat) (o : Bool) (c : Cell), env[i]? = some (.cel o c) ∧ σ[i]? = some (some (.ref a))
def Zall (z : Addr → Prop) (σ : St) (env : Env') (a : Addr) : Prop := z a ∨ Zof σ env a
abbrev RepE (B : Bd) (σ : St) (env : Env') (H : Hp) : D → V → Prop := Rep B.K B.mg H (Zall B.z σ env)
abbrev RepsE (B : Bd) (σ : St) (env : Env') (H : Hp) : List D → List V → Prop := Reps B.K B.mg H (Zall B.z σ env)

structure Rel (B : Bd) (σ : St) (env : Env') (H : Hp) : Prop where
  len : env.length = σ.length
  val : ∀ (i : Nat) (d : D), env[i]? = some (.val d) → ∃ v, σ[i]? = some (some v) ∧ RepE B σ env H d v
  chg : ∀ (i : Nat) (o : Bool) (c : Cell), env[i]? = some (.cel o c) → ∃ a, σ[i]? = some (some (.ref a)) ∧ CellAt B.K B.mg H (Zall B.z σ env) a c ∧ (o = true → ¬ B.z a) ∧ (o = false → B.p i = some a)
  dist : ∀ (i j : Nat) (o o' : Bool) (c c' : Cell) (a : Addr), env[i]? = some (.cel o c) → env[j]? = some (.cel o' c') → σ[i]? = some (some (.ref a)) → σ[j]? = some (some (.ref a)) → i = j
  z0 : ∀ a, B.z a → ∃ o, H a = some o ∧ isMutO o
  pz : ∀ i a, B.p i = some a → B.z a
  kp : ∀ a o, B.kp a = some o → H a = some o ∧ ¬ isMutO o

/-- from one state to a later one: what is not about to change stays -/
def Ext (σ : St) (env : Env') (H : Hp) (σ' : St) (env' : Env') (H' : Hp) : Prop := Gr H (Zof σ env) H' (Zof σ' env')
theorem Gr.trans {H H1 H2 : Hp} {Z Z1 Z2 : Addr → Prop} (a : Gr H Z H1 Z1) (b : Gr H1 Z1 H2 Z2) : Gr H Z H2 Z2 := fun x o h n => by
  obtain ⟨h1, n1⟩ := a x o h n
  rcases n with n | n
  · obtain ⟨h2, n2⟩ := b x o h1 (.inl (n1 n))
    exact ⟨h2, fun _ => n2 (n1 n)⟩
  · obtain ⟨h2, n2⟩ := b x o h1 (.inr n)
    exact ⟨h2, fun m => n2 (n1 m)⟩
theorem Gr.all {H H' : Hp} {z : Addr → Prop} {σ σ' : St} {env env' : Env'} (g : Gr H (Zof σ env) H' (Zof σ' env')) : Gr H (Zall z σ env) H' (Zall z σ' env') := fun a o h n => by
  have n' : ¬ Zof σ env a ∨ ¬ isMutO o := by
    rcases n with n | n
    · exact .inl fun q => n (.inr q)
    · exact .inr n
  obtain ⟨h1, n1⟩ := g a o h n'
  refine ⟨h1, fun m q => ?_⟩
  rcases q with q | q
  · exact m (.inl q)
  · exact n1 (fun r => m (.inr r)) q
theorem Gr.kp {H H' : Hp} {Z Z' : Addr → Prop} (g : Gr H Z H' Z') {a : Addr} {o : HO} (k : H a = some o ∧ ¬ isMutO o) : H' a = some o ∧ ¬ isMutO o := ⟨(g a o k.1 (.inr k.2)).1, k.2⟩
/-- only new objects -/
def Grow (H H' : Hp) : Prop := ∀ a o, H a = some o → H' a = some o
theorem Grow.refl (H : Hp) : Grow H H := fun _ _ h => h
theorem Grow.trans {H H1 H2 : Hp} (a : Grow H H1) (b : Grow H1 H2) : Grow H H2 := fun x o h => b x o (a x o h)
theorem Grow.gr {H H' : Hp} (g : Grow H H') (Z : Addr → Prop) : Gr H Z H' Z := fun a o h _ => ⟨g a o h, id⟩
theorem Grow.upd {H : Hp} {a : Addr} {o : HO} (h : H a = none) : Grow H (upd H a o) := fun b u e => by rw [upd_ne (ne_of_none e h)]; exact e
section
variable {B : Bd} {σ : St} {env : Env'} {H H' : Hp}
theorem Rel.grow (r : Rel B σ env H) (g : Grow H H') : Rel B σ env H' where
  len := r.len
  val := fun i d e => by
    obtain ⟨v, h, q⟩ := r.val i d e
    exact ⟨v, h, q.mono (g.gr _)⟩
  chg := fun i o c e => by
    obtain ⟨a, h, q, w⟩ := r.chg i o c e
    exact ⟨a, h, q.mono (g.gr _) (g a), w⟩
  dist := r.dist
  z0 := fun a h => by
    obtain ⟨o, e, m⟩ := r.z0 a h
    exact ⟨o, g a o e, m⟩
  pz := r.pz
  kp := fun a o e => (g.gr (fun _ => False)).kp (r.kp a o e)
theorem Grow.ext (g : Grow H H') : Ext σ env H σ env H' := g.gr _
theorem Ext.refl : Ext σ env H σ env H := Gr.refl _ _
theorem Rel.live (r : Rel B σ env H) {a : Addr} (h : Zall B.z σ env a) : ∃ o, H a = some o ∧ isMutO o := by
  rcases h with h | ⟨i, o, c, e1, e2⟩
  · exact r.z0 a h
  · obtain ⟨b, h, q, _⟩ := r.chg i o c e1
    rw [e2] at h
    have : a = b := by injection h with h; injection h with h; injection h
    subst this
    exact q.there
theorem Rel.free (r : Rel B σ env H) {a : Addr} (h : H a = none) : ¬ Zall B.z σ env a := fun q => by
  obtain ⟨o, e, _⟩ := r.live q
  rw [h] at e; cases e
/-- a new address that stays apart -/
theorem Rel.addNew (r : Rel B σ env H) {p : Addr} {o : HO} (h : H p = none) (m : isMutO o) : Rel (B.add p) σ env (upd H p o) := by
  have g : Gr H (Zall B.z σ env) (upd H p o) (Zall (B.add p).z σ env) := fun a u e _ => by
    have ne := ne_of_none e h
    refine ⟨by rw [upd_ne ne]; exact e, fun n q => ?_⟩
    rcases q with (q | q) | q
    · exact n (.inl q)
    · exact ne q
    · exact n (.inr q)
  refine ⟨r.len, fun i d e => ?_, fun i o c e => ?_, r.dist, fun a q => ?_, fun i a e => .inl (r.pz i a e), fun a o e => g.kp (r.kp a o e)⟩
  · obtain ⟨v, h1, q⟩ := r.val i d e
    exact ⟨v, h1, q.mono g⟩
  · obtain ⟨a, h1, q, w1, w2⟩ := r.chg i o c e
    obtain ⟨u, hu, _⟩ := q.there
    refine ⟨a, h1, q.mono g (fun u e => by rw [upd_ne (ne_of_none e h)]; exact e), fun z q => ?_, w2⟩
    rcases q with q | q
    · exact w1 z q
    · exact ne_of_none hu h q
  · rcases q with q | q
    · obtain ⟨u, e, mu⟩ := r.z0 a q
      exact ⟨u, by rw [upd_ne (ne_of_none e h)]; exact e, mu⟩
    · subst q
      exact ⟨o, upd_same, m⟩
theorem Gr.sub {H : Hp} {Z Z' : Addr → Prop} (h : ∀ a, Z' a → Z a) : Gr H Z H Z' := fun a o e _ => ⟨e, fun n q => n (h a q)⟩
theorem Rel.ofAdd {p : Addr} (r : Rel (B.add p) σ env H) (hp : ∀ i a, B.p i = some a → B.z a) : Rel B σ env H := by
  have g : Gr H (Zall (B.add p).z σ env) H (Zall B.z σ env) := Gr.sub fun a q => by
    rcases q with q | q
    · exact .inl (.inl q)
    · exact .inr q
  refine ⟨r.len, fun i d e => ?_, fun i o c e => ?_, r.dist, fun a q => r.z0 a (.inl q), hp, r.kp⟩
  · obtain ⟨v, h1, q⟩ := r.val i d e
    exact ⟨v, h1, q.mono g⟩
  · obtain ⟨a, h1, q, w1, w2⟩ := r.chg i o c e
    exact ⟨a, h1, q.mono g (fun u e => e), fun z q => w1 z (.inl q), w2⟩
end
theorem set_get {α : Type} {l : List α} {i j : Nat} {x y : α} (h : (l.set i x)[j]? = some y) : (j = i ∧ y = x ∧ i < l.length) ∨ (j ≠ i ∧ l[j]? = some y) := by
  by_cases e : j = i
  · subst e
    have hl : j < l.length := by
      have := (List.getElem?_eq_some_iff.mp h).1
      simpa using this
    rw [List.getElem?_set_self hl] at h
    exact .inl ⟨rfl, (Option.some.inj h).symm, hl⟩
  · rw [List.getElem?_set_ne (Ne.symm e)] at h
    exact .inr ⟨e, h⟩
theorem get_set_ne {α : Type} {l : List α} {i j : Nat} {x : α} (h : j ≠ i) : (l.set i x)[j]? = l[j]? := List.getElem?_set_ne (Ne.symm h)
section
variable {B : Bd} {σ : St} {env : Env'} {H H' : Hp}
theorem Zof.unset {i : Nat} {s : Slot} {a : Addr} {v : Option V} (ns : ∀ o c, s ≠ .cel o c) (h : Zof (σ.set i v) (env.set i s) a) : Zof σ env a := by
  obtain ⟨j, o, c, e1, e2⟩ := h
  rcases set_get e1 with ⟨_, q, _⟩ | ⟨ne, e1⟩
  · exact absurd q.symm (ns o c)
  · rw [get_set_ne ne] at e2
    exact ⟨j, o, c, e1, e2⟩
/-- a slot takes a value -/
theorem Rel.setVal (r : Rel B σ env H) (i : Nat) {d : D} {v : V} (q : RepE B σ env H d v) : Rel B (σ.set i (some v)) (env.set i (.val d)) H := by
  have sub : ∀ a, Zall B.z (σ.set i (some v)) (env.set i (.val d)) a → Zall B.z σ env a := fun a h => by
    rcases h with h | h
    · exact .inl h
    · exact .inr (h.unset fun _ _ z => by cases z)
  have g := Gr.sub (H := H) sub
  refine ⟨by simpa using r.len, fun j e h => ?_, fun j o c h => ?_, fun j k o o' c c' a h1 h2 h3 h4 => ?_, r.z0, r.pz, r.kp⟩
  · rcases set_get h with ⟨rfl, q', hl⟩ | ⟨ne, h⟩
    · cases q'
      refine ⟨v, ?_, q.mono g⟩
      rw [List.getElem?_set_self (by rw [← r.len]; exact hl)]
    · obtain ⟨w, h1, h2⟩ := r.val j e h
      exact ⟨w, by rw [get_set_ne ne]; exact h1, h2.mono g⟩
  · rcases set_get h with ⟨_, q', _⟩ | ⟨ne, h⟩
    · cases q'
    · obtain ⟨a, h1, h2, h3⟩ := r.chg j o c h
      exact ⟨a, by rw [get_set_ne ne]; exact h1, h2.mono g (fun _ e => e), h3⟩
  · rcases set_get h1 with ⟨_, q', _⟩ | ⟨ne, h1⟩
    · cases q'
    · rcases set_get h2 with ⟨_, q', _⟩ | ⟨ne2, h2⟩
      · cases q'
      · rw [get_set_ne ne] at h3
        rw [get_set_ne ne2] at h4
        exact r.dist j k o o' c c' a h1 h2 h3 h4
theorem Ext.setVal (i : Nat) {d : D} {v : Option V} : Ext σ env H (σ.set i v) (env.set i (.val d)) H := Gr.sub fun _ h => h.unset fun _ _ z => by cases z
theorem Ext.setEmp (i : Nat) : Ext σ env H σ (env.set i .emp) H := Gr.sub fun a h => by
  obtain ⟨j, o, c, e1, e2⟩ := h
  rcases set_get e1 with ⟨_, q, _⟩ | ⟨ne, e1⟩
  · cases q
  · exact ⟨j, o, c, e1, e2⟩
/-- a slot is forgotten -/
theorem Rel.kill (r : Rel B σ env H) (i : Nat) : Rel B σ (env.set i .emp) H := by
  have g : Gr H (Zall B.z σ env) H (Zall B.z σ (env.set i .emp)) := Gr.all (Ext.setEmp i)
  refine ⟨by simpa using r.len, fun j e h => ?_, fun j o c h => ?_, fun j k o o' c c' a h1 h2 h3 h4 => ?_, r.z0, r.pz, r.kp⟩
  · rcases set_get h with ⟨rfl, q', hl⟩ | ⟨ne, h⟩
    · cases q'
    · obtain ⟨w, h1, h2⟩ := r.val j e h
      exact ⟨w, h1, h2.mono g⟩
  · rcases set_get h with ⟨_, q', _⟩ | ⟨ne, h⟩
    · cases q'
    · obtain ⟨a, h1, h2, h3⟩ := r.chg j o c h
      exact ⟨a, h1, h2.mono g (fun _ e => e), h3⟩
  · rcases set_get h1 with ⟨_, q', _⟩ | ⟨ne, h1⟩
    · cases q'
    · rcases set_get h2 with ⟨_, q', _⟩ | ⟨ne2, h2⟩
      · cases q'
      · exact r.dist j k o o' c c' a h1 h2 h3 h4
/-- a changing object is changed: at a, slot i's; o' is what stands there now -/
theorem Rel.put (r : Rel B σ env H) {i : Nat} {o : Bool} {c c' : Cell} {a : Addr} {ho : HO} (hi : env[i]? = some (.cel o c)) (ha : σ[i]? = some (some (.ref a)))
    (new : CellAt B.K B.mg (upd H a ho) (Zall B.z σ env) a c') : Rel B σ (env.set i (.cel o c')) (upd H a ho) ∧ Ext σ env H σ (env.set i (.cel o c')) (upd H a ho) ∧
      (∀ x, Zof σ (env.set i (.cel o c')) x ↔ Zof σ env x) := by
  have hil : i < env.length := (List.getElem?_eq_some_iff.mp hi).1
  have zz : ∀ x, Zof σ (env.set i (.cel o c')) x ↔ Zof σ env x := fun x => by
    constructor
    · rintro ⟨j, u, k, e1, e2⟩
      rcases set_get e1 with ⟨rfl, _, _⟩ | ⟨ne, e1⟩
      · exact ⟨j, o, c, hi, e2⟩
      · exact ⟨j, u, k, e1, e2⟩
    · rintro ⟨j, u, k, e1, e2⟩
      by_cases e : j = i
      · subst e
        exact ⟨j, o, c', by rw [List.getElem?_set_self hil], e2⟩
      · exact ⟨j, u, k, by rw [get_set_ne e]; exact e1, e2⟩
  have zy : Zall B.z σ (env.set i (.cel o c')) = Zall B.z σ env := by
    funext x
    unfold Zall
    rw [propext (zz x)]
  have za : Zof σ env a := ⟨i, o, c, hi, ha⟩
  obtain ⟨a', ha', ca, w1, w2⟩ := r.chg i o c hi
  have eaa : a' = a := by
    rw [ha] at ha'
    injection ha' with ha'; injection ha' with ha'; injection ha' with ha'
    exact ha'.symm
  subst eaa
  obtain ⟨o0, h0, m0⟩ := ca.there
  have ext : Gr H (Zof σ env) (upd H a' ho) (Zof σ (env.set i (.cel o c'))) := fun b u e n => by
    have ne : b ≠ a' := fun q => by
      subst q
      rcases n with n | n
      · exact n za
      · rw [e] at h0; cases h0; exact n m0
    exact ⟨by rw [upd_ne ne]; exact e, fun n q => n ((zz b).mp q)⟩
  have g : Gr H (Zall B.z σ env) (upd H a' ho) (Zall B.z σ (env.set i (.cel o c'))) := Gr.all ext
  have new' : ∃ u, upd H a' ho a' = some u ∧ isMutO u := new.there
  refine ⟨⟨by simpa using r.len, fun j e h => ?_, fun j u k h => ?_, fun j k u u' x x' b h1 h2 h3 h4 => ?_, fun b q => ?_, r.pz, fun a o e => Gr.kp ext (r.kp a o e)⟩, ext, zz⟩
  · rcases set_get h with ⟨_, q', hl⟩ | ⟨ne, h⟩
    · cases q'
    · obtain ⟨w, h1, h2⟩ := r.val j e h
      exact ⟨w, h1, h2.mono g⟩
  · rcases set_get h with ⟨rfl, q', _⟩ | ⟨ne, h⟩
    · cases q'
      exact ⟨a', ha, by rw [zy]; exact new, w1, w2⟩
    · obtain ⟨b, h1, h2, h3⟩ := r.chg j u k h
      have nb : b ≠ a' := fun q => by
        subst q
        exact ne (r.dist j i u o k c b h hi h1 ha)
      exact ⟨b, h1, h2.mono g (fun u e => by rw [upd_ne nb]; exact e), h3⟩
  · have h1' : ∃ u k, env[j]? = some (.cel u k) := by
      rcases set_get h1 with ⟨rfl, _, _⟩ | ⟨_, h1⟩
      · exact ⟨_, _, hi⟩
      · exact ⟨_, _, h1⟩
    have h2' : ∃ u x, env[k]? = some (.cel u x) := by
      rcases set_get h2 with ⟨rfl, _, _⟩ | ⟨_, h2⟩
      · exact ⟨_, _, hi⟩
      · exact ⟨_, _, h2⟩
    obtain ⟨u1, k1, h1'⟩ := h1'
    obtain ⟨u2, k2, h2'⟩ := h2'
    exact r.dist j k u1 u2 k1 k2 b h1' h2' h3 h4
  · by_cases e : b = a'
    · subst e; exact new'
    · obtain ⟨u, e1, e2⟩ := r.z0 b q
      exact ⟨u, by rw [upd_ne e]; exact e1, e2⟩
/-- a slot takes a new changing object, which stood apart at p -/
theorem Rel.setNew (hp : ∀ i a, B.p i = some a → B.z a) {p : Addr} (r : Rel (B.add p) σ env H) (nz : ¬ B.z p) (nf : ¬ Zof σ env p) (i : Nat) (hi : i < env.length) {c : Cell} (ca : CellAt B.K B.mg H (Zall (B.add p).z σ env) p c) :
    Rel B (σ.set i (some (.ref p))) (env.set i (.cel true c)) H ∧ Gr H (Zall (B.add p).z σ env) H (Zall B.z (σ.set i (some (.ref p))) (env.set i (.cel true c))) := by
  have his : i < σ.length := by rw [← r.len]; exact hi
  have sub : ∀ a, Zall B.z (σ.set i (some (.ref p))) (env.set i (.cel true c)) a → Zall (B.add p).z σ env a := fun a h => by
    rcases h with h | ⟨j, o, k, e1, e2⟩
    · exact .inl (.inl h)
    · rcases set_get e1 with ⟨rfl, q, _⟩ | ⟨ne, e1⟩
      · rw [List.getElem?_set_self his] at e2
        injection e2 with e2; injection e2 with e2; injection e2 with e2
        exact .inl (.inr e2.symm)
      · rw [get_set_ne ne] at e2
        exact .inr ⟨j, o, k, e1, e2⟩
  have g := Gr.sub (H := H) sub
  refine ⟨⟨by simpa using r.len, fun j e h => ?_, fun j o k h => ?_, fun j k o o' x x' a h1 h2 h3 h4 => ?_, fun a q => r.z0 a (.inl q), hp, r.kp⟩, g⟩
  · rcases set_get h with ⟨rfl, q', hl⟩ | ⟨ne, h⟩
    · cases q'
    · obtain ⟨w, h1, h2⟩ := r.val j e h
      exact ⟨w, by rw [get_set_ne ne]; exact h1, h2.mono g⟩
  · rcases set_get h with ⟨rfl, q', _⟩ | ⟨ne, h⟩
    · cases q'
      exact ⟨p, by rw [List.getElem?_set_self his], ca.mono g (fun _ e => e), fun _ => nz, fun z => by cases z⟩
    · obtain ⟨a, h1, h2, h3, h4⟩ := r.chg j o k h
      exact ⟨a, by rw [get_set_ne ne]; exact h1, h2.mono g (fun _ e => e), fun z q => h3 z (.inl q), h4⟩
  · rcases set_get h1 with ⟨e1, q', _⟩ | ⟨ne, h1'⟩
    · rcases set_get h2 with ⟨e2, q'', _⟩ | ⟨ne2, h2'⟩
      · exact e1.trans e2.symm
      · subst e1
        rw [List.getElem?_set_self his] at h3
        injection h3 with h3; injection h3 with h3; injection h3 with h3
        subst h3
        rw [get_set_ne ne2] at h4
        exact absurd ⟨k, o', x', h2', h4⟩ nf
    · rcases set_get h2 with ⟨e2, q'', _⟩ | ⟨ne2, h2'⟩
      · subst e2
        rw [List.getElem?_set_self his] at h4
        injection h4 with h4; injection h4 with h4; injection h4 with h4
        subst h4
        rw [get_set_ne ne] at h3
        exact absurd ⟨j, o, x, h1', h3⟩ nf
      · rw [get_set_ne ne] at h3
        rw [get_set_ne ne2] at h4
        exact r.dist j k o o' x x' a h1' h2' h3 h4
/-- a changing object made here changes no more -/
theorem Rel.freezeH (r : Rel B σ env H) {i : Nat} {c : Cell} {a : Addr} (hi : env[i]? = some (.cel true c)) (ha : σ[i]? = some (some (.ref a))) (hk : ∀ b u, b ≠ a → H b = some u → H' b = some u)
    (rep : ∀ Z', ¬ Z' a → Gr H (Zall B.z σ env) H' Z' → Rep B.K B.mg H' Z' c.frz (.ref a)) : Rel B σ (env.set i (.val c.frz)) H' ∧ Ext σ env H σ (env.set i (.val c.frz)) H' := by
  obtain ⟨a', ha', ca, w1, _⟩ := r.chg i true c hi
  have : a' = a := by
    rw [ha] at ha'
    injection ha' with ha'; injection ha' with ha'; injection ha' with ha'
    exact ha'.symm
  subst this
  obtain ⟨o0, h0, m0⟩ := ca.there
  have sub : ∀ b, Zof σ (env.set i (.val c.frz)) b → Zof σ env b ∧ b ≠ a' := fun b h => by
    obtain ⟨j, o, k, e1, e2⟩ := h
    rcases set_get e1 with ⟨_, q, _⟩ | ⟨ne, e1⟩
    · cases q
    · exact ⟨⟨j, o, k, e1, e2⟩, fun q => by subst q; exact ne (r.dist j i o true k c b e1 hi e2 ha)⟩
  have ext : Ext σ env H σ (env.set i (.val c.frz)) H' := fun b u e n => by
    have ne : b ≠ a' := fun q => by
      subst q
      rcases n with n | n
      · exact n ⟨i, true, c, hi, ha⟩
      · rw [h0] at e; cases e; exact n m0
    exact ⟨hk b u ne e, fun m q => m (sub b q).1⟩
  have g : Gr H (Zall B.z σ env) H' (Zall B.z σ (env.set i (.val c.frz))) := Gr.all ext
  have na : ¬ Zall B.z σ (env.set i (.val c.frz)) a' := fun h => by
    rcases h with h | h
    · exact w1 rfl h
    · exact (sub a' h).2 rfl
  refine ⟨⟨by simpa using r.len, fun j e h => ?_, fun j o k h => ?_, fun j k o o' x x' b h1 h2 h3 h4 => ?_, fun b q => ?_, r.pz, fun a o e => Gr.kp ext (r.kp a o e)⟩, ext⟩
  · rcases set_get h with ⟨rfl, q', hl⟩ | ⟨ne, h⟩
    · cases q'
      exact ⟨_, ha, rep _ na g⟩
    · obtain ⟨w, h1, h2⟩ := r.val j e h
      exact ⟨w, h1, h2.mono g⟩
  · rcases set_get h with ⟨_, q', _⟩ | ⟨ne, h⟩
    · cases q'
    · obtain ⟨b, h1, h2, h3⟩ := r.chg j o k h
      have nb : b ≠ a' := fun q => by subst q; exact ne (r.dist j i o true k c b h hi h1 ha)
      exact ⟨b, h1, h2.mono g (fun u e => hk b u nb e), h3⟩
  · rcases set_get h1 with ⟨_, q', _⟩ | ⟨ne, h1⟩
    · cases q'
    · rcases set_get h2 with ⟨_, q', _⟩ | ⟨ne2, h2⟩
      · cases q'
      · exact r.dist j k o o' x x' b h1 h2 h3 h4
  · obtain ⟨u, e, m⟩ := r.z0 b q
    exact ⟨u, hk b u (fun z => by subst z; exact w1 rfl q) e, m⟩
end
/-- dicts that change no more are locked -/
def isDct : Cell → Bool
  | .dct _ => true
  | _ => false
section
variable {B : Bd} {σ : St} {env : Env'} {H : Hp}
theorem Rel.freeze (r : Rel B σ env H) {i : Nat} {c : Cell} (hi : env[i]? = some (.cel true c)) (nd : isDct c = false) : Rel B σ (env.set i (.val c.frz)) H ∧ Ext σ env H σ (env.set i (.val c.frz)) H := by
  obtain ⟨a, ha, ca, _, _⟩ := r.chg i true c hi
  refine r.freezeH hi ha (fun _ _ _ e => e) fun Z' na g => ?_
  cases ca with
  | lst h q => exact .lst (.inl ⟨na, .inl h⟩) (q.mono g)
  | dct h q => cases nd
  | ins m h q => exact .ins na m h (q.mono g)
theorem Rel.freezeD (r : Rel B σ env H) {i : Nat} {kvs : List (D × D)} (hi : env[i]? = some (.cel true (.dct kvs))) :
    ∃ a kws, H a = some (.dK kws) ∧ ∀ od, Rel B σ (env.set i (.val (.dct kvs))) (upd H a (.frz od (.dK kws))) ∧ Ext σ env H σ (env.set i (.val (.dct kvs))) (upd H a (.frz od (.dK kws))) := by
  obtain ⟨a, ha, ca, _, _⟩ := r.chg i true _ hi
  cases ca with
  | @dct _ kws h q =>
    refine ⟨a, kws, h, fun od => r.freezeH hi ha (fun b u ne e => by rw [upd_ne ne]; exact e) fun Z' na g => .dct upd_same (q.mono g)⟩
end
end Mi
namespace Mi
open PySem PySem.Spec L2
open PyProof.Rows hiding St

inductive R (α : Type) where
  | ok (x : α) (e : Env') | exc (c : Str) (fs : List (Str × D)) (e : Env') | bad
abbrev M (α : Type) := Env' → R α
/-- a mark, so that simp leaves what stands before it alone -/
def Tg {α : Type} (_ : α) : Type := Unit
def R.bind {α β : Type} (r : R α) (f : α → Env' → R β) (_ : Tg f := ()) : R β := match r with
  | .ok x e => f x e
  | .exc c fs e => .exc c fs e
  | .bad => .bad
/-- a pure step that may have no answer -/
def R.opt {α : Type} (o : Option α) (e : Env') : R α := match o with
  | some x => .ok x e
  | none => .bad

/-- an argument: a value, or what a slot holds when it is used -/
inductive Arg where
  | v (d : D) | s (i : Nat)
def slotD (env : Env') (i : Nat) : Option D := match env[i]? with
  | some (.val d) => some d
  | some (.cel _ c) => some c.frz
  | _ => none
def slotV (env : Env') (i : Nat) : Option D := match env[i]? with
  | some (.val d) => some d
  | _ => none
def Arg.rd (env : Env') : Arg → Option D
  | .v d => some d
  | .s i => slotD env i
def Arg.own (env : Env') : Arg → Option D
  | .v d => some d
  | .s i => slotV env i

section
variable (K : PySem.W.Frag) (mg : Mw) (H : Hp) (Z : Addr → Prop)
inductive RepB : D → V → Prop
  | val {d : D} {v : V} : Rep K mg H Z d v → RepB d v
  | lst {a : Addr} {ds : List D} {vs : List V} : H a = some (.lst vs) → Reps K mg H Z ds vs → RepB (.lst ds) (.ref a)
  | dct {a : Addr} {kvs : List (D × D)} {kws : List (Key × V)} : H a = some (.dK kws) → RepKs K mg H Z kvs kws → RepB (.dct kvs) (.ref a)
  | ins {a c dx : Addr} {C : Str} {fs : List (Str × D)} {fvs : List (Str × V)} : mg.m C = some (.ref c) → H a = some (.ins c dx fvs) → RepFs K mg H Z fs fvs → RepB (.ins C fs) (.ref a)
inductive RepBs : List D → List V → Prop
  | nil : RepBs [] []
  | cons {d : D} {ds : List D} {v : V} {vs : List V} : RepB K mg H Z d v → RepBs ds vs → RepBs (d :: ds) (v :: vs)
/-- the addresses in Z hold changing objects -/
def Live : Prop := ∀ a, Z a → ∃ o, H a = some o ∧ isMutO o
/-- an exception in the air -/
def ExcAt (c : Str) (fs : List (Str × D)) (cls : Value) (od : Option Addr) : Prop :=
  (∃ ca, cls = .ref ca ∧ mg.m c = some (.ref ca)) ∧ ((fs = [] ∧ od = none) ∨ ∃ d fvs, od = some d ∧ H d = some (.xd fvs) ∧ RepFs K mg H Z fs fvs)
end
def ArgAt (B : Bd) (σ : St) (env : Env') (H : Hp) : Arg → V → Prop
  | .v d, v => RepE B σ env H d v
  | .s i, v => σ[i]? = some (some v)
inductive ArgsAt (B : Bd) (σ : St) (env : Env') (H : Hp) : List Arg → List V → Prop
  | nil : ArgsAt B σ env H [] []
  | cons {a : Arg} {as : List Arg} {v : V} {vs : List V} : ArgAt B σ env H a v → ArgsAt B σ env H as vs → ArgsAt B σ env H (a :: as) (v :: vs)

def Post (B : Bd) (W : WX) (σ : St) (env : Env') (H : Hp) {α : Type} (r : R α) (k : α → Env' → Hp → Prop) : Prop := match r with
  | .ok x env' => ∀ H', Rel B σ env' H' → Ext σ env H σ env' H' → k x env' H'
  | .exc c fs env' => ∀ cls od H', Rel B σ env' H' → Ext σ env H σ env' H' → ExcAt B.K B.mg H' (Zall B.z σ env') c fs cls od → W cls od σ H'
  | .bad => False

section
variable {B : Bd} {W : WX} {σ : St} {env env1 : Env'} {H H1 : Hp} {α β : Type}
theorem Post.from {r : R α} {k : α → Env' → Hp → Prop} (x : Ext σ env H σ env1 H1) (h : Post B W σ env H r k) : Post B W σ env1 H1 r k := by
  cases r with
  | ok a e => exact fun H' rel ext => h H' rel (x.trans ext)
  | exc c fs e => exact fun cls od H' rel ext q => h cls od H' rel (x.trans ext) q
  | bad => exact h
theorem Post.seq {r : R α} {f : α → Env' → R β} {k : β → Env' → Hp → Prop} (h : Post B W σ env H (r.bind f) k) : Post B W σ env H r fun x env1 H1 => Post B W σ env1 H1 (f x env1) k := by
  cases r with
  | ok a e => exact fun H' rel ext => Post.from ext h
  | exc c fs e => exact h
  | bad => exact h
theorem Post.imp {r : R α} {k k' : α → Env' → Hp → Prop} (h : Post B W σ env H r k) (i : ∀ x env' H', Rel B σ env' H' → Ext σ env H σ env' H' → k x env' H' → k' x env' H') : Post B W σ env H r k' := by
  cases r with
  | ok a e => exact fun H' rel ext => i a e H' rel ext (h H' rel ext)
  | exc c fs e => exact h
  | bad => exact h
theorem Post.ok {x : α} {k : α → Env' → Hp → Prop} (rel : Rel B σ env H) (h : Post B W σ env H (.ok x env) k) : k x env H := h H rel Ext.refl
theorem Post.opt {o : Option α} {k : α → Env' → Hp → Prop} (rel : Rel B σ env H) (h : Post B W σ env H (R.opt o env) k) : ∃ x, o = some x ∧ k x env H := by
  cases o with
  | none => exact False.elim h
  | some x => exact ⟨x, rfl, h H rel Ext.refl⟩
theorem RepE.mono {d : D} {v : V} (x : Ext σ env H σ env1 H1) (h : RepE B σ env H d v) : RepE B σ env1 H1 d v := Rep.mono (Gr.all x) h
theorem ArgAt.mono {a : Arg} {v : V} (x : Ext σ env H σ env1 H1) (h : ArgAt B σ env H a v) : ArgAt B σ env1 H1 a v := by
  cases a with
  | v d => exact RepE.mono x h
  | s i => exact h
theorem ArgsAt.mono {as : List Arg} {vs : List V} (x : Ext σ env H σ env1 H1) (h : ArgsAt B σ env H as vs) : ArgsAt B σ env1 H1 as vs := by
  induction h with
  | nil => exact .nil
  | cons a _ ih => exact .cons (a.mono x) ih
theorem CellAt.repB {K : PySem.W.Frag} {mg : Mw} {Z : Addr → Prop} {a : Addr} {c : Cell} (h : CellAt K mg H Z a c) : RepB K mg H Z c.frz (.ref a) := by
  cases h with
  | lst h r => exact .lst h r
  | dct h r => exact .dct h r
  | ins m h r => exact .ins m h r
theorem some_some {α : Type} {x y : α} {o : Option (Option α)} (a : o = some (some x)) (b : o = some (some y)) : x = y := by
  rw [a] at b
  injection b with b
  injection b
theorem Rel.rd (rel : Rel B σ env H) {a : Arg} {v : V} {d : D} (h : ArgAt B σ env H a v) (e : a.rd env = some d) : RepB B.K B.mg H (Zall B.z σ env) d v := by
  cases a with
  | v d' =>
    have : d' = d := Option.some.inj e
    subst this
    exact .val h
  | s i =>
    have e : slotD env i = some d := e
    unfold slotD at e
    split at e
    · rename_i d' hs
      injection e with e
      subst e
      obtain ⟨w, hw, q⟩ := rel.val i _ hs
      rw [some_some h hw]
      exact .val q
    · rename_i o c hs
      injection e with e
      subst e
      obtain ⟨w, hw, q, _⟩ := rel.chg i _ _ hs
      rw [some_some h hw]
      exact q.repB
    · cases e
theorem Rel.own (rel : Rel B σ env H) {a : Arg} {v : V} {d : D} (h : ArgAt B σ env H a v) (e : a.own env = some d) : RepE B σ env H d v := by
  cases a with
  | v d' =>
    have : d' = d := Option.some.inj e
    subst this
    exact h
  | s i =>
    have e : slotV env i = some d := e
    unfold slotV at e
    split at e
    · rename_i d' hs
      injection e with e
      subst e
      obtain ⟨w, hw, q⟩ := rel.val i _ hs
      rw [some_some h hw]
      exact q
    · cases e
def rds (env : Env') : List Arg → Option (List D)
  | [] => some []
  | a :: as => match a.rd env, rds env as with
    | some d, some ds => some (d :: ds)
    | _, _ => none
def owns (env : Env') : List Arg → Option (List D)
  | [] => some []
  | a :: as => match a.own env, owns env as with
    | some d, some ds => some (d :: ds)
    | _, _ => none
theorem Rel.rds (rel : Rel B σ env H) : ∀ {as : List Arg} {vs : List V} {ds : List D}, ArgsAt B σ env H as vs → Mi.rds env as = some ds → RepBs B.K B.mg H (Zall B.z σ env) ds vs
  | _, _, _, .nil, e => by
    injection e with e
    subst e
    exact .nil
  | _, _, _, .cons (a := a) (as := as) h t, e => by
    unfold Mi.rds at e
    split at e
    · rename_i d ds' e1 e2
      injection e with e
      subst e
      exact .cons (rel.rd h e1) (Rel.rds rel t e2)
    · cases e
theorem Rel.owns (rel : Rel B σ env H) : ∀ {as : List Arg} {vs : List V} {ds : List D}, ArgsAt B σ env H as vs → Mi.owns env as = some ds → RepsE B σ env H ds vs
  | _, _, _, .nil, e => by
    injection e with e
    subst e
    exact .nil
  | _, _, _, .cons (a := a) (as := as) h t, e => by
    unfold Mi.owns at e
    split at e
    · rename_i d ds' e1 e2
      injection e with e
      subst e
      exact .cons (rel.own h e1) (Rel.owns rel t e2)
    · cases e
theorem Rel.liveZ (rel : Rel B σ env H) : Live H (Zall B.z σ env) := fun a h => rel.live h
end

/-- the ground of a body: the addresses apart, the parameters' objects, the wish about exceptions -/
structure Gd where
  z : Addr → Prop
  p : Nat → Option Addr
  W : WX
  kp : Addr → Option HO
  ex : Option Addr
abbrev mw (X : Cx) (G : Gd) : Mw := ⟨X.mg, X.prog, X.w, G.ex⟩
abbrev bd (X : Cx) (G : Gd) : Bd := ⟨X.K, mw X G, G.z, G.p, G.kp⟩

def liftE (B : Bd) (W : WX) (m : M D) : TE := fun σ H Q => ∃ env, Rel B σ env H ∧ Post B W σ env H (m env) fun d env' H' => ∀ v, RepE B σ env' H' d v → Q v H'
def liftO (B : Bd) (W : WX) (m : M Arg) : TE := fun σ H Q => ∃ env, Rel B σ env H ∧ Post B W σ env H (m env) fun a env' H' => ∀ v, ArgAt B σ env' H' a v → Q v H'
def liftA (B : Bd) (W : WX) (m : M (List Arg)) : TA := fun σ H Q => ∃ env, Rel B σ env H ∧ Post B W σ env H (m env) fun a env' H' => ∀ v, ArgsAt B σ env' H' a v → Q v H'
def liftT (B : Bd) (W : WX) (m : M Bool) : TT := fun σ H Q => ∃ env, Rel B σ env H ∧ Post B W σ env H (m env) fun b _ H' => Q b H'
abbrev ME (X : Cx) (G : Gd) (e : Expr) (m : M D) : Prop := PE X e (liftE (bd X G) G.W m)
abbrev MO (X : Cx) (G : Gd) (e : Expr) (m : M Arg) : Prop := PE X e (liftO (bd X G) G.W m)
abbrev MA (X : Cx) (G : Gd) (es : List Expr) (m : M (List Arg)) : Prop := PA X es (liftA (bd X G) G.W m)
abbrev MT (X : Cx) (G : Gd) (e : Expr) (m : M Bool) : Prop := PT X e (liftT (bd X G) G.W m)
abbrev MW (X : Cx) (G : Gd) (e : Expr) (m : M Bool) : Prop := PW X e (liftT (bd X G) G.W m)
theorem PEimp {X : Cx} {e : Expr} {t t' : TE} (h : PE X e t) (i : ∀ σ H Q, t' σ H Q → t σ H Q) : PE X e t' := ⟨fun pins s σ H Q I q => h.run pins s σ H Q I (i σ H Q q)⟩
theorem PTimp {X : Cx} {e : Expr} {t t' : TT} (h : PT X e t) (i : ∀ σ H Q, t' σ H Q → t σ H Q) : PT X e t' := ⟨fun pins s σ H Q I q => h.run pins s σ H Q I (i σ H Q q)⟩
theorem PWimp {X : Cx} {e : Expr} {t t' : TT} (h : PW X e t) (i : ∀ σ H Q, t' σ H Q → t σ H Q) : PW X e t' := ⟨fun w pins s σ H Q I q => h.run w pins s σ H Q I (i σ H Q q)⟩
theorem PAimp {X : Cx} {e : List Expr} {t t' : TA} (h : PA X e t) (i : ∀ σ H Q, t' σ H Q → t σ H Q) : PA X e t' := ⟨fun w pins s σ H Q I q => h.run w pins s σ H Q I (i σ H Q q)⟩

/-! ### atoms, names, operands -/
def mC (d : D) : M D := fun env => .ok d env
def mNm (i : Nat) : M Arg := fun env => (R.opt (slotD env i) env).bind fun _ env => .ok (.s i) env
def mEx (m : M D) : M Arg := fun env => (m env).bind fun d env => .ok (.v d) env
def mVal (i : Nat) : M D := fun env => R.opt (slotV env i) env
section
variable {X : Cx} {G : Gd} {e a b : Expr} {es : List Expr} {pos : Pos}
theorem me_const {v : V} {d : D} (h : PE X e (tC v)) (r : ∀ B σ env H, RepE B σ env H d v) : ME X G e (mC d) := PEimp h fun σ H Q ⟨env, rel, post⟩ => Post.ok rel post _ (r _ _ _ _)
theorem me_int {i j pos} : ME X G (.Constant (.int i) j pos) (mC (.int i)) := me_const pe_int fun _ _ _ _ => .int i
theorem me_bl {i j pos} : ME X G (.Constant (.bool i) j pos) (mC (.bl i)) := me_const pe_bl fun _ _ _ _ => .bl i
theorem me_str {i j pos} : ME X G (.Constant (.str i) j pos) (mC (.str i)) := me_const pe_str fun _ _ _ _ => .str i
theorem me_non {j pos} : ME X G (.Constant .none j pos) (mC .non) := me_const pe_non fun _ _ _ _ => .non
/-- a constant of the module: an int, a text -/
theorem me_globI {x : Str} {i : Int} {u : Value} (hg : Gl X x) (hm : X.mg x = some u) (r : ∃ t, u = Value.int i t) (hd : (x == ("__debug__" : Str)) = false := by decide) : ME X G (.Name x pos) (mC (.int i)) := me_const (pe_glob (v := .int i) hg hm r hd) fun _ _ _ _ => .int i
theorem me_globS {x : Str} {i : Str} {u : Value} (hg : Gl X x) (hm : X.mg x = some u) (r : ∃ t, u = Value.str i t) (hd : (x == ("__debug__" : Str)) = false := by decide) : ME X G (.Name x pos) (mC (.str i)) := me_const (pe_glob (v := .str i) hg hm r hd) fun _ _ _ _ => .str i
theorem slotD_some {B : Bd} {σ : St} {env : Env'} {H : Hp} {i : Nat} {d : D} (rel : Rel B σ env H) (h : slotD env i = some d) : ∃ v, σ[i]? = some (some v) := by
  unfold slotD at h
  split at h
  · obtain ⟨w, hw, _⟩ := rel.val i _ (by assumption)
    exact ⟨w, hw⟩
  · obtain ⟨w, hw, _⟩ := rel.chg i _ _ (by assumption)
    exact ⟨_, hw⟩
  · cases h
theorem mo_nm (i : Nat) (h : PE X e (tVar i)) : MO X G e (mNm i) := PEimp h fun σ H Q ⟨env, rel, post⟩ => by
  obtain ⟨d, hd, q⟩ := Post.opt rel post.seq
  obtain ⟨v, hv⟩ := slotD_some rel hd
  exact ⟨v, hv, Post.ok rel q v hv⟩
theorem me_nm (i : Nat) (h : PE X e (tVar i)) : ME X G e (mVal i) := PEimp h fun σ H Q ⟨env, rel, post⟩ => by
  obtain ⟨d, hd, q⟩ := Post.opt rel post
  have hs : env[i]? = some (.val d) := by
    unfold slotV at hd
    split at hd
    · injection hd with hd
      subst hd
      assumption
    · cases hd
  obtain ⟨v, hv, r⟩ := rel.val i d hs
  exact ⟨v, hv, q v r⟩
theorem mo_ex {m : M D} (h : ME X G e m) : MO X G e (mEx m) := PEimp h fun σ H Q ⟨env, rel, post⟩ =>
  ⟨env, rel, post.seq.imp fun d env' H' rel' _ q v hv => Post.ok rel' q v hv⟩
def mNil : M (List Arg) := fun env => .ok [] env
def mCons (m : M Arg) (n : M (List Arg)) : M (List Arg) := fun env => (m env).bind fun a env => (n env).bind fun as env => .ok (a :: as) env
theorem ma_nil : MA X G [] mNil := PAimp pa_nil fun σ H Q ⟨env, rel, post⟩ => Post.ok rel post [] .nil
theorem ma_cons {m : M Arg} {n : M (List Arg)} (h : MO X G e m) (hr : MA X G es n) (hs : starEach (e :: es) X.env = (false, eval e X.env) :: starEach es X.env := by rfl) : MA X G (e :: es) (mCons m n) :=
  PAimp (pa_cons h hr hs) fun σ H Q ⟨env, rel, post⟩ => ⟨env, rel, post.seq.imp fun a env1 H1 rel1 _ q1 v hv =>
    ⟨env1, rel1, q1.seq.imp fun as env2 H2 rel2 x2 q2 vs hvs => Post.ok rel2 q2 (v :: vs) (.cons (hv.mono x2) hvs)⟩⟩

/-! ### operations on data -/
section
variable (K : PySem.W.Frag) (mg : Mw)
def rD (f : D → D → Option D) : R2 := fun x y H Q => ∃ Z d e, Live H Z ∧ RepB K mg H Z d x ∧ RepB K mg H Z e y ∧ ∃ d', f d e = some d' ∧ ∀ v H', Grow H H' → Rep K mg H' Z d' v → Q v H'
def rD1 (f : D → Option D) : V → Hp → VK → Prop := fun x H Q => ∃ Z d, Live H Z ∧ RepB K mg H Z d x ∧ ∃ d', f d = some d' ∧ ∀ v H', Grow H H' → Rep K mg H' Z d' v → Q v H'
def rDs (f : List D → Option D) : List V → Hp → VK → Prop := fun xs H Q => ∃ Z ds, Live H Z ∧ RepBs K mg H Z ds xs ∧ ∃ d', f ds = some d' ∧ ∀ v H', Grow H H' → Rep K mg H' Z d' v → Q v H'
def rDm (f : D → List D → Option D) : V → List V → Hp → VK → Prop := fun x xs H Q => ∃ Z d ds, Live H Z ∧ RepB K mg H Z d x ∧ RepBs K mg H Z ds xs ∧ ∃ d', f d ds = some d' ∧ ∀ v H', Grow H H' → Rep K mg H' Z d' v → Q v H'
end
def mBin (f : D → D → Option D) (m n : M Arg) : M D := fun env => (m env).bind fun a env => (n env).bind fun b env =>
  R.opt (match a.rd env, b.rd env with
    | some d, some e => f d e
    | _, _ => none) env
theorem bin_lift {B : Bd} {W : WX} {f : D → D → Option D} {m n : M Arg} {σ : St} {H : Hp} {Q : VK} (h : liftE B W (mBin f m n) σ H Q) : liftO B W m σ H fun x H1 => liftO B W n σ H1 fun y H2 => rD B.K B.mg f x y H2 Q := by
  obtain ⟨env, rel, post⟩ := h
  refine ⟨env, rel, post.seq.imp fun a env1 H1 rel1 _ q1 v hv => ⟨env1, rel1, q1.seq.imp fun b env2 H2 rel2 x2 q2 w hw => ?_⟩⟩
  cases ea : a.rd env2 with
  | none => rw [ea] at q2; exact False.elim q2
  | some d =>
    cases eb : b.rd env2 with
    | none => rw [ea, eb] at q2; exact False.elim q2
    | some e =>
      rw [ea, eb] at q2
      refine ⟨_, d, e, rel2.liveZ, rel2.rd (hv.mono x2) ea, rel2.rd hw eb, ?_⟩
      have q2 : Post B W σ env2 H2 (R.opt (f d e) env2) _ := q2
      cases ef : f d e with
      | none => rw [ef] at q2; exact False.elim q2
      | some d' =>
        rw [ef] at q2
        exact ⟨d', rfl, fun u H' g r => q2 H' (rel2.grow g) g.ext u r⟩
theorem me_bin {op : Operator} {f : D → D → Option D} {m n : M Arg} (ho : OpR X (binaryOp op) (rD X.K (mw X G) f)) (h1 : MO X G a m) (h2 : MO X G b n) : ME X G (.BinOp a op b pos) (mBin f m n) :=
  PEimp (pe_op ho h1 h2) fun σ H Q h => bin_lift h
theorem me_cmp {op : CmpOp} {f : D → D → Option D} {m n : M Arg} (ho : OpR X (compareOp op) (rD X.K (mw X G) f)) (h1 : MO X G a m) (h2 : MO X G b n) (hm : behindInMarks op b = false) : ME X G (.Compare a [op] [b] pos) (mBin f m n) :=
  PEimp (pe_cmpR ho h1 h2 hm) fun σ H Q h => bin_lift h
theorem me_ix {f : D → D → Option D} {m n : M Arg} (ho : IxR X (rD X.K (mw X G) f)) (h1 : MO X G a m) (h2 : MO X G b n) (hs : PlainIx b) : ME X G (.Subscript a b pos) (mBin f m n) :=
  PEimp (pe_ix ho h1 h2 hs) fun σ H Q h => bin_lift h
def mUn (f : D → Option D) (m : M Arg) : M D := fun env => (m env).bind fun a env =>
  R.opt (match a.rd env with
    | some d => f d
    | _ => none) env
theorem un_lift {B : Bd} {W : WX} {f : D → Option D} {m : M Arg} {σ : St} {H : Hp} {Q : VK} (h : liftE B W (mUn f m) σ H Q) : liftO B W m σ H fun x H1 => rD1 B.K B.mg f x H1 Q := by
  obtain ⟨env, rel, post⟩ := h
  refine ⟨env, rel, post.seq.imp fun a env1 H1 rel1 _ q1 v hv => ?_⟩
  cases ea : a.rd env1 with
  | none => rw [ea] at q1; exact False.elim q1
  | some d =>
    rw [ea] at q1
    have q1 : Post B W σ env1 H1 (R.opt (f d) env1) _ := q1
    refine ⟨_, d, rel1.liveZ, rel1.rd hv ea, ?_⟩
    cases ef : f d with
    | none => rw [ef] at q1; exact False.elim q1
    | some d' =>
      rw [ef] at q1
      exact ⟨d', rfl, fun u H' g r => q1 H' (rel1.grow g) g.ext u r⟩
theorem me_un {op : UnaryOp} {f : D → Option D} {m : M Arg} (ho : UnR X (unaryOp op) (rD1 X.K (mw X G) f)) (h1 : MO X G a m) : ME X G (.UnaryOp op a pos) (mUn f m) :=
  PEimp (pe_un ho h1) fun σ H Q h => un_lift h
def mCallD (f : List D → Option D) (m : M (List Arg)) : M D := fun env => (m env).bind fun as env =>
  R.opt (match rds env as with
    | some ds => f ds
    | none => none) env
theorem callD_lift {B : Bd} {W : WX} {f : List D → Option D} {m : M (List Arg)} {σ : St} {H : Hp} {Q : VK} (h : liftE B W (mCallD f m) σ H Q) : liftA B W m σ H fun xs H1 => rDs B.K B.mg f xs H1 Q := by
  obtain ⟨env, rel, post⟩ := h
  refine ⟨env, rel, post.seq.imp fun as env1 H1 rel1 _ q1 vs hv => ?_⟩
  cases ea : rds env1 as with
  | none => rw [ea] at q1; exact False.elim q1
  | some ds =>
    rw [ea] at q1
    have q1 : Post B W σ env1 H1 (R.opt (f ds) env1) _ := q1
    refine ⟨_, ds, rel1.liveZ, rel1.rds hv ea, ?_⟩
    cases ef : f ds with
    | none => rw [ef] at q1; exact False.elim q1
    | some d' =>
      rw [ef] at q1
      exact ⟨d', rfl, fun u H' g r => q1 H' (rel1.grow g) g.ext u r⟩
def mMethD (f : D → List D → Option D) (m : M Arg) (n : M (List Arg)) : M D := fun env => (m env).bind fun a env => (n env).bind fun as env =>
  R.opt (match a.rd env, rds env as with
    | some d, some ds => f d ds
    | _, _ => none) env
/-! ### displays -/
def mOwns (f : List D → Option D) (m : M (List Arg)) : M D := fun env => (m env).bind fun as env =>
  R.opt (match owns env as with
    | some ds => f ds
    | none => none) env
def dTup (ds : List D) : Option D := if ds.length ≤ sizeLine then some (.tup ds) else none
def dLst (ds : List D) : Option D := if ds.length ≤ sizeLine then some (.lst ds) else none
theorem owns_lift {B : Bd} {W : WX} {f : List D → Option D} {m : M (List Arg)} {σ : St} {H : Hp} {Q : VK} (h : liftE B W (mOwns f m) σ H Q) :
    liftA B W m σ H fun xs H1 => ∃ env1 ds d', Rel B σ env1 H1 ∧ RepsE B σ env1 H1 ds xs ∧ f ds = some d' ∧ ∀ v H', Grow H1 H' → RepE B σ env1 H' d' v → Q v H' := by
  obtain ⟨env, rel, post⟩ := h
  refine ⟨env, rel, post.seq.imp fun as env1 H1 rel1 _ q1 vs hv => ?_⟩
  cases ea : owns env1 as with
  | none => rw [ea] at q1; exact False.elim q1
  | some ds =>
    rw [ea] at q1
    have q1 : Post B W σ env1 H1 (R.opt (f ds) env1) _ := q1
    cases ef : f ds with
    | none => rw [ef] at q1; exact False.elim q1
    | some d' =>
      rw [ef] at q1
      exact ⟨env1, ds, d', rel1, rel1.owns hv ea, ef, fun u H' g r => q1 H' (rel1.grow g) g.ext u r⟩
/-- a new tuple, its object known -/
theorem tup_new {X : Cx} {pins : List (Addr × Obj)} {σ : St} {H : Hp} {s : Shared} {xs : List V} {us : List Value} {t' : Nat} (I : Inv X pins σ H s) (r : Vals xs us) (z : xs.length ≤ sizeLine) :
    ∃ ob : Obj, ob.dict = none ∧ Inv X pins σ (upd H s.heap.objs.size (.frz ob (.tup xs))) { s with heap := s.heap.push { cls := .type "tuple", data := .seq us.toArray }, toks := t' } ∧ H s.heap.objs.size = none :=
  ⟨{ cls := .type "tuple", data := .seq us.toArray }, rfl, I.laid (t' := t') (fun b u e => Heap.get?_push_of_some _ e) (Nat.le_refl _)
    ⟨Heap.get?_push_size _ rfl, z, us, r, IsTup.new _ _⟩, I.hok.fresh (Nat.le_refl _)⟩
def tTupX (t : TA) : TE := fun σ H Q => t σ H fun xs H1 => xs.length ≤ sizeLine ∧ ∀ p (ob : Obj), ob.dict = none → H1 p = none → Q (.ref p) (upd H1 p (.frz ob (.tup xs)))
theorem pe_tupX {x1} {t : TA} (h : PA X es t) : PE X (.Tuple es x1 pos) (tTupX t) := by
  refine ⟨fun pins s σ H Q I hq => ?_⟩
  refine wpAny_Tuple_spliced (thn (h.run pos pins s σ H _ I hq) fun us s1 ⟨xs, H1, I1, r, z, q⟩ => ⟨by rw [← r.length]; exact z, ?_⟩)
  obtain ⟨ob, ho, I2, hf⟩ := tup_new (t' := s1.toks) I1 r z
  exact ⟨.ref s1.heap.objs.size, _, I2, rfl, q _ ob ho hf⟩
theorem me_tup {x1} {m : M (List Arg)} (h : MA X G es m) : ME X G (.Tuple es x1 pos) (mOwns dTup m) := by
  refine PEimp (pe_tupX h) fun σ H Q q => ?_
  obtain ⟨env, rel, post⟩ := owns_lift q
  refine ⟨env, rel, post.imp fun as env1 H1 rel1 _ q1 vs hv => ?_⟩
  obtain ⟨env2, ds, d', rel2, hr, hf, k⟩ := q1 vs hv
  unfold dTup at hf
  split at hf
  · rename_i hz
    injection hf with hf
    subst hf
    refine ⟨by rw [← hr.length]; exact hz, fun p ob ho hp => k _ _ (Grow.upd hp) ?_⟩
    exact .tup (.inl ⟨ob, ho, upd_same⟩) (hr.mono ((Grow.upd hp).gr _))
  · cases hf
theorem me_lst {m : M (List Arg)} (h : MA X G es m) : ME X G (.List es pos) (mOwns dLst m) := by
  refine PEimp (pe_lst h) fun σ H Q q => ?_
  obtain ⟨env, rel, post⟩ := owns_lift q
  refine ⟨env, rel, post.imp fun as env1 H1 rel1 _ q1 vs hv => ?_⟩
  obtain ⟨env2, ds, d', rel2, hr, hf, k⟩ := q1 vs hv
  unfold dLst at hf
  split at hf
  · rename_i hz
    injection hf with hf
    subst hf
    refine ⟨by rw [← hr.length]; exact hz, fun p hp => k _ _ (Grow.upd hp) ?_⟩
    exact .lst (.inl ⟨rel2.free hp, .inl upd_same⟩) (hr.mono ((Grow.upd hp).gr _))
  · cases hf
/-! ### tests -/
def mIsT (m : M D) : M Bool := fun env => (m env).bind fun d env => match d with
  | .bl b => .ok b env
  | _ => .bad
theorem mt_val {m : M D} (h : ME X G e m) (he : ∀ whole, isTrue e X.env whole = (do let v ← whole; standAt e.pos; holding [v] (truthy v)) := by intro _; rfl) : MT X G e (mIsT m) := by
  refine PTimp (pt_val h he) fun σ H Q ⟨env, rel, post⟩ => ?_
  refine ⟨env, rel, post.seq.imp fun d env1 H1 rel1 _ q1 v hv => ?_⟩
  cases hv with
  | bl b => exact ⟨b, rfl, Post.ok rel1 q1⟩
  | _ => exact False.elim q1
theorem isT_bin {f : D → D → Option D} {m n : M Arg} {B : Bd} {W : WX} {σ : St} {H : Hp} {Q : Bool → Hp → Prop} (h : liftT B W (mIsT (mBin f m n)) σ H Q) : tTest (tOp (rD B.K B.mg f) (liftO B W m) (liftO B W n)) σ H Q := by
  obtain ⟨env, rel, post⟩ := h
  refine bin_lift ⟨env, rel, post.seq.imp fun d env1 H1 rel1 _ q1 v hv => ?_⟩
  cases hv with
  | bl b => exact ⟨b, rfl, Post.ok rel1 q1⟩
  | _ => exact False.elim q1
theorem mt_cmp {op : CmpOp} {f : D → D → Option D} {m n : M Arg} (ho : OpR X (compareOp op) (rD X.K (mw X G) f)) (h1 : MO X G a m) (h2 : MO X G b n) (hm : behindInMarks op b = false) : MT X G (.Compare a [op] [b] pos) (mIsT (mBin f m n)) :=
  PTimp (pt_cmpR ho h1 h2 hm) fun σ H Q h => isT_bin h
def mAnd (m n : M Bool) : M Bool := fun env => (m env).bind fun c env => if c = true then n env else .ok false env
def mOr (m n : M Bool) : M Bool := fun env => (m env).bind fun c env => if c = true then .ok true env else n env
def mNot (m : M Bool) : M Bool := fun env => (m env).bind fun c env => .ok (!c) env
variable {rest : List Expr}
theorem and_lift {B : Bd} {W : WX} {m n : M Bool} {σ : St} {H : Hp} {Q : Bool → Hp → Prop} (h : liftT B W (mAnd m n) σ H Q) : tAnd (liftT B W m) (liftT B W n) σ H Q := by
  obtain ⟨env, rel, post⟩ := h
  refine ⟨env, rel, post.seq.imp fun c env1 H1 rel1 _ q1 => ?_⟩
  cases c with
  | true => rw [if_pos rfl]; rw [if_pos rfl] at q1; exact ⟨env1, rel1, q1⟩
  | false => rw [if_neg Bool.false_ne_true]; rw [if_neg Bool.false_ne_true] at q1; exact Post.ok rel1 q1
theorem or_lift {B : Bd} {W : WX} {m n : M Bool} {σ : St} {H : Hp} {Q : Bool → Hp → Prop} (h : liftT B W (mOr m n) σ H Q) : tOr (liftT B W m) (liftT B W n) σ H Q := by
  obtain ⟨env, rel, post⟩ := h
  refine ⟨env, rel, post.seq.imp fun c env1 H1 rel1 _ q1 => ?_⟩
  cases c with
  | true => rw [if_pos rfl]; rw [if_pos rfl] at q1; exact Post.ok rel1 q1
  | false => rw [if_neg Bool.false_ne_true]; rw [if_neg Bool.false_ne_true] at q1; exact ⟨env1, rel1, q1⟩
theorem mw_and1 {m : M Bool} (h : MT X G a m) : MW X G (.BoolOp .And [a] pos) m := pw_and1 h
theorem mw_or1 {m : M Bool} (h : MT X G a m) : MW X G (.BoolOp .Or [a] pos) m := pw_or1 h
theorem mw_and {m n : M Bool} (h : MT X G a m) (hb : MW X G (.BoolOp .And (b :: rest) pos) n) : MW X G (.BoolOp .And (a :: b :: rest) pos) (mAnd m n) := PWimp (pw_and h hb) fun σ H Q h => and_lift h
theorem mw_or {m n : M Bool} (h : MT X G a m) (hb : MW X G (.BoolOp .Or (b :: rest) pos) n) : MW X G (.BoolOp .Or (a :: b :: rest) pos) (mOr m n) := PWimp (pw_or h hb) fun σ H Q h => or_lift h
theorem mt_w {m : M Bool} (h : MW X G e m) : MT X G e m := PW.pt h
theorem mt_not {m : M Bool} (h : MT X G a m) : MT X G (.UnaryOp .Not a pos) (mNot m) := PTimp (pt_not h) fun σ H Q ⟨env, rel, post⟩ => ⟨env, rel, post.seq.imp fun c env1 H1 rel1 _ q1 => Post.ok rel1 q1⟩
/-! .. as values -/
def mAndV (m n : M D) : M D := fun env => (m env).bind fun d env => match d with
  | .bl true => n env
  | .bl false => .ok (.bl false) env
  | _ => .bad
def mOrV (m n : M D) : M D := fun env => (m env).bind fun d env => match d with
  | .bl true => .ok (.bl true) env
  | .bl false => n env
  | _ => .bad
def mNotV (m : M D) : M D := fun env => (m env).bind fun d env => match d with
  | .bl b => .ok (.bl (!b)) env
  | _ => .bad
theorem me_one {op} {m : M D} (h : ME X G a m) : ME X G (.BoolOp op [a] pos) m := pe_one h
theorem me_and {m n : M D} (h : ME X G a m) (hb : ME X G (.BoolOp .And (b :: rest) pos) n) : ME X G (.BoolOp .And (a :: b :: rest) pos) (mAndV m n) := by
  refine PEimp (pe_and h hb) fun σ H Q ⟨env, rel, post⟩ => ⟨env, rel, post.seq.imp fun d env1 H1 rel1 _ q1 v hv => ?_⟩
  cases hv with
  | bl c => cases c with
    | true => exact ⟨true, rfl, by rw [if_pos rfl]; exact ⟨env1, rel1, q1⟩⟩
    | false => exact ⟨false, rfl, by rw [if_neg Bool.false_ne_true]; exact Post.ok rel1 q1 _ (.bl false)⟩
  | _ => exact False.elim q1
theorem me_or {m n : M D} (h : ME X G a m) (hb : ME X G (.BoolOp .Or (b :: rest) pos) n) : ME X G (.BoolOp .Or (a :: b :: rest) pos) (mOrV m n) := by
  refine PEimp (pe_or h hb) fun σ H Q ⟨env, rel, post⟩ => ⟨env, rel, post.seq.imp fun d env1 H1 rel1 _ q1 v hv => ?_⟩
  cases hv with
  | bl c => cases c with
    | true => exact ⟨true, rfl, by rw [if_pos rfl]; exact Post.ok rel1 q1 _ (.bl true)⟩
    | false => exact ⟨false, rfl, by rw [if_neg Bool.false_ne_true]; exact ⟨env1, rel1, q1⟩⟩
  | _ => exact False.elim q1
theorem me_not {m : M D} (h : ME X G a m) : ME X G (.UnaryOp .Not a pos) (mNotV m) := by
  refine PEimp (pe_not h) fun σ H Q ⟨env, rel, post⟩ => ⟨env, rel, post.seq.imp fun d env1 H1 rel1 _ q1 v hv => ?_⟩
  cases hv with
  | bl c => exact ⟨c, rfl, Post.ok rel1 q1 _ (.bl _)⟩
  | _ => exact False.elim q1
def mIf (c : M Bool) (m n : M D) : M D := fun env => (c env).bind fun b env => if b = true then m env else n env
theorem me_if {c : Expr} {mc : M Bool} {m n : M D} (hc : MT X G c mc) (h1 : ME X G a m) (h2 : ME X G b n) : ME X G (.IfExp c a b pos) (mIf mc m n) := by
  refine PEimp (pe_ifExp hc h1 h2) fun σ H Q ⟨env, rel, post⟩ => ⟨env, rel, post.seq.imp fun b env1 H1 rel1 _ q1 => ?_⟩
  cases b with
  | true => rw [if_pos rfl]; rw [if_pos rfl] at q1; exact ⟨env1, rel1, q1⟩
  | false => rw [if_neg Bool.false_ne_true]; rw [if_neg Bool.false_ne_true] at q1; exact ⟨env1, rel1, q1⟩
end
end Mi
namespace Mi
open PySem PySem.Spec L2
open PyProof.Rows hiding St

/-- how a statement ends -/
inductive So where
  | nx (e : Env') | bk (e : Env') | ct (e : Env') | ret (d : D) (e : Env') | rnew (c : Cell) (e : Env') | exc (c : Str) (fs : List (Str × D)) (e : Env') | bad
abbrev MS := Env' → So
def R.so {α : Type} (r : R α) (f : α → Env' → So) (_ : Tg f := ()) : So := match r with
  | .ok x e => f x e
  | .exc c fs e => .exc c fs e
  | .bad => .bad
def So.optE (o : Option Env') : So := match o with
  | some e => .nx e
  | none => .bad

def PostS (B : Bd) (W : WX) (σ : St) (env : Env') (H : Hp) (r : So) (Dn : Ends) : Prop := match r with
  | .nx e => ∀ σ' H', Rel B σ' e H' → Ext σ env H σ' e H' → Dn.nx σ' H'
  | .bk e => ∀ σ' H', Rel B σ' e H' → Ext σ env H σ' e H' → Dn.bk σ' H'
  | .ct e => ∀ σ' H', Rel B σ' e H' → Ext σ env H σ' e H' → Dn.ct σ' H'
  | .ret d e => ∀ v σ' H', Rel B σ' e H' → Ext σ env H σ' e H' → RepE B σ' e H' d v → Dn.rt v H'
  | .rnew c e => ∀ p σ' H', (∀ o, H p = some o → Zof σ env p) → Rel (B.add p) σ' e H' → ¬ B.z p → ¬ Zof σ' e p → Ext σ env H σ' e H' → CellAt B.K B.mg H' (Zall (B.add p).z σ' e) p c → Dn.rt (.ref p) H'
  | .exc c fs e => ∀ cls od σ' H', Rel B σ' e H' → Ext σ env H σ' e H' → ExcAt B.K B.mg H' (Zall B.z σ' e) c fs cls od → W cls od σ' H'
  | .bad => False
def liftS (B : Bd) (W : WX) (m : MS) : TS := fun Dn σ H => ∃ env, Rel B σ env H ∧ PostS B W σ env H (m env) Dn
abbrev MSt (X : Cx) (G : Gd) (st : Stmt) (m : MS) : Prop := PS X st (liftS (bd X G) G.W m)
abbrev MSs (X : Cx) (G : Gd) (sts : List Stmt) (m : MS) : Prop := PSs X sts (liftS (bd X G) G.W m)
theorem PSimp {X : Cx} {e : Stmt} {t t' : TS} (h : PS X e t) (i : ∀ D σ H, t' D σ H → t D σ H) : PS X e t' := ⟨fun pins s σ H Q I q => h.run pins s σ H Q I (i Q σ H q)⟩
theorem PSsimp {X : Cx} {e : List Stmt} {t t' : TS} (h : PSs X e t) (i : ∀ D σ H, t' D σ H → t D σ H) : PSs X e t' := ⟨fun pins s σ H Q I q => h.run pins s σ H Q I (i Q σ H q)⟩
section
variable {B : Bd} {W : WX} {σ σ1 : St} {env env1 : Env'} {H H1 : Hp} {Dn : Ends}
theorem PostS.from {r : So} (x : Ext σ env H σ1 env1 H1) (h : PostS B W σ env H r Dn) : PostS B W σ1 env1 H1 r Dn := by
  cases r with
  | nx e => exact fun σ' H' rel ext => h σ' H' rel (x.trans ext)
  | bk e => exact fun σ' H' rel ext => h σ' H' rel (x.trans ext)
  | ct e => exact fun σ' H' rel ext => h σ' H' rel (x.trans ext)
  | ret d e => exact fun v σ' H' rel ext q => h v σ' H' rel (x.trans ext) q
  | rnew c e => exact fun p σ' H' fr rel nz nf ext q => h p σ' H' (fun o e => Classical.byContradiction fun n => by
      obtain ⟨h1, h2⟩ := x p o e (.inl n)
      exact h2 n (fr o h1)) rel nz nf (x.trans ext) q
  | exc c fs e => exact fun cls od σ' H' rel ext q => h cls od σ' H' rel (x.trans ext) q
  | bad => exact h
/-- an expression's end within a statement -/
theorem PostS.so {α : Type} {r : R α} {f : α → Env' → So} (h : PostS B W σ env H (r.so f) Dn) : Post B W σ env H r fun x env1 H1 => PostS B W σ env1 H1 (f x env1) Dn := by
  cases r with
  | ok a e => exact fun H' rel ext => PostS.from ext h
  | exc c fs e => exact fun cls od H' rel ext q => h cls od σ H' rel ext q
  | bad => exact h
end
def mSkip : MS := fun env => .nx env
def mSeq (m n : MS) : MS := fun env => match m env with
  | .nx e => n e
  | r => r
theorem seq_lift {B : Bd} {W : WX} {m n : MS} {Dn : Ends} {σ : St} {H : Hp} (h : liftS B W (mSeq m n) Dn σ H) : tSeq (liftS B W m) (liftS B W n) Dn σ H := by
  obtain ⟨env, rel, post⟩ := h
  refine ⟨env, rel, ?_⟩
  unfold mSeq at post
  cases e : m env with
  | nx e1 =>
    rw [e] at post
    exact fun σ' H' rel' ext => ⟨e1, rel', PostS.from ext post⟩
  | bk e1 => rw [e] at post; exact post
  | ct e1 => rw [e] at post; exact post
  | ret d e1 => rw [e] at post; exact post
  | rnew c e1 => rw [e] at post; exact post
  | exc c fs e1 => rw [e] at post; exact post
  | bad => rw [e] at post; exact post
section
variable {X : Cx} {G : Gd} {st : Stmt} {sts rest : List Stmt} {e a b : Expr} {pos : Pos}
theorem mss_nil : MSs X G [] mSkip := PSsimp pss_nil fun Dn σ H ⟨env, rel, post⟩ => post σ H rel Ext.refl
theorem mss_cons {m n : MS} (h : MSt X G st m) (hr : MSs X G rest n) : MSs X G (st :: rest) (mSeq m n) := PSsimp (pss_cons h hr) fun Dn σ H h => seq_lift h
theorem mss_one {m : MS} (h : MSt X G st m) : MSs X G [st] m := pss_one h
theorem mst_pass : MSt X G (.Pass pos) mSkip := PSimp ps_pass fun Dn σ H ⟨env, rel, post⟩ => post σ H rel Ext.refl
theorem mst_break : MSt X G (.Break pos) (fun env => .bk env) := PSimp ps_break fun Dn σ H ⟨env, rel, post⟩ => post σ H rel Ext.refl
theorem mst_cont : MSt X G (.Continue pos) (fun env => .ct env) := PSimp ps_continue fun Dn σ H ⟨env, rel, post⟩ => post σ H rel Ext.refl
theorem mst_doc {x j pos'} : MSt X G (.Expr (.Constant (.str x) j pos) pos') mSkip := PSimp ps_doc fun Dn σ H ⟨env, rel, post⟩ => post σ H rel Ext.refl
/-- code that is never reached -/
theorem mst_never : MSt X G st (fun _ => .bad) := PSimp ps_never fun Dn σ H ⟨env, rel, post⟩ => post
theorem mss_never : MSs X G sts (fun _ => .bad) := PSsimp pss_never fun Dn σ H ⟨env, rel, post⟩ => post
def mDrop (m : M D) : MS := fun env => (m env).so fun _ env => .nx env
theorem mst_expr {m : M D} (h : ME X G e m) (hs : swapsWith e none pos.line X.env = pure false := by rfl) : MSt X G (.Expr e pos) (mDrop m) :=
  PSimp (ps_expr h hs) fun Dn σ H ⟨env, rel, post⟩ => ⟨env, rel, post.so.imp fun d env1 H1 rel1 ext1 q v hv => q σ H1 rel1 Ext.refl⟩
def mRet (m : M D) : MS := fun env => (m env).so fun d env => .ret d env
theorem mst_ret {m : M D} (h : ME X G e m) : MSt X G (.Return (some e) pos) (mRet m) :=
  PSimp (ps_ret h) fun Dn σ H ⟨env, rel, post⟩ => ⟨env, rel, post.so.imp fun d env1 H1 rel1 ext1 q v hv => q v σ H1 rel1 Ext.refl hv⟩
/-- a slot's own object is handed out -/
def mRetC (i : Nat) : MS := fun env => match env[i]? with
  | some (.cel true c) => .rnew c (env.set i .emp)
  | _ => .bad
theorem mst_retC (i : Nat) (h : PE X e (tVar i)) : MSt X G (.Return (some e) pos) (mRetC i) := by
  refine PSimp (ps_ret h) fun Dn σ H ⟨env, rel, post⟩ => ?_
  unfold mRetC at post
  split at post
  · rename_i c hi
    obtain ⟨a, ha, ca, w1, _⟩ := rel.chg i true c hi
    have hil : i < env.length := (List.getElem?_eq_some_iff.mp hi).1
    have sub : ∀ b, Zof σ (env.set i .emp) b → Zof σ env b ∧ b ≠ a := fun b h => by
      obtain ⟨j, o, k, e1, e2⟩ := h
      rcases set_get e1 with ⟨_, q, _⟩ | ⟨ne, e1⟩
      · cases q
      · exact ⟨⟨j, o, k, e1, e2⟩, fun q => by subst q; exact ne (rel.dist j i o true k c b e1 hi e2 ha)⟩
    have zy : Zall ((bd X G).add a).z σ (env.set i .emp) = Zall (bd X G).z σ env := by
      funext b
      refine propext ⟨fun h => ?_, fun h => ?_⟩
      · rcases h with (h | h) | h
        · exact .inl h
        · subst h; exact .inr ⟨i, true, c, hi, ha⟩
        · exact .inr (sub b h).1
      · rcases h with h | ⟨j, o, k, e1, e2⟩
        · exact .inl (.inl h)
        · by_cases ej : j = i
          · subst ej
            have : V.ref b = .ref a := some_some e2 ha
            injection this with this
            exact .inl (.inr this)
          · exact .inr ⟨j, o, k, by rw [get_set_ne ej]; exact e1, e2⟩
    refine ⟨.ref a, ha, post a σ H (fun o e => ⟨i, true, c, hi, ha⟩) ⟨by simpa using rel.len, fun j e h => ?_, fun j o k h => ?_, fun j k o o' x x' b h1 h2 h3 h4 => ?_, fun b q => ?_, fun j b q => .inl (rel.pz j b q), rel.kp⟩ (w1 rfl) (fun q => (sub a q).2 rfl) (Gr.sub fun b h => (sub b h).1) (by rw [zy]; exact ca)⟩
    · rcases set_get h with ⟨_, q', _⟩ | ⟨ne, h⟩
      · cases q'
      · obtain ⟨w, h1, h2⟩ := rel.val j e h
        exact ⟨w, h1, by show Rep _ _ _ (Zall ((bd X G).add a).z _ _) _ _; rw [zy]; exact h2⟩
    · rcases set_get h with ⟨_, q', _⟩ | ⟨ne, h⟩
      · cases q'
      · obtain ⟨b, h1, h2, h3, h4⟩ := rel.chg j o k h
        exact ⟨b, h1, by rw [zy]; exact h2, fun q z => by
          rcases z with z | z
          · exact h3 q z
          · subst z; exact ne (rel.dist j i o true k c b h hi h1 ha), h4⟩
    · rcases set_get h1 with ⟨_, q', _⟩ | ⟨ne, h1⟩
      · cases q'
      · rcases set_get h2 with ⟨_, q', _⟩ | ⟨ne2, h2⟩
        · cases q'
        · exact rel.dist j k o o' x x' b h1 h2 h3 h4
    · rcases q with q | q
      · exact rel.z0 b q
      · subst q; exact ca.there
  · exact False.elim post
def mRetN : MS := fun env => .ret .non env
theorem mst_retN : MSt X G (.Return none pos) mRetN := PSimp ps_retN fun Dn σ H ⟨env, rel, post⟩ => post .non σ H rel Ext.refl .non
def mIfS (c : M Bool) (m n : MS) : MS := fun env => (c env).so fun b env => if b = true then m env else n env
theorem mst_if {c : Expr} {ss ts : List Stmt} {mc : M Bool} {m n : MS} (hc : MT X G c mc) (ha : MSs X G ss m) (hb : MSs X G ts n) : MSt X G (.If c ss ts pos) (mIfS mc m n) := by
  refine PSimp (ps_if hc ha hb) fun Dn σ H ⟨env, rel, post⟩ => ⟨env, rel, post.so.imp fun b env1 H1 rel1 ext1 q => ?_⟩
  cases b with
  | true => rw [if_pos rfl]; rw [if_pos rfl] at q; exact ⟨env1, rel1, q⟩
  | false => rw [if_neg Bool.false_ne_true]; rw [if_neg Bool.false_ne_true] at q; exact ⟨env1, rel1, q⟩
/-! ### what the proof does between statements: a slot forgotten, a changing object that changes no more -/
def mKill (is : List Nat) : Env' → Env' := fun env => is.foldl (fun e i => e.set i .emp) env
def frzAt (env : Env') (i : Nat) : Env' := match env[i]? with
  | some (.cel true c) => env.set i (.val c.frz)
  | _ => env
def mPre (f : Env' → Env') (m : MS) : MS := fun env => m (f env)
/-- an adjustment that the relation bears -/
def Adj (f : Env' → Env') : Prop := ∀ (B : Bd) (σ : St) (env : Env') (H : Hp), Rel B σ env H → Rel B σ (f env) H ∧ Ext σ env H σ (f env) H
theorem adj_kill : ∀ is : List Nat, Adj (mKill is)
  | [], B, σ, env, H, r => ⟨r, Ext.refl⟩
  | i :: is, B, σ, env, H, r => by
    obtain ⟨r2, x2⟩ := adj_kill is B σ (env.set i .emp) H (r.kill i)
    exact ⟨r2, (Ext.setEmp i).trans x2⟩
theorem mss_pre {f : Env' → Env'} (hf : Adj f) {m : MS} (h : MSs X G sts m) : MSs X G sts (mPre f m) := PSsimp h fun Dn σ H ⟨env, rel, post⟩ => by
  obtain ⟨r2, x2⟩ := hf _ _ _ _ rel
  exact ⟨f env, r2, PostS.from x2 post⟩

/-- what stands at d is locked, for good -/
theorem pss_frz {t : TS} (h : PSs X sts t) : PSs X sts (fun Dn σ H => (∃ d kws, H d = some (.dK kws) ∧ ∀ od, t Dn σ (upd H d (.frz od (.dK kws)))) ∨ t Dn σ H) := ⟨fun pins s σ H D I hw => by
  rcases hw with ⟨d, kws, hd, hw⟩ | hw
  · obtain ⟨od, I1⟩ := I.lock hd trivial
    exact h.run pins s σ _ D I1 (hw od)
  · exact h.run pins s σ H D I hw⟩
theorem pe_frz {t : TE} (h : PE X e t) : PE X e (fun σ H Q => t σ H fun v H' => (∃ d kws, H' d = some (.dK kws) ∧ ∀ od, Q v (upd H' d (.frz od (.dK kws)))) ∨ Q v H') := ⟨fun pins s σ H Q I hw =>
  thn (h.run pins s σ H _ I hw) fun u s1 ⟨x, H1, I1, r, q⟩ => by
    rcases q with ⟨d, kws, hd, q⟩ | q
    · obtain ⟨od, I2⟩ := I1.lock hd trivial
      exact ⟨x, _, I2, r, q od⟩
    · exact ⟨x, _, I1, r, q⟩⟩
theorem mss_frz (i : Nat) {m : MS} (h : MSs X G sts m) : MSs X G sts (mPre (fun env => frzAt env i) m) := PSsimp (pss_frz h) fun Dn σ H ⟨env, rel, post⟩ => by
  have post : PostS (bd X G) G.W σ env H (m (frzAt env i)) Dn := post
  unfold frzAt at post
  split at post
  · rename_i c hi
    cases hd : isDct c with
    | false =>
      obtain ⟨r2, x2⟩ := rel.freeze hi hd
      exact .inr ⟨_, r2, PostS.from x2 post⟩
    | true =>
      cases c with
      | dct kvs =>
        obtain ⟨a, kws, ha, q⟩ := rel.freezeD hi
        exact .inl ⟨a, kws, ha, fun od => ⟨_, (q od).1, PostS.from (q od).2 post⟩⟩
      | _ => cases hd
  · exact .inr ⟨env, rel, post⟩
/-! ### targets -/
abbrev MG := D → Env' → Option Env'
/-- is: the slots that the target may set -/
def OffEq (is : List Nat) (σ σ' : St) : Prop := σ'.length = σ.length ∧ ∀ j, j ∉ is → σ'[j]? = σ[j]?
theorem OffEq.refl {is : List Nat} {σ : St} : OffEq is σ σ := ⟨rfl, fun _ _ => rfl⟩
theorem OffEq.trans {is js : List Nat} {σ σ1 σ2 : St} (a : OffEq is σ σ1) (b : OffEq js σ1 σ2) : OffEq (is ++ js) σ σ2 :=
  ⟨b.1.trans a.1, fun j h => (b.2 j fun q => h (List.mem_append_right _ q)).trans (a.2 j fun q => h (List.mem_append_left _ q))⟩
def liftG (is : List Nat) (B : Bd) (g : MG) : TG := fun v σ H Q => ∃ env d env', Rel B σ env H ∧ RepE B σ env H d v ∧ g d env = some env' ∧ ∀ σ', Rel B σ' env' H → Ext σ env H σ' env' H → OffEq is σ σ' → Q σ' H
abbrev MTg (X : Cx) (G : Gd) (e : Expr) (is : List Nat) (g : MG) : Prop := PG X e (liftG is (bd X G) g)
theorem PGimp {e : Expr} {t t' : TG} (h : PG X e t) (i : ∀ v σ H Q, t' v σ H Q → t v σ H Q) : PG X e t' := ⟨fun pins s σ H v u Q I r q => h.run pins s σ H v u Q I r (i v σ H Q q)⟩
def gN (i : Nat) : MG := fun d env => some (env.set i (.val d))
theorem mg_name {i : Nat} (h : PG X e (gName i)) : MTg X G e [i] (gN i) := PGimp h fun v σ H Q ⟨env, d, env', rel, rep, hg, k⟩ => by
  have : env.set i (.val d) = env' := Option.some.inj hg
  subst this
  exact k _ (rel.setVal i rep) (Ext.setVal i) ⟨by simp, fun j hj => get_set_ne (by simpa using hj)⟩
abbrev MGs := List D → Env' → Option Env'
def liftGs (is : List Nat) (B : Bd) (g : MGs) : TGs := fun vs σ H Q => ∃ env ds env', Rel B σ env H ∧ RepsE B σ env H ds vs ∧ g ds env = some env' ∧ ∀ σ', Rel B σ' env' H → Ext σ env H σ' env' H → OffEq is σ σ' → Q σ' H
abbrev MTgs (X : Cx) (G : Gd) (es : List Expr) (is : List Nat) (g : MGs) : Prop := PGs X es (liftGs is (bd X G) g)
theorem PGsimp {es : List Expr} {t t' : TGs} (h : PGs X es t) (i : ∀ v σ H Q, t' v σ H Q → t v σ H Q) : PGs X es t' := ⟨fun pins s σ H v u Q I r q => h.run pins s σ H v u Q I r (i v σ H Q q)⟩
def gNil' : MGs := fun ds env => match ds with
  | [] => some env
  | _ => none
def gCons' (g : MG) (r : MGs) : MGs := fun ds env => match ds with
  | d :: ds => (g d env).bind fun env1 => r ds env1
  | [] => none
theorem mgs_nil : MTgs X G [] [] gNil' := PGsimp pgs_nil fun vs σ H Q ⟨env, ds, env', rel, rep, hg, k⟩ => by
  cases rep with
  | nil =>
    have : env = env' := Option.some.inj hg
    subst this
    exact ⟨rfl, k σ rel Ext.refl OffEq.refl⟩
  | cons _ _ => cases hg
theorem mgs_cons {es : List Expr} {is js : List Nat} {g : MG} {r : MGs} (h : MTg X G e is g) (hr : MTgs X G es js r) (hs : (assignEach (e :: es) X.env).map (·.2) = assign e X.env :: (assignEach es X.env).map (·.2) := by rfl) : MTgs X G (e :: es) (is ++ js) (gCons' g r) := PGsimp (pgs_cons h hr hs) fun vs σ H Q ⟨env, ds, env', rel, rep, hg, k⟩ => by
  cases rep with
  | nil => cases hg
  | @cons d ds v vs' r1 rr =>
    refine ⟨v, vs', rfl, ?_⟩
    have hg : (g d env).bind (fun env1 => r ds env1) = some env' := hg
    cases e1 : g d env with
    | none => rw [e1] at hg; cases hg
    | some env1 =>
      rw [e1] at hg
      have hg : r ds env1 = some env' := hg
      refine ⟨env, d, env1, rel, r1, e1, fun σ1 rel1 x1 o1 => ⟨env1, ds, env', rel1, rr.mono (Gr.all x1), hg, fun σ2 rel2 x2 o2 => k σ2 rel2 (x1.trans x2) (o1.trans o2)⟩⟩
def gT (n : Nat) (r : MGs) : MG := fun d env => match d with
  | .tup ds => if ds.length = n then r ds env else none
  | _ => none
theorem mg_tup {es : List Expr} {is : List Nat} {g : MGs} {n k : Nat} (hc : X.calm = true) (h : MTgs X G es is g) (hn : (assignEach es X.env).length = n := by rfl) (hst : (assignEach es X.env).findIdx? (·.1) = none := by rfl) : MTg X G (.Tuple es k pos) is (gT n g) := PGimp (pg_tup hc h hn hst) fun v σ H Q ⟨env, d, env', rel, rep, hg, k⟩ => by
  cases rep with
  | @tup a ds vs hs hr =>
    have hg : (if ds.length = n then g ds env else none) = some env' := hg
    split at hg
    · rename_i hl
      exact ⟨a, vs, rfl, hs.sq, by rw [← hr.length]; exact hl, env, ds, env', rel, hr, hg, k⟩
    · cases hg
  | _ => cases hg
/-! ### assignments -/
def mAsg (m : M D) (g : MG) : MS := fun env => (m env).so fun d env => So.optE (g d env)
theorem asg_lift {B : Bd} {W : WX} {m : M D} {is : List Nat} {g : MG} {Dn : Ends} {σ : St} {H : Hp} (h : liftS B W (mAsg m g) Dn σ H) : liftE B W m σ H fun x H1 => liftG is B g x σ H1 Dn.nx := by
  obtain ⟨env, rel, post⟩ := h
  refine ⟨env, rel, post.so.imp fun d env1 H1 rel1 ext1 q v hv => ?_⟩
  cases e : g d env1 with
  | none => rw [e] at q; exact False.elim q
  | some env2 =>
    rw [e] at q
    exact ⟨env1, d, env2, rel1, hv, e, fun σ' rel' ext' _ => q σ' H1 rel' ext'⟩
theorem mst_asg {tg : Expr} {m : M D} {is : List Nat} {g : MG} (he : ME X G e m) (hg : MTg X G tg is g) (hs : swapsWithSole [tg] e pos.line X.env = pure false := by rfl) (hw : swappedStores [tg] e X.env = pure none := by rfl) (h1 : (assignEach [tg] X.env).map (·.2) = [assign tg X.env] := by rfl) : MSt X G (.Assign [tg] e pos) (mAsg m g) :=
  PSimp (ps_asg he hg hs hw h1) fun Dn σ H h => asg_lift h
/-- name = value -/
theorem mst_set (i : Nat) {x : Str} {m : M D} {pos' : Pos} (hN : X.N.Nodup) (hi : X.N[i]? = some x) (hx : Loc X.env.scope x) (he : ME X G e m) (hs : swapsWith e (some (.Name x pos')) pos.line X.env = pure false := by rfl)
    (hf : X.fn x = true ∨ X.env.scope.names.lookup x = some .local := by first | exact .inl rfl | exact .inr rfl | assumption) : MSt X G (.Assign [.Name x pos'] e pos) (mAsg m (gN i)) :=
  PSimp (ps_set hN hi hx he hs hf) fun Dn σ H h => by
    obtain ⟨env, rel, post⟩ := asg_lift (is := [i]) h
    exact ⟨env, rel, post.imp fun d env1 H1 rel1 ext1 q v hv => by
      obtain ⟨env2, d2, env3, r2, rep2, hg, k⟩ := q v hv
      have : env2.set i (.val d2) = env3 := Option.some.inj hg
      subst this
      exact k _ (r2.setVal i rep2) (Ext.setVal i) ⟨by simp, fun j hj => get_set_ne (by simpa using hj)⟩⟩
/-- a, b = e1, e2: stored from the right -/
def mPar (i j : Nat) (m : M (List Arg)) : MS := fun env => (m env).so fun as env => match owns env as with
  | some [d, e] => .nx ((env.set i (.val d)).set j (.val e))
  | _ => .bad
theorem par_lift {B : Bd} {W : WX} {i j : Nat} {m : M (List Arg)} {Dn : Ends} {σ : St} {H : Hp} (h : liftS B W (mPar i j m) Dn σ H) : tPar i j (liftA B W m) Dn σ H := by
  obtain ⟨env, rel, post⟩ := h
  refine ⟨env, rel, post.so.imp fun as env1 H1 rel1 ext1 q vs hv => ?_⟩
  split at q
  · rename_i d e ho
    have hr := rel1.owns hv ho
    cases hr with
    | cons r1 hr =>
      cases hr with
      | cons r2 hr =>
        cases hr with
        | nil =>
          refine ⟨_, _, rfl, q _ _ ((rel1.setVal i r1).setVal j (r2.mono (Gr.all (Ext.setVal i)))) ?_⟩
          exact (Ext.setVal i).trans (Ext.setVal j)
  · exact False.elim q
/-! ### while -/
noncomputable def whileN (c : M Bool) (b : MS) : Nat → MS
  | 0 => fun _ => .bad
  | n + 1 => fun env => (c env).so fun t env => if t = true then (match b env with
      | .nx e => whileN c b n e
      | .ct e => whileN c b n e
      | .bk e => .nx e
      | r => r) else .nx env
def So.good : So → Prop
  | .bad => False
  | _ => True
open Classical in
noncomputable def mWhile (c : M Bool) (b : MS) : MS := fun env => if h : ∃ n, (whileN c b n env).good then whileN c b (Classical.choose h) env else .bad
theorem whileN_up {c : M Bool} {b : MS} : ∀ {n : Nat} {env : Env'}, (whileN c b n env).good → whileN c b (n + 1) env = whileN c b n env
  | 0, env, h => False.elim h
  | n + 1, env, h => by
    show (c env).so _ = (c env).so _
    have h : ((c env).so fun t env => if t = true then (match b env with
      | .nx e => whileN c b n e
      | .ct e => whileN c b n e
      | .bk e => .nx e
      | r => r) else .nx env).good := h
    cases e : c env with
    | ok t e1 =>
      rw [e] at h
      cases t with
      | false => rfl
      | true =>
        show (match b e1 with | .nx e => whileN c b (n + 1) e | .ct e => whileN c b (n + 1) e | .bk e => .nx e | r => r) = (match b e1 with | .nx e => whileN c b n e | .ct e => whileN c b n e | .bk e => .nx e | r => r)
        have h : So.good (match b e1 with | .nx e => whileN c b n e | .ct e => whileN c b n e | .bk e => .nx e | r => r) := h
        cases eb : b e1 with
        | nx e2 => rw [eb] at h; exact whileN_up h
        | ct e2 => rw [eb] at h; exact whileN_up h
        | bk e2 => rfl
        | ret d e2 => rfl
        | rnew d e2 => rfl
        | exc c fs e2 => rfl
        | bad => rfl
    | exc x fs e1 => rfl
    | bad => rfl
theorem whileN_le {c : M Bool} {b : MS} {n m : Nat} {env : Env'} (h : (whileN c b n env).good) (l : n ≤ m) : whileN c b m env = whileN c b n env := by
  induction m with
  | zero =>
    have : n = 0 := Nat.le_zero.mp l
    rw [this]
  | succ m ih =>
    by_cases e : n = m + 1
    · rw [e]
    · have := ih (by omega)
      rw [whileN_up (by rw [this]; exact h), this]
theorem mWhile_of {c : M Bool} {b : MS} {n : Nat} {env : Env'} (h : (whileN c b n env).good) : mWhile c b env = whileN c b n env := by
  have ex : ∃ n, (whileN c b n env).good := ⟨n, h⟩
  unfold mWhile
  rw [dif_pos ex]
  have g := Classical.choose_spec ex
  rcases Nat.le_total n (Classical.choose ex) with l | l
  · exact whileN_le h l
  · exact (whileN_le g l).symm
theorem mWhile_good {c : M Bool} {b : MS} {env : Env'} (h : (mWhile c b env).good) : ∃ n, (whileN c b n env).good ∧ mWhile c b env = whileN c b n env := by
  unfold mWhile at h
  split at h
  · rename_i ex
    exact ⟨_, h, mWhile_of h⟩
  · exact False.elim h
/-- one turn -/
theorem mWhile_step (c : M Bool) (b : MS) (env : Env') : mWhile c b env = (c env).so fun t env => if t = true then (match b env with
      | .nx e => mWhile c b e
      | .ct e => mWhile c b e
      | .bk e => .nx e
      | r => r) else .nx env := by
  have both : ∀ (x : So), x = mWhile c b env ∨ x = ((c env).so fun t env => if t = true then (match b env with
      | .nx e => mWhile c b e
      | .ct e => mWhile c b e
      | .bk e => .nx e
      | r => r) else .nx env) → x.good → mWhile c b env = ((c env).so fun t env => if t = true then (match b env with
      | .nx e => mWhile c b e
      | .ct e => mWhile c b e
      | .bk e => .nx e
      | r => r) else .nx env) := by
    intro x hx hg
    -- a bound on the turns for both sides
    have key : ∃ n, mWhile c b env = whileN c b (n + 1) env ∧ ((c env).so fun t env => if t = true then (match b env with
      | .nx e => mWhile c b e
      | .ct e => mWhile c b e
      | .bk e => .nx e
      | r => r) else .nx env) = whileN c b (n + 1) env := by
      rcases hx with hx | hx
      · subst hx
        obtain ⟨n, hn, en⟩ := mWhile_good hg
        cases n with
        | zero => exact False.elim hn
        | succ n =>
          refine ⟨n, en, ?_⟩
          show _ = (c env).so _
          have hn : ((c env).so fun t env => if t = true then (match b env with
            | .nx e => whileN c b n e
            | .ct e => whileN c b n e
            | .bk e => .nx e
            | r => r) else .nx env).good := hn
          cases e : c env with
          | ok t e1 =>
            rw [e] at hn
            cases t with
            | false => rfl
            | true =>
              have hn : So.good (match b e1 with | .nx e => whileN c b n e | .ct e => whileN c b n e | .bk e => .nx e | r => r) := hn
              show (match b e1 with | .nx e => mWhile c b e | .ct e => mWhile c b e | .bk e => .nx e | r => r) = (match b e1 with | .nx e => whileN c b n e | .ct e => whileN c b n e | .bk e => .nx e | r => r)
              cases eb : b e1 with
              | nx e2 => rw [eb] at hn; exact mWhile_of hn
              | ct e2 => rw [eb] at hn; exact mWhile_of hn
              | bk e2 => rfl
              | ret d e2 => rfl
              | rnew d e2 => rfl
              | exc c fs e2 => rfl
              | bad => rfl
          | exc x fs e1 => rfl
          | bad => rfl
      · subst hx
        cases e : c env with
        | ok t e1 =>
          rw [e] at hg
          cases t with
          | false =>
            refine ⟨0, ?_, ?_⟩
            · exact mWhile_of (n := 1) (by show ((c env).so _).good; rw [e]; exact trivial)
            · show _ = (c env).so _
              rw [e]; rfl
          | true =>
            have hg : So.good (match b e1 with | .nx e => mWhile c b e | .ct e => mWhile c b e | .bk e => .nx e | r => r) := hg
            have fin : ∀ n, (So.good (match b e1 with | .nx e => whileN c b n e | .ct e => whileN c b n e | .bk e => .nx e | r => r)) →
                (match b e1 with | .nx e => mWhile c b e | .ct e => mWhile c b e | .bk e => .nx e | r => r) = (match b e1 with | .nx e => whileN c b n e | .ct e => whileN c b n e | .bk e => .nx e | r => r) →
                ∃ n, mWhile c b env = whileN c b (n + 1) env ∧ ((R.ok true e1).so fun t env => if t = true then (match b env with
                  | .nx e => mWhile c b e
                  | .ct e => mWhile c b e
                  | .bk e => .nx e
                  | r => r) else .nx env) = whileN c b (n + 1) env := fun n g q => by
              have w : whileN c b (n + 1) env = (match b e1 with | .nx e => whileN c b n e | .ct e => whileN c b n e | .bk e => .nx e | r => r) := by
                show (c env).so _ = _
                rw [e]; rfl
              exact ⟨n, mWhile_of (by rw [w]; exact g), by rw [w]; exact q⟩
            cases eb : b e1 with
            | nx e2 =>
              rw [eb] at hg
              obtain ⟨n, hn, en⟩ := mWhile_good hg
              refine fin n ?_ ?_
              · rw [eb]; exact hn
              · rw [eb]; exact en
            | ct e2 =>
              rw [eb] at hg
              obtain ⟨n, hn, en⟩ := mWhile_good hg
              refine fin n ?_ ?_
              · rw [eb]; exact hn
              · rw [eb]; exact en
            | bk e2 => exact fin 0 (by rw [eb]; trivial) (by rw [eb])
            | ret d e2 => exact fin 0 (by rw [eb]; trivial) (by rw [eb])
            | rnew d e2 => exact fin 0 (by rw [eb]; trivial) (by rw [eb])
            | exc x fs e2 => exact fin 0 (by rw [eb]; trivial) (by rw [eb])
            | bad => rw [eb] at hg; exact False.elim hg
        | exc x fs e1 =>
          refine ⟨0, mWhile_of (n := 1) (by show ((c env).so _).good; rw [e]; exact trivial), ?_⟩
          show _ = (c env).so _
          rw [e]; rfl
        | bad => rw [e] at hg; exact False.elim hg
    obtain ⟨n, a1, a2⟩ := key
    rw [a1, a2]
  cases e1 : mWhile c b env with
  | bad =>
    cases e2 : ((c env).so fun t env => if t = true then (match b env with
      | .nx e => mWhile c b e
      | .ct e => mWhile c b e
      | .bk e => .nx e
      | r => r) else .nx env) with
    | bad => rfl
    | _ => rw [← e2]; exact e1.symm.trans (both _ (.inr rfl) (by rw [e2]; trivial))
  | _ => rw [← e1]; exact both _ (.inl rfl) (by rw [e1]; trivial)
theorem PostS.good {B : Bd} {W : WX} {σ : St} {env : Env'} {H : Hp} {r : So} {Dn : Ends} (h : PostS B W σ env H r Dn) : r.good := by
  cases r with
  | bad => exact h
  | _ => trivial
theorem mst_while {c : Expr} {body : List Stmt} {mc : M Bool} {m : MS} (hp : PassesOwn (model X.prog X.w) X.A X.env X.xe) (hc : MT X G c mc) (hb : MSs X G body m) : MSt X G (.While c body [] pos) (mWhile mc m) := by
  refine PSimp (ps_while hp hc hb) fun Dn σ H ⟨env, rel, post⟩ => ?_
  obtain ⟨n, hn, en⟩ := mWhile_good post.good
  rw [en] at post
  refine ⟨fun k σ1 H1 => ∃ env1, Rel (bd X G) σ1 env1 H1 ∧ PostS (bd X G) G.W σ1 env1 H1 (whileN mc m k env1) Dn, ⟨n, env, rel, post⟩, ?_⟩
  rintro k σ1 H1 ⟨env1, rel1, post1⟩
  cases k with
  | zero => exact False.elim post1
  | succ k =>
    refine ⟨env1, rel1, (show PostS _ _ _ _ _ ((mc env1).so _) _ from post1).so.imp fun t env2 H2 rel2 ext2 q => ?_⟩
    cases t with
    | false =>
      rw [if_neg Bool.false_ne_true]
      exact q σ1 H2 rel2 Ext.refl
    | true =>
      rw [if_pos rfl]
      refine ⟨fun σ' H' => ∃ env1, Rel (bd X G) σ' env1 H' ∧ PostS (bd X G) G.W σ' env1 H' (whileN mc m k env1) Dn, fun σ' H' h => ⟨k, Nat.lt_succ_self k, h⟩, env2, rel2, ?_⟩
      have q : PostS (bd X G) G.W σ1 env2 H2 (match m env2 with | .nx e => whileN mc m k e | .ct e => whileN mc m k e | .bk e => .nx e | r => r) Dn := q
      cases eb : m env2 with
      | nx e3 => rw [eb] at q; exact fun σ' H' rel' ext' => ⟨e3, rel', PostS.from ext' q⟩
      | ct e3 => rw [eb] at q; exact fun σ' H' rel' ext' => ⟨e3, rel', PostS.from ext' q⟩
      | bk e3 => rw [eb] at q; exact q
      | ret d e3 => rw [eb] at q; exact q
      | rnew d e3 => rw [eb] at q; exact q
      | exc x fs e3 => rw [eb] at q; exact q
      | bad => rw [eb] at q; exact q
/-! ### for -/
/-- a slot that is walked: its object must not change meanwhile -/
abbrev Wat := Option (Nat × Bool × Cell)
def Wat.ok (w : Wat) (env : Env') : Prop := match w with
  | none => True
  | some (i, o, c) => env[i]? = some (.cel o c)
abbrev Src := List D × Wat
noncomputable instance (w : Wat) (env : Env') : Decidable (w.ok env) := Classical.propDecidable _
/-- over the items ds -/
noncomputable def forL (w : Wat) (g : MG) (b : MS) : List D → MS
  | [] => fun env => if w.ok env then .nx env else .bad
  | d :: ds => fun env => if w.ok env then (match g d env with
    | none => .bad
    | some e => match b e with
      | .nx e => forL w g b ds e
      | .ct e => forL w g b ds e
      | .bk e => .nx e
      | r => r) else .bad
/-- what a for walks, as a row of items -/
def Walks' (B : Bd) (J : It) (x : Src) (σ0 : St) (env0 : Env') (H0 : Hp) : Prop := x.2.ok env0 ∧
  ∀ (z : Addr → Prop) (p : Nat → Option Addr) (σ : St) (env : Env') (H : Hp), Rel ⟨B.K, B.mg, z, p, B.kp⟩ σ env H → Gr H0 (Zall B.z σ0 env0) H (Zall z σ env) → (∀ i o c, x.2 = some (i, o, c) → ∃ o', env[i]? = some (.cel o' c) ∧ σ[i]? = σ0[i]?) →
    (J.stop x.1.length H) ∧ ∀ i d, x.1[i]? = some d → J.go i H ∧ ∀ v H', J.yld i H v H' → Grow H H' ∧ Rep B.K B.mg H' (Zall z σ env) d v
def liftI (B : Bd) (W : WX) (m : M Src) : TI := fun σ H Rr => ∃ env, Rel B σ env H ∧ Post B W σ env H (m env) fun x env' H' => ∀ J, Walks' B J x σ env' H' → Rr J H'
abbrev MI (X : Cx) (G : Gd) (tg it : Expr) (m : M Src) : Prop := PI X tg it (liftI (bd X G) G.W m)
theorem PIimp {tg it : Expr} {t t' : TI} (h : PI X tg it t) (i : ∀ σ H Q, t' σ H Q → t σ H Q) : PI X tg it t' := ⟨fun pins s σ H Q I q => h.run pins s σ H Q I (i σ H Q q)⟩
def unlend (i : Nat) (env : Env') : Env' := match env[i]? with
  | some (.cel false c) => env.set i (.cel true c)
  | _ => env
def So.map (f : Env' → Env') : So → So
  | .nx e => .nx (f e)
  | .bk e => .bk (f e)
  | .ct e => .ct (f e)
  | .ret d e => .ret d (f e)
  | .rnew c e => .rnew c (f e)
  | .exc c fs e => .exc c fs (f e)
  | .bad => .bad
noncomputable def mFor (m : M Src) (g : MG) (b : MS) : MS := fun env => (m env).so fun x env => match x.2 with
  | some (i, true, c) => (forL (some (i, false, c)) g b x.1 (env.set i (.cel false c))).map (unlend i)
  | _ => forL x.2 g b x.1 env
/-- within a block or a loop: for any addresses apart -/
def exG (is : List Nat) (K : PySem.W.Frag) (mg : Mw) (kp : Addr → Option HO) (g : MG) : TG := fun v σ H Q => ∃ z p, liftG is ⟨K, mg, z, p, kp⟩ g v σ H Q
def exS (K : PySem.W.Frag) (mg : Mw) (kp : Addr → Option HO) (W : WX) (m : MS) : TS := fun Dn σ H => ∃ z p, liftS ⟨K, mg, z, p, kp⟩ W m Dn σ H
theorem for_core {B : Bd} {W : WX} {J : It} {x : Src} {is : List Nat} {g : MG} {m : MS} {σ0 : St} {env0 : Env'} {H0 : Hp} {Dn : Ends} (hw : ∀ i o c, x.2 = some (i, o, c) → o = false)
    (wk : Walks' B J x σ0 env0 H0) (rel0 : Rel B σ0 env0 H0) (q : PostS B W σ0 env0 H0 (forL x.2 g m x.1 env0) Dn) :
    ∃ Wn : Nat → Nat → St → Hp → Prop, (∃ m, Wn 0 m σ0 H0) ∧ ∀ i k σ H, Wn i k σ H →
      (J.stop i H ∧ Dn.nx σ H) ∨ (J.go i H ∧ ∃ N : St → Hp → Prop, (∀ σ' H', N σ' H' → ∃ m', m' < k ∧ Wn (i + 1) m' σ' H') ∧ ∀ v H', J.yld i H v H' → exG is B.K B.mg B.kp g v σ H' fun σ2 H2 => exS B.K B.mg B.kp W m { Dn with nx := N, ct := N, bk := Dn.nx } σ2 H2) := by
  obtain ⟨w0, hJ⟩ := wk
  refine ⟨fun i k σ1 H1 => ∃ env1, Rel B σ1 env1 H1 ∧ Ext σ0 env0 H0 σ1 env1 H1 ∧ PostS B W σ1 env1 H1 (forL x.2 g m (x.1.drop i) env1) Dn ∧ k + i = x.1.length, ⟨x.1.length, env0, rel0, Ext.refl, q, rfl⟩, ?_⟩
  rintro i k σ1 H1 ⟨env1, rel1, ext1, post1, hk⟩
  have look : x.2.ok env1 → (J.stop x.1.length H1) ∧ ∀ i d, x.1[i]? = some d → J.go i H1 ∧ ∀ v H', J.yld i H1 v H' → Grow H1 H' ∧ Rep B.K B.mg H' (Zall B.z σ1 env1) d v := fun wo => by
    refine hJ B.z B.p σ1 env1 H1 rel1 (Gr.all ext1) fun i o c e => ?_
    have := hw i o c e
    subst this
    rw [e] at w0 wo
    obtain ⟨a, a1, _, _, a4⟩ := rel0.chg i false c w0
    obtain ⟨b, b1, _, _, b4⟩ := rel1.chg i false c wo
    have e1 : B.p i = some a := a4 rfl
    have e2 : B.p i = some b := b4 rfl
    rw [e1] at e2
    have : a = b := Option.some.inj e2
    subst this
    exact ⟨false, wo, b1.trans a1.symm⟩
  cases k with
  | zero =>
    have hi : i = x.1.length := by omega
    subst hi
    rw [List.drop_length] at post1
    have post1 : PostS B W σ1 env1 H1 (if x.2.ok env1 then .nx env1 else .bad) Dn := post1
    split at post1
    · rename_i wo
      exact .inl ⟨(look wo).1, post1 σ1 H1 rel1 Ext.refl⟩
    · exact False.elim post1
  | succ k =>
    have hi : i < x.1.length := by omega
    have hd : x.1[i]? = some x.1[i] := List.getElem?_eq_getElem hi
    rw [List.drop_eq_getElem_cons hi] at post1
    have post1 : PostS B W σ1 env1 H1 (if x.2.ok env1 then (match g x.1[i] env1 with
      | none => .bad
      | some e => match m e with
        | .nx e => forL x.2 g m (x.1.drop (i + 1)) e
        | .ct e => forL x.2 g m (x.1.drop (i + 1)) e
        | .bk e => .nx e
        | r => r) else .bad) Dn := post1
    split at post1
    · rename_i wo
      obtain ⟨go, yl⟩ := (look wo).2 i x.1[i] hd
      refine .inr ⟨go, fun σ' H' => ∃ env', Rel B σ' env' H' ∧ Ext σ0 env0 H0 σ' env' H' ∧ PostS B W σ' env' H' (forL x.2 g m (x.1.drop (i + 1)) env') Dn, fun σ' H' ⟨env', a, b, c⟩ => ⟨k, Nat.lt_succ_self k, env', a, b, c, by omega⟩, fun v H' hy => ?_⟩
      obtain ⟨gr, rep⟩ := yl v H' hy
      cases eg : g x.1[i] env1 with
      | none => rw [eg] at post1; exact False.elim post1
      | some e2 =>
        rw [eg] at post1
        refine ⟨B.z, B.p, env1, x.1[i], e2, rel1.grow gr, rep, eg, fun σ2 rel2 ext2 _ => ⟨B.z, B.p, e2, rel2, ?_⟩⟩
        have x2 : Ext σ1 env1 H1 σ2 e2 H' := (gr.ext (σ := σ1) (env := env1)).trans ext2
        have post2 : PostS B W σ2 e2 H' (match m e2 with
          | .nx e => forL x.2 g m (x.1.drop (i + 1)) e
          | .ct e => forL x.2 g m (x.1.drop (i + 1)) e
          | .bk e => .nx e
          | r => r) Dn := PostS.from x2 post1
        cases eb : m e2 with
        | nx e3 => rw [eb] at post2; exact fun σ' H' rel' ext' => ⟨e3, rel', (ext1.trans x2).trans ext', PostS.from ext' post2⟩
        | ct e3 => rw [eb] at post2; exact fun σ' H' rel' ext' => ⟨e3, rel', (ext1.trans x2).trans ext', PostS.from ext' post2⟩
        | bk e3 => rw [eb] at post2; exact post2
        | ret d e3 => rw [eb] at post2; exact post2
        | rnew d e3 => rw [eb] at post2; exact post2
        | exc x fs e3 => rw [eb] at post2; exact post2
        | bad => rw [eb] at post2; exact post2
    · exact False.elim post1
/-- an own object lent to a loop -/
def Bd.lend (B : Bd) (i : Nat) (a : Addr) : Bd := { B with z := fun b => B.z b ∨ b = a, p := fun j => if j = i then some a else B.p j }
theorem Rel.lent {B : Bd} {σ : St} {env : Env'} {H : Hp} {i : Nat} {c : Cell} {a : Addr} (r : Rel B σ env H) (hi : env[i]? = some (.cel true c)) (ha : σ[i]? = some (some (.ref a))) :
    Rel (B.lend i a) σ (env.set i (.cel false c)) H ∧ ¬ B.z a ∧ Zall (B.lend i a).z σ (env.set i (.cel false c)) = Zall B.z σ env ∧ (∀ x, Zof σ (env.set i (.cel false c)) x ↔ Zof σ env x) := by
  have hil : i < env.length := (List.getElem?_eq_some_iff.mp hi).1
  obtain ⟨a', ha', ca, w1, _⟩ := r.chg i true c hi
  have : V.ref a' = .ref a := some_some ha' ha
  injection this with this
  subst this
  have zz : ∀ x, Zof σ (env.set i (.cel false c)) x ↔ Zof σ env x := fun x => by
    constructor
    · rintro ⟨j, u, k, e1, e2⟩
      rcases set_get e1 with ⟨rfl, _, _⟩ | ⟨ne, e1⟩
      · exact ⟨j, true, c, hi, e2⟩
      · exact ⟨j, u, k, e1, e2⟩
    · rintro ⟨j, u, k, e1, e2⟩
      by_cases e : j = i
      · subst e
        exact ⟨j, false, c, by rw [List.getElem?_set_self hil], e2⟩
      · exact ⟨j, u, k, by rw [get_set_ne e]; exact e1, e2⟩
  have zy : Zall (B.lend i a').z σ (env.set i (.cel false c)) = Zall B.z σ env := by
    funext x
    unfold Zall
    rw [propext (zz x)]
    refine propext ⟨fun h => ?_, fun h => ?_⟩
    · rcases h with (h | h) | h
      · exact .inl h
      · subst h; exact .inr ⟨i, true, c, hi, ha⟩
      · exact .inr h
    · rcases h with h | h
      · exact .inl (.inl h)
      · exact .inr h
  refine ⟨⟨by simpa using r.len, fun j e h => ?_, fun j o k h => ?_, fun j k o o' x x' b h1 h2 h3 h4 => ?_, fun b q => ?_, fun j b q => ?_, r.kp⟩, w1 rfl, zy, zz⟩
  · rcases set_get h with ⟨rfl, q', hl⟩ | ⟨ne, h⟩
    · cases q'
    · obtain ⟨w, h1, h2⟩ := r.val j e h
      exact ⟨w, h1, by show Rep _ _ _ (Zall (B.lend i a').z _ _) _ _; rw [zy]; exact h2⟩
  · rcases set_get h with ⟨rfl, q', _⟩ | ⟨ne, h⟩
    · cases q'
      exact ⟨a', ha, by rw [zy]; exact ca, fun q => (by cases q), fun _ => by show (if j = j then some a' else _) = _; rw [if_pos rfl]⟩
    · obtain ⟨b, h1, h2, h3, h4⟩ := r.chg j o k h
      have nb : b ≠ a' := fun q => by subst q; exact ne (r.dist j i o true k c b h hi h1 ha)
      refine ⟨b, h1, by rw [zy]; exact h2, fun q z => ?_, fun q => ?_⟩
      · rcases z with z | z
        · exact h3 q z
        · exact nb z
      · show (if j = i then some a' else B.p j) = _
        rw [if_neg ne]
        exact h4 q
  · have h1' : ∃ u k, env[j]? = some (.cel u k) := by
      rcases set_get h1 with ⟨rfl, _, _⟩ | ⟨_, h1⟩
      · exact ⟨_, _, hi⟩
      · exact ⟨_, _, h1⟩
    have h2' : ∃ u x, env[k]? = some (.cel u x) := by
      rcases set_get h2 with ⟨rfl, _, _⟩ | ⟨_, h2⟩
      · exact ⟨_, _, hi⟩
      · exact ⟨_, _, h2⟩
    obtain ⟨u1, k1, h1'⟩ := h1'
    obtain ⟨u2, k2, h2'⟩ := h2'
    exact r.dist j k u1 u2 k1 k2 b h1' h2' h3 h4
  · rcases q with q | q
    · exact r.z0 b q
    · subst q; exact ca.there
  · have q : (if j = i then some a' else B.p j) = some b := q
    split at q
    · exact .inr (Option.some.inj q).symm
    · exact .inl (r.pz j b q)
theorem Rel.unlent {B : Bd} {σ : St} {env : Env'} {H : Hp} {i : Nat} {a : Addr} (hp : ∀ j b, B.p j = some b → B.z b) (na : ¬ B.z a) (r : Rel (B.lend i a) σ env H) :
    Rel B σ (unlend i env) H ∧ (∀ x, Zof σ (unlend i env) x ↔ Zof σ env x) := by
  have zz : ∀ x, Zof σ (unlend i env) x ↔ Zof σ env x := fun x => by
    unfold unlend
    split
    · rename_i c hi
      have hil : i < env.length := (List.getElem?_eq_some_iff.mp hi).1
      constructor
      · rintro ⟨j, u, k, e1, e2⟩
        rcases set_get e1 with ⟨rfl, _, _⟩ | ⟨ne, e1⟩
        · exact ⟨j, false, c, hi, e2⟩
        · exact ⟨j, u, k, e1, e2⟩
      · rintro ⟨j, u, k, e1, e2⟩
        by_cases e : j = i
        · subst e
          exact ⟨j, true, c, by rw [List.getElem?_set_self hil], e2⟩
        · exact ⟨j, u, k, by rw [get_set_ne e]; exact e1, e2⟩
    · exact Iff.rfl
  have g : Gr H (Zall (B.lend i a).z σ env) H (Zall B.z σ (unlend i env)) := Gr.sub fun x h => by
    rcases h with h | h
    · exact .inl (.inl h)
    · exact .inr ((zz x).mp h)
  -- the slots as they were
  have old : ∀ {j : Nat} {s : Slot}, (unlend i env)[j]? = some s → (env[j]? = some s ∧ (j = i → ∀ c, s ≠ .cel false c)) ∨ (j = i ∧ ∃ c, s = .cel true c ∧ env[j]? = some (.cel false c)) := fun {j s} h => by
    unfold unlend at h
    split at h
    · rename_i c hi
      rcases set_get h with ⟨rfl, q, _⟩ | ⟨ne, h⟩
      · exact .inr ⟨rfl, c, q, hi⟩
      · exact .inl ⟨h, fun q => absurd q ne⟩
    · rename_i hn
      exact .inl ⟨h, fun q c q2 => by subst q; subst q2; exact hn c h⟩
  refine ⟨⟨?_, fun j e h => ?_, fun j o k h => ?_, fun j k o o' x x' b h1 h2 h3 h4 => ?_, fun b q => r.z0 b (.inl q), hp, r.kp⟩, zz⟩
  · rw [← r.len]
    unfold unlend
    split <;> simp
  · rcases old h with ⟨h, _⟩ | ⟨_, c, q, _⟩
    · obtain ⟨w, h1, h2⟩ := r.val j e h
      exact ⟨w, h1, Rep.mono g h2⟩
    · cases q
  · rcases old h with ⟨h, hq⟩ | ⟨rfl, c, q, h⟩
    · obtain ⟨b, h1, h2, h3, h4⟩ := r.chg j o k h
      refine ⟨b, h1, h2.mono g (fun _ q => q), fun q z => h3 q (.inl z), fun q => ?_⟩
      subst q
      have h4 : (if j = i then some a else B.p j) = some b := h4 rfl
      split at h4
      · rename_i e
        exact absurd rfl (hq e k)
      · exact h4
    · cases q
      obtain ⟨b, h1, h2, h3, h4⟩ := r.chg j false k h
      have h4 : (if j = j then some a else B.p j) = some b := h4 rfl
      rw [if_pos rfl] at h4
      have : a = b := Option.some.inj h4
      subst this
      exact ⟨a, h1, h2.mono g (fun _ q => q), fun _ => na, fun q => by cases q⟩
  · have h1' : ∃ u, env[j]? = some (.cel u x) := by
      rcases old h1 with ⟨h, _⟩ | ⟨_, c, q, h⟩
      · exact ⟨_, h⟩
      · cases q; exact ⟨_, h⟩
    have h2' : ∃ u, env[k]? = some (.cel u x') := by
      rcases old h2 with ⟨h, _⟩ | ⟨_, c, q, h⟩
      · exact ⟨_, h⟩
      · cases q; exact ⟨_, h⟩
    obtain ⟨u1, h1'⟩ := h1'
    obtain ⟨u2, h2'⟩ := h2'
    exact r.dist j k u1 u2 x x' b h1' h2' h3 h4
theorem PostS.lend {B : Bd} {W : WX} {σ : St} {env : Env'} {H : Hp} {i : Nat} {c : Cell} {a : Addr} {r : So} {Dn : Ends} (rel : Rel B σ env H) (hi : env[i]? = some (.cel true c)) (ha : σ[i]? = some (some (.ref a)))
    (h : PostS B W σ env H (r.map (unlend i)) Dn) : PostS (B.lend i a) W σ (env.set i (.cel false c)) H r Dn := by
  obtain ⟨r0, na, zy, z0⟩ := rel.lent hi ha
  have ext : ∀ {σ' : St} {e : Env'} {H' : Hp}, Rel (B.lend i a) σ' e H' → Ext σ (env.set i (.cel false c)) H σ' e H' → Rel B σ' (unlend i e) H' ∧ Ext σ env H σ' (unlend i e) H' ∧ Gr H' (Zall (B.lend i a).z σ' e) H' (Zall B.z σ' (unlend i e)) := fun {σ' e H'} r' x => by
    obtain ⟨r2, zz⟩ := Rel.unlent rel.pz na r'
    refine ⟨r2, fun b o hb n => ?_, Gr.sub fun x h => ?_⟩
    · have n' : ¬ Zof σ (env.set i (.cel false c)) b ∨ ¬ isMutO o := by
        rcases n with n | n
        · exact .inl fun q => n ((z0 b).mp q)
        · exact .inr n
      obtain ⟨h1, h2⟩ := x b o hb n'
      exact ⟨h1, fun m q => h2 (fun q' => m ((z0 b).mp q')) ((zz b).mp q)⟩
    · rcases h with h | h
      · exact .inl (.inl h)
      · exact .inr ((zz x).mp h)
  cases r with
  | nx e => exact fun σ' H' r' x => h σ' H' (ext r' x).1 (ext r' x).2.1
  | bk e => exact fun σ' H' r' x => h σ' H' (ext r' x).1 (ext r' x).2.1
  | ct e => exact fun σ' H' r' x => h σ' H' (ext r' x).1 (ext r' x).2.1
  | ret d e => exact fun v σ' H' r' x q => h v σ' H' (ext r' x).1 (ext r' x).2.1 (Rep.mono (ext r' x).2.2 q)
  | rnew k e => exact fun p σ' H' fr r' nz nf x q => (by
      have bdEq : (B.lend i a).add p = (B.add p).lend i a := by
        unfold Bd.lend Bd.add
        simp only
        congr 1
        funext b
        exact propext ⟨fun h => by rcases h with (h | h) | h; exact .inl (.inl h); exact .inr h; exact .inl (.inr h), fun h => by rcases h with (h | h) | h; exact .inl (.inl h); exact .inr h; exact .inl (.inr h)⟩
      rw [bdEq] at r' q
      have np : a ≠ p := fun e => nz (.inr e.symm)
      have nz' : ¬ B.z p := fun z => nz (.inl z)
      obtain ⟨r2, zz⟩ := Rel.unlent (B := B.add p) (fun j b e => .inl (rel.pz j b e)) (fun z => by rcases z with z | z; exact na z; exact np z) r'
      refine h p σ' H' (fun o e => (z0 p).mp (fr o e)) r2 nz' (fun z => nf ((zz p).mp z)) (fun b o hb n => ?_) (q.mono (Gr.sub fun x h => ?_) (fun _ e => e))
      · have n' : ¬ Zof σ (env.set i (.cel false c)) b ∨ ¬ isMutO o := by
          rcases n with n | n
          · exact .inl fun q => n ((z0 b).mp q)
          · exact .inr n
        obtain ⟨h1, h2⟩ := x b o hb n'
        exact ⟨h1, fun m q => h2 (fun q' => m ((z0 b).mp q')) ((zz b).mp q)⟩
      · rcases h with h | h
        · exact .inl (.inl h)
        · exact .inr ((zz x).mp h))
  | exc k fs e => exact fun cls od σ' H' r' x q => h cls od σ' H' (ext r' x).1 (ext r' x).2.1 ⟨q.1, by
      rcases q.2 with q2 | ⟨d, fvs, q1, q2, q3⟩
      · exact .inl q2
      · exact .inr ⟨d, fvs, q1, q2, q3.mono (ext r' x).2.2⟩⟩
  | bad => exact h
theorem mst_for {tg iter : Expr} {body : List Stmt} {mi : M Src} {is : List Nat} {g : MG} {m : MS} (hp : PassesOwn (model X.prog X.w) X.A X.env X.xe) (hc : X.calm = true) (hi : MI X G tg iter mi) (hg : ∀ z p, MTg X ⟨z, p, G.W, G.kp, G.ex⟩ tg is g) (hb : ∀ z p, MSs X ⟨z, p, G.W, G.kp, G.ex⟩ body m)
    (hs : ∀ x, foldedSetIterable iter X.env x = pure x := by intro _; rfl) : MSt X G (.For tg iter body [] pos) (mFor mi g m) := by
  have base := ps_for (pos := pos) hp hc hi (g := exG is X.K (mw X G) G.kp g) (tb := exS X.K (mw X G) G.kp G.W m)
    ⟨fun pins s σ H v u Q I r ⟨z, p, q⟩ => (hg z p).run pins s σ H v u Q I r q⟩ ⟨fun pins s σ H Q I ⟨z, p, q⟩ => (hb z p).run pins s σ H Q I q⟩ hs
  refine PSimp base fun Dn σ H ⟨env, rel, post⟩ => ⟨env, rel, post.so.imp fun x env0 H0 rel0 ext0 q J hJ => ?_⟩
  by_cases lent : ∃ i c, x.2 = some (i, true, c)
  · obtain ⟨i, c, hx⟩ := lent
    have ok := hJ.1
    rw [hx] at ok
    have ok : env0[i]? = some (.cel true c) := ok
    obtain ⟨a, ha, ca, _, _⟩ := rel0.chg i true c ok
    have q : PostS (bd X G) G.W σ env0 H0 ((forL (some (i, false, c)) g m x.1 (env0.set i (.cel false c))).map (unlend i)) Dn := by
      have q : PostS (bd X G) G.W σ env0 H0 (match x.2 with
        | some (i, true, c) => (forL (some (i, false, c)) g m x.1 (env0.set i (.cel false c))).map (unlend i)
        | _ => forL x.2 g m x.1 env0) Dn := q
      rw [hx] at q
      exact q
    obtain ⟨r0, na, zy, zz⟩ := rel0.lent ok ha
    have hil : i < env0.length := (List.getElem?_eq_some_iff.mp ok).1
    refine for_core (B := (bd X G).lend i a) (x := (x.1, some (i, false, c))) (fun j o k e => ?_) ⟨?_, fun z p σ1 env1 H1 rel1 g1 w1 => ?_⟩ r0 (PostS.lend rel0 ok ha q)
    · cases e; rfl
    · show (env0.set i (.cel false c))[i]? = _
      rw [List.getElem?_set_self hil]
    · refine hJ.2 z p σ1 env1 H1 rel1 (by rw [zy] at g1; exact g1) fun j o k e => ?_
      rw [hx] at e
      cases e
      exact w1 i false c rfl
  · have q : PostS (bd X G) G.W σ env0 H0 (forL x.2 g m x.1 env0) Dn := by
      have q : PostS (bd X G) G.W σ env0 H0 (match x.2 with
        | some (i, true, c) => (forL (some (i, false, c)) g m x.1 (env0.set i (.cel false c))).map (unlend i)
        | _ => forL x.2 g m x.1 env0) Dn := q
      split at q
      · rename_i i c hx
        exact absurd ⟨i, c, hx⟩ lent
      · exact q
    exact for_core (fun i o c e => by
      cases o with
      | false => rfl
      | true => exact absurd ⟨i, c, e⟩ lent) hJ rel0 q
end
end Mi
namespace Mi
open PySem PySem.Spec L2
open PyProof.Rows hiding St

/-! ### new objects -/
def PostF (B : Bd) (W : WX) (σ : St) (env : Env') (H : Hp) (r : R Cell) (k : Addr → Hp → Prop) : Prop := match r with
  | .ok c env' => ∀ p H', (∀ o, H p = some o → Zof σ env p) → Rel (B.add p) σ env' H' → ¬ B.z p → ¬ Zof σ env' p → Ext σ env H σ env' H' → CellAt B.K B.mg H' (Zall (B.add p).z σ env') p c → k p H'
  | .exc c fs env' => ∀ cls od H', Rel B σ env' H' → Ext σ env H σ env' H' → ExcAt B.K B.mg H' (Zall B.z σ env') c fs cls od → W cls od σ H'
  | .bad => False
def liftF (B : Bd) (W : WX) (m : M Cell) : TE := fun σ H Q => ∃ env, Rel B σ env H ∧ PostF B W σ env H (m env) fun p H' => Q (.ref p) H'
abbrev MF (X : Cx) (G : Gd) (e : Expr) (m : M Cell) : Prop := PE X e (liftF (bd X G) G.W m)
def mFr (m : M Cell) : M D := fun env => (m env).bind fun c env => .ok c.frz env
def mAsgNew (i : Nat) (m : M Cell) : MS := fun env => (m env).so fun c env => if i < env.length then .nx (env.set i (.cel true c)) else .bad
theorem CellAt.rep {K : PySem.W.Frag} {mg : Mw} {H : Hp} {Z Z' : Addr → Prop} {p : Addr} {c : Cell} (h : CellAt K mg H Z p c) (nd : isDct c = false) (n : ¬ Z' p) (g : Gr H Z H Z') : Rep K mg H Z' c.frz (.ref p) := by
  cases h with
  | lst h q => exact .lst (.inl ⟨n, .inl h⟩) (q.mono g)
  | dct h q => cases nd
  | ins m h q => exact .ins n m h (q.mono g)
theorem add_gr {B : Bd} {σ : St} {env : Env'} {H : Hp} {p : Addr} : Gr H (Zall (B.add p).z σ env) H (Zall B.z σ env) := Gr.sub fun a q => by
  rcases q with q | q
  · exact .inl (.inl q)
  · exact .inr q
/-- a new object at p becomes a value -/
theorem Rel.frzNew {B : Bd} {σ : St} {env : Env'} {H H' : Hp} {p : Addr} (hp : ∀ i a, B.p i = some a → B.z a) (r : Rel (B.add p) σ env H) (nz : ¬ B.z p) (nf : ¬ Zof σ env p) {o : HO} (h0 : H p = some o) (m0 : isMutO o) (hk : ∀ b u, b ≠ p → H b = some u → H' b = some u) :
    Rel B σ env H' ∧ Gr H (Zall (B.add p).z σ env) H' (Zall B.z σ env) := by
  have g : Gr H (Zall (B.add p).z σ env) H' (Zall B.z σ env) := fun b u e n => by
    have ne : b ≠ p := fun q => by
      subst q
      rcases n with n | n
      · exact n (.inl (.inr rfl))
      · rw [h0] at e; cases e; exact n m0
    refine ⟨hk b u ne e, fun m q => m ?_⟩
    rcases q with q | q
    · exact .inl (.inl q)
    · exact .inr q
  refine ⟨⟨r.len, fun j e h => ?_, fun j o k h => ?_, r.dist, fun b q => ?_, hp, fun a o e => g.kp (r.kp a o e)⟩, g⟩
  · obtain ⟨w, h1, h2⟩ := r.val j e h
    exact ⟨w, h1, Rep.mono g h2⟩
  · obtain ⟨b, h1, h2, h3, h4⟩ := r.chg j o k h
    have nb : b ≠ p := fun q => by subst q; exact nf ⟨j, o, k, h, h1⟩
    exact ⟨b, h1, h2.mono g (fun u e => hk b u nb e), fun z q => h3 z (.inl q), h4⟩
  · obtain ⟨u, e, m⟩ := r.z0 b (.inl q)
    exact ⟨u, hk b u (fun z => by subst z; exact nz q) e, m⟩
theorem fr_lift {B : Bd} {W : WX} {m : M Cell} {σ : St} {H : Hp} {Q : VK} (h : liftE B W (mFr m) σ H Q) : liftF B W m σ H fun v H' => (∃ d kws, H' d = some (.dK kws) ∧ ∀ od, Q v (upd H' d (.frz od (.dK kws)))) ∨ Q v H' := by
  obtain ⟨env, rel, post⟩ := h
  refine ⟨env, rel, ?_⟩
  have post : Post B W σ env H ((m env).bind fun c env => .ok c.frz env) _ := post
  cases e : m env with
  | ok c env' =>
    rw [e] at post
    intro p H' fr r' nz nf ext ca
    have np : ¬ Zall B.z σ env' p := fun q => by
      rcases q with q | q
      · exact nz q
      · exact nf q
    cases hd : isDct c with
    | false =>
      obtain ⟨o, h0, m0⟩ := ca.there
      obtain ⟨r2, g⟩ := Rel.frzNew rel.pz r' nz nf h0 m0 (fun _ _ _ e => e)
      exact .inr (post H' r2 ext (.ref p) (ca.rep hd np g))
    | true =>
      cases ca with
      | @dct kvs kws h q =>
        refine .inl ⟨p, kws, h, fun od => ?_⟩
        obtain ⟨r2, g⟩ := Rel.frzNew (H' := upd H' p (.frz od (.dK kws))) rel.pz r' nz nf h trivial (fun b u ne e => by rw [upd_ne ne]; exact e)
        refine post _ r2 (fun b u e n => ?_) (.ref p) (.dct upd_same (q.mono g))
        obtain ⟨h1, h2⟩ := ext b u e n
        refine ⟨?_, h2⟩
        by_cases eb : b = p
        · subst eb
          have zb := fr u e
          rw [h] at h1
          cases h1
          rcases n with n | n
          · exact absurd zb n
          · exact absurd trivial n
        · rw [upd_ne eb]; exact h1
      | _ => cases hd
  | exc c fs env' => rw [e] at post; exact post
  | bad => rw [e] at post; exact post
section
variable {X : Cx} {G : Gd} {e a b : Expr} {es : List Expr} {pos : Pos}
theorem me_fr {m : M Cell} (h : MF X G e m) : ME X G e (mFr m) := PEimp (pe_frz h) fun σ H Q h => fr_lift h
theorem asgNew_lift {B : Bd} {W : WX} {i : Nat} {m : M Cell} {Dn : Ends} {σ : St} {H : Hp} (h : liftS B W (mAsgNew i m) Dn σ H) : liftF B W m σ H fun x H1 => gName i x σ H1 Dn.nx := by
  obtain ⟨env, rel, post⟩ := h
  refine ⟨env, rel, ?_⟩
  have post : PostS B W σ env H ((m env).so fun c env => if i < env.length then .nx (env.set i (.cel true c)) else .bad) Dn := post
  cases e : m env with
  | ok c env' =>
    rw [e] at post
    intro p H' fr r' nz nf ext ca
    have post : PostS B W σ env H (if i < env'.length then .nx (env'.set i (.cel true c)) else .bad) Dn := post
    split at post
    · rename_i hi
      obtain ⟨r2, g⟩ := Rel.setNew rel.pz r' nz nf i hi ca
      refine post _ _ r2 ?_
      intro b o hb n
      obtain ⟨h1, h2⟩ := ext b o hb n
      refine ⟨h1, fun nz q => ?_⟩
      obtain ⟨j, u, k, e1, e2⟩ := q
      rcases set_get e1 with ⟨rfl, _, _⟩ | ⟨ne, e1⟩
      · rw [List.getElem?_set_self (by rw [← r'.len]; exact hi)] at e2
        injection e2 with e2; injection e2 with e2; injection e2 with e2
        subst e2
        exact nz (fr o hb)
      · rw [get_set_ne ne] at e2
        exact h2 nz ⟨j, u, k, e1, e2⟩
    · exact False.elim post
  | exc c fs env' => rw [e] at post; exact fun cls od H' r x q => post cls od σ H' r x q
  | bad => rw [e] at post; exact post
/-- name = a new object -/
theorem mst_setNew (i : Nat) {x : Str} {m : M Cell} {pos' : Pos} (hN : X.N.Nodup) (hi : X.N[i]? = some x) (hx : Loc X.env.scope x) (he : MF X G e m) (hs : swapsWith e (some (.Name x pos')) pos.line X.env = pure false := by rfl)
    (hf : X.fn x = true ∨ X.env.scope.names.lookup x = some .local := by first | exact .inl rfl | exact .inr rfl | assumption) : MSt X G (.Assign [.Name x pos'] e pos) (mAsgNew i m) :=
  PSimp (ps_set hN hi hx he hs hf) fun Dn σ H h => asgNew_lift h
/-- a new object is handed out -/
def mRetF (m : M Cell) : MS := fun env => (m env).so fun c env => .rnew c env
theorem mst_retF {m : M Cell} (h : MF X G e m) : MSt X G (.Return (some e) pos) (mRetF m) := by
  refine PSimp (ps_ret h) fun Dn σ H ⟨env, rel, post⟩ => ⟨env, rel, ?_⟩
  have post : PostS (bd X G) G.W σ env H ((m env).so fun c env => .rnew c env) Dn := post
  cases e : m env with
  | ok c env' => rw [e] at post; exact fun p H' fr r nz nf x q => post p σ H' fr r nz nf x q
  | exc c fs env' => rw [e] at post; exact fun cls od H' r x q => post cls od σ H' r x q
  | bad => rw [e] at post; exact post
def mLstC (m : M (List Arg)) : M Cell := fun env => (m env).bind fun as env =>
  R.opt (match owns env as with
    | some ds => if ds.length ≤ sizeLine then some (.lst ds) else none
    | none => none) env
theorem fresh_fr {B : Bd} {σ : St} {env env1 : Env'} {H H1 : Hp} {p : Addr} (x : Ext σ env H σ env1 H1) (h : H1 p = none) : ∀ o, H p = some o → Zof σ env p := fun o e => Classical.byContradiction fun n => by
  have q := (x p o e (.inl n)).1
  rw [h] at q; cases q
/-- a new object at p -/
theorem PostF.new {B : Bd} {W : WX} {σ : St} {env env1 : Env'} {H H1 : Hp} {c : Cell} {k : Addr → Hp → Prop} {p : Addr} {o : HO} (x : Ext σ env H σ env1 H1) (rel : Rel B σ env1 H1) (hp : H1 p = none) (m : isMutO o)
    (ca : CellAt B.K B.mg (upd H1 p o) (Zall (B.add p).z σ env1) p c) (h : PostF B W σ env H (.ok c env1) k) : k p (upd H1 p o) :=
  h p _ (fresh_fr (B := B) x hp) (rel.addNew hp m) (fun z => rel.free hp (.inl z)) (fun z => rel.free hp (.inr z)) (x.trans ((Grow.upd hp).gr _)) ca
theorem PostF.seq {B : Bd} {W : WX} {σ : St} {env : Env'} {H : Hp} {α : Type} {r : R α} {f : α → Env' → R Cell} {k : Addr → Hp → Prop} (h : PostF B W σ env H (r.bind f) k) : Post B W σ env H r fun x env1 H1 => PostF B W σ env H (f x env1) k := by
  cases r with
  | ok a e => exact fun H' rel ext => h
  | exc c fs e => exact h
  | bad => exact h
theorem addRep {B : Bd} {σ : St} {env1 : Env'} {H1 : Hp} {p : Addr} {o : HO} (hp : H1 p = none) : Gr H1 (Zall B.z σ env1) (upd H1 p o) (Zall (B.add p).z σ env1) := fun a u e _ => by
  have ne := ne_of_none e hp
  refine ⟨by rw [upd_ne ne]; exact e, fun n q => ?_⟩
  rcases q with (q | q) | q
  · exact n (.inl q)
  · exact ne q
  · exact n (.inr q)
theorem mf_lst {m : M (List Arg)} (h : MA X G es m) : MF X G (.List es pos) (mLstC m) := by
  refine PEimp (pe_lst h) fun σ H Q ⟨env, rel, post⟩ => ⟨env, rel, post.seq.imp fun as env1 H1 rel1 ext1 q vs hv => ?_⟩
  cases ea : owns env1 as with
  | none => rw [ea] at q; exact False.elim q
  | some ds =>
    rw [ea] at q
    have q : PostF (bd X G) G.W σ env H (R.opt (if ds.length ≤ sizeLine then some (.lst ds) else none) env1) _ := q
    split at q
    · rename_i hz
      have hr := rel1.owns hv ea
      refine ⟨by rw [← hr.length]; exact hz, fun p hp => ?_⟩
      exact PostF.new (o := .lst vs) ext1 rel1 hp trivial (.lst upd_same (hr.mono (addRep hp))) q
    · exact False.elim q

/-! ### a changing object is changed -/
def Cell.ty : Cell → String
  | .lst _ => "list"
  | .dct _ => "dict"
  | .ins _ _ => "object"
def mMut (T : String) (f : Cell → List D → Option (D × Cell)) (i : Nat) (m : M (List Arg)) : M D := fun env => match env[i]? with
  | some (.cel _ c0) => if c0.ty = T then (m env).bind fun as env =>
      match owns env as, env[i]? with
      | some ds, some (.cel o c) => match f c ds with
        | some (d, c') => .ok d (env.set i (.cel o c'))
        | none => .bad
      | _, _ => .bad
    else .bad
  | _ => .bad
def rMut (K : PySem.W.Frag) (mg : Mw) (f : Cell → List D → Option (D × Cell)) : V → List V → Hp → VK → Prop := fun x xs H Q => ∃ Z a c ds d c', x = .ref a ∧ CellAt K mg H Z a c ∧ Live H Z ∧ Z a ∧ Reps K mg H Z ds xs ∧ f c ds = some (d, c') ∧
  ∀ v ho, CellAt K mg (upd H a ho) Z a c' → Rep K mg (upd H a ho) Z d v → Q v (upd H a ho)
theorem mut_lift {B : Bd} {W : WX} {T : String} {f : Cell → List D → Option (D × Cell)} {i : Nat} {m : M (List Arg)} {σ : St} {H : Hp} {Q : VK} (hT : T = "list" ∨ T = "dict") (h : liftE B W (mMut T f i m) σ H Q) :
    ∃ v, σ[i]? = some (some v) ∧ tyV B.K T v H ∧ liftA B W m σ H fun xs H1 => rMut B.K B.mg f v xs H1 Q := by
  obtain ⟨env, rel, post⟩ := h
  unfold mMut at post
  split at post
  · rename_i o0 c0 e0
    split at post
    · rename_i hty
      obtain ⟨a, ha, ca, _, _⟩ := rel.chg i _ _ e0
      refine ⟨.ref a, ha, ?_, env, rel, ?_⟩
      · cases ca with
        | lst h r => subst hty; exact .inl ⟨rfl, _, SqL.of h⟩
        | dct h r => subst hty; exact .inr (.inr (.inl ⟨rfl, .inl ⟨_, h⟩⟩))
        | ins m h r =>
          subst hty
          rcases hT with z | z
          · exact absurd z (show ¬ ("object" : String) = "list" by decide)
          · exact absurd z (show ¬ ("object" : String) = "dict" by decide)
      refine post.seq.imp fun as env1 H1 rel1 ext1 q vs hvs => ?_
      cases ea : owns env1 as with
      | none => rw [ea] at q; exact False.elim q
      | some ds =>
        rw [ea] at q
        cases ei : env1[i]? with
        | none => rw [ei] at q; exact False.elim q
        | some s =>
          rw [ei] at q
          cases s with
          | emp => exact False.elim q
          | val d => exact False.elim q
          | cel o c =>
            have q : Post B W σ env1 H1 (match f c ds with
              | some (d, c') => R.ok d (env1.set i (.cel o c'))
              | none => .bad) _ := q
            cases ef : f c ds with
            | none => rw [ef] at q; exact False.elim q
            | some dc =>
              obtain ⟨d, c'⟩ := dc
              rw [ef] at q
              obtain ⟨a', ha', ca', _, _⟩ := rel1.chg i o c ei
              have ev : V.ref a = .ref a' := some_some ha ha'
              injection ev with ev
              subst ev
              refine ⟨_, a, c, ds, d, c', rfl, ca', rel1.liveZ, .inr ⟨i, o, c, ei, ha⟩, rel1.owns hvs ea, ef, fun w ho cn rn => ?_⟩
              obtain ⟨r2, x2, zz⟩ := rel1.put ei ha cn
              refine q _ r2 x2 w ?_
              have : Zall B.z σ (env1.set i (.cel o c')) = Zall B.z σ env1 := by
                funext x
                unfold Zall
                rw [propext (zz x)]
              show Rep _ _ _ (Zall B.z σ (env1.set i (.cel o c'))) _ _
              rw [this]
              exact rn
    · exact False.elim post
  · exact False.elim post
/-- o.m(e, ..) of a builtin type, o a slot's own object -/
theorem me_mut {T : String} {f : Cell → List D → Option (D × Cell)} {i : Nat} {m : M (List Arg)} {r : V → List V → Hp → VK → Prop} (hT : T = "list" ∨ T = "dict") (h : PE X e (tBM X.K T r (tVar i) (liftA (bd X G) G.W m)))
    (hr : ∀ x xs H Q, rMut X.K (mw X G) f x xs H Q → r x xs H Q) : ME X G e (mMut T f i m) := PEimp h fun σ H Q q => by
  obtain ⟨v, hv, ty, env, rel, post⟩ := mut_lift hT q
  exact ⟨v, hv, ty, env, rel, post.imp fun as env1 H1 _ _ k vs hvs => hr _ _ _ _ (k vs hvs)⟩
theorem me_mut0 {T : String} {f : Cell → List D → Option (D × Cell)} {i : Nat} {r : V → List V → Hp → VK → Prop} (hT : T = "list" ∨ T = "dict") (h : PE X e (tBM0 X.K T r (tVar i)))
    (hr : ∀ x xs H Q, rMut X.K (mw X G) f x xs H Q → r x xs H Q) : ME X G e (mMut T f i mNil) := PEimp h fun σ H Q q => by
  obtain ⟨v, hv, ty, env, rel, post⟩ := mut_lift hT q
  exact ⟨v, hv, ty, hr _ _ _ _ (Post.ok rel post [] .nil)⟩
/-- a[i] = e, a a slot's own object -/
def mSet (f : Cell → D → D → Option Cell) (i : Nat) (mk me : M D) : MS := fun env => (me env).so fun d env => (mNm i env).so fun _ env => (mk env).so fun k env =>
  match env[i]? with
  | some (.cel o c) => match f c k d with
    | some c' => .nx (env.set i (.cel o c'))
    | none => .bad
  | _ => .bad
def rSet (K : PySem.W.Frag) (mg : Mw) (f : Cell → D → D → Option Cell) : TSet := fun x k v H Q => ∃ Z a c dk d c', x = .ref a ∧ CellAt K mg H Z a c ∧ Live H Z ∧ Z a ∧ Rep K mg H Z dk k ∧ Rep K mg H Z d v ∧ f c dk d = some c' ∧
  ∀ ho, CellAt K mg (upd H a ho) Z a c' → Q (upd H a ho)
theorem mst_setItem {f : Cell → D → D → Option Cell} {i : Nat} {o k : Expr} {mk me : M D} {t : TSet} {spos : Pos} (hs : PSet X t) (ho : PE X o (tVar i)) (hk : ME X G k mk) (he : ME X G e me) (hr : ∀ x k v H Q, rSet X.K (mw X G) f x k v H Q → t x k v H Q)
    (ha : ∀ v, assign (.Subscript o k spos) X.env v = (do
      let ov ← holding [v] (eval o X.env)
      let iv ← holding [v, ov] (eval k X.env)
      standAt spos
      holding [v, ov, iv] (setItem ov iv v)
      release [v, ov, iv] []) := by intro _; rfl) (h1 : swapsWithSole [Expr.Subscript o k spos] e pos.line X.env = pure false := by rfl) (hw : swappedStores [Expr.Subscript o k spos] e X.env = pure none := by rfl)
    (h2 : (assignEach [Expr.Subscript o k spos] X.env).map (·.2) = [assign (Expr.Subscript o k spos) X.env] := by rfl) : MSt X G (.Assign [.Subscript o k spos] e pos) (mSet f i mk me) := by
  refine PSimp (ps_asg he (pg_sub ho hk hs ha) h1 hw h2) fun Dn σ H ⟨env, rel, post⟩ => ?_
  refine ⟨env, rel, post.so.imp fun d env1 H1 rel1 ext1 q v hv => ?_⟩
  have q : PostS (bd X G) G.W σ env1 H1 ((mNm i env1).so fun _ env => (mk env).so fun k env => match env[i]? with
    | some (.cel o c) => match f c k d with
      | some c' => .nx (env.set i (.cel o c'))
      | none => .bad
    | _ => .bad) Dn := q
  have q := q.so
  obtain ⟨d0, hd0, q0⟩ := Post.opt rel1 q.seq
  obtain ⟨w, hw⟩ := slotD_some rel1 hd0
  have q0 := Post.ok rel1 q0
  refine ⟨w, hw, env1, rel1, q0.so.imp fun dk env2 H2 rel2 ext2 q2 kv hkv => ?_⟩
  split at q2
  · rename_i o c ei
    split at q2
    · rename_i c' ef
      obtain ⟨a, hla, ca, _, _⟩ := rel2.chg i o c ei
      have ev : w = .ref a := some_some hw hla
      refine hr _ _ _ _ _ ⟨_, a, c, dk, d, c', ev, ca, rel2.liveZ, .inr ⟨i, o, c, ei, hla⟩, hkv, RepE.mono ext2 hv, ef, fun ho cn => ?_⟩
      obtain ⟨r2, x2, zz⟩ := rel2.put ei hla cn
      exact q2 _ _ r2 x2
    · exact False.elim q2
  · exact False.elim q2
end
end Mi
namespace Mi
open PySem PySem.Spec L2
open PyProof.Rows hiding St

/-! ### defs: by their parameters' slots -/
inductive Fo where
  | ret (d : D) (cs : Env') | new (c : Cell) (cs : Env') | exc (c : Str) (fs : List (Str × D)) (cs : Env') | bad
abbrev Fn := Env' → Fo
/-- what a def is worth, as a promise -/
def spOf (K : PySem.W.Frag) (mg : Mw) (F : Fn) : Sp := fun vs H Q E => ∃ (z : Addr → Prop) (p : Nat → Option Addr) (ss : Env'), Rel ⟨K, mg, z, p, noK⟩ (vs.map some) ss H ∧ (∀ (i : Nat) c, ss[i]? ≠ some (.cel true c)) ∧
  match F ss with
  | .ret d cs => ∀ v H', Rel ⟨K, mg, z, p, noK⟩ (vs.map some) cs H' → Ext (vs.map some) ss H (vs.map some) cs H' → Rep K mg H' z d v → Q v H'
  | .new c cs => ∀ q H', H q = none → Rel ⟨K, mg, fun b => z b ∨ b = q, p, noK⟩ (vs.map some) cs H' → Ext (vs.map some) ss H (vs.map some) cs H' → CellAt K mg H' (fun b => z b ∨ b = q) q c → Q (.ref q) H'
  | .exc c fs cs => ∀ cls od H', Rel ⟨K, mg, z, p, noK⟩ (vs.map some) cs H' → Ext (vs.map some) ss H (vs.map some) cs H' → ExcAt K mg H' z c fs cls od → E cls od H'
  | .bad => False
/-- the parameters' slots behind the body -/
def finS : Env' → Env' → Option Env'
  | [], _ => some []
  | .val d :: ss, _ :: es => (finS ss es).map (.val d :: ·)
  | .cel _ _ :: ss, .cel false c :: es => (finS ss es).map (.cel false c :: ·)
  | _, _ => none
/-- a def of n parameters and N names -/
def mkFn (n N : Nat) (m : MS) : Fn := fun ss => if ss.length = n then (match m (ss ++ List.replicate (N - n) .emp) with
    | .ret d e => (match finS ss e with
      | some cs => .ret d cs
      | none => .bad)
    | .rnew c e => (match finS ss e with
      | some cs => .new c cs
      | none => .bad)
    | .nx e => (match finS ss e with
      | some cs => .ret .non cs
      | none => .bad)
    | .exc c fs e => (match finS ss e with
      | some cs => .exc c fs cs
      | none => .bad)
    | _ => .bad) else .bad
theorem finS_get : ∀ {ss es cs : Env'}, finS ss es = some cs → cs.length = ss.length ∧ ∀ (i : Nat) (s : Slot), cs[i]? = some s → (∃ d, s = .val d ∧ ss[i]? = some (.val d)) ∨ (∃ o c c', s = .cel false c' ∧ ss[i]? = some (.cel o c) ∧ es[i]? = some (.cel false c'))
  | [], es, cs, h => by
    have : cs = [] := by cases es <;> (unfold finS at h; exact (Option.some.inj h).symm)
    subst this
    exact ⟨rfl, fun i s e => by simp at e⟩
  | .emp :: ss, es, cs, h => by cases es <;> (unfold finS at h; cases h)
  | .val d :: ss, [], cs, h => by unfold finS at h; cases h
  | .val d :: ss, e :: es, cs, h => by
    have h : (finS ss es).map (.val d :: ·) = some cs := by simpa only [finS] using h
    cases r : finS ss es with
    | none => rw [r] at h; cases h
    | some r' =>
      rw [r] at h
      have : Slot.val d :: r' = cs := Option.some.inj h
      subst this
      obtain ⟨l, g⟩ := finS_get r
      refine ⟨congrArg (· + 1) l, fun i s hs => ?_⟩
      cases i with
      | zero =>
        have : Slot.val d = s := Option.some.inj hs
        subst this
        exact .inl ⟨d, rfl, rfl⟩
      | succ i => exact g i s hs
  | .cel o c :: ss, [], cs, h => by unfold finS at h; cases h
  | .cel o c :: ss, e :: es, cs, h => by
    cases e with
    | emp => unfold finS at h; cases h
    | val d => unfold finS at h; cases h
    | cel o' c' =>
      cases o' with
      | true => unfold finS at h; cases h
      | false =>
        have h : (finS ss es).map (.cel false c' :: ·) = some cs := by simpa only [finS] using h
        cases r : finS ss es with
        | none => rw [r] at h; cases h
        | some r' =>
          rw [r] at h
          have : Slot.cel false c' :: r' = cs := Option.some.inj h
          subst this
          obtain ⟨l, g⟩ := finS_get r
          refine ⟨congrArg (· + 1) l, fun i s hs => ?_⟩
          cases i with
          | zero =>
            have : Slot.cel false c' = s := Option.some.inj hs
            subst this
            exact .inr ⟨o, c, c', rfl, rfl, rfl⟩
          | succ i => exact g i s hs
section
variable {K : PySem.W.Frag} {mg : Mw} {z : Addr → Prop} {p : Nat → Option Addr} {vs : List V} {ss cs e : Env'} {σ' : St} {H H' : Hp} {n : Nat}
theorem get_start {N : List Str} {i : Nat} (h : i < vs.length) : (L2.start N vs)[i]? = (vs.map some)[i]? := by
  unfold L2.start
  rw [List.getElem?_append_left (by simpa using h)]
theorem get_emps {k i : Nat} {s : Slot} (h : (ss ++ List.replicate k Slot.emp)[i]? = some s) (hs : s ≠ .emp) : i < ss.length ∧ ss[i]? = some s := by
  by_cases hi : i < ss.length
  · rw [List.getElem?_append_left hi] at h
    exact ⟨hi, h⟩
  · rw [List.getElem?_append_right (by omega), List.getElem?_replicate] at h
    split at h
    · exact absurd (Option.some.inj h).symm hs
    · cases h
/-- at the body's start -/
theorem Rel.start {N : List Str} (r : Rel ⟨K, mg, z, p, noK⟩ (vs.map some) ss H) (hn : vs.length ≤ N.length) :
    Rel ⟨K, mg, z, p, noK⟩ (L2.start N vs) (ss ++ List.replicate (N.length - vs.length) .emp) H ∧ (∀ a, Zof (L2.start N vs) (ss ++ List.replicate (N.length - vs.length) .emp) a ↔ Zof (vs.map some) ss a) := by
  have hl : ss.length = vs.length := by have := r.len; rw [List.length_map] at this; exact this
  have zz : ∀ a, Zof (L2.start N vs) (ss ++ List.replicate (N.length - vs.length) .emp) a ↔ Zof (vs.map some) ss a := fun a => by
    constructor
    · rintro ⟨i, o, c, e1, e2⟩
      obtain ⟨hi, e1⟩ := get_emps e1 (by intro q; cases q)
      rw [get_start (by omega)] at e2
      exact ⟨i, o, c, e1, e2⟩
    · rintro ⟨i, o, c, e1, e2⟩
      have hi := (List.getElem?_eq_some_iff.mp e1).1
      exact ⟨i, o, c, by rw [List.getElem?_append_left hi]; exact e1, by rw [get_start (by omega)]; exact e2⟩
  have zy : Zall z (L2.start N vs) (ss ++ List.replicate (N.length - vs.length) .emp) = Zall z (vs.map some) ss := by
    funext a
    unfold Zall
    rw [propext (zz a)]
  refine ⟨⟨?_, fun i d h => ?_, fun i o c h => ?_, fun i j o o' c c' a h1 h2 h3 h4 => ?_, r.z0, r.pz, r.kp⟩, zz⟩
  · unfold L2.start
    simp only [List.length_append, List.length_replicate, List.length_map]
    omega
  · obtain ⟨hi, h⟩ := get_emps h (by intro q; cases q)
    obtain ⟨v, h1, h2⟩ := r.val i d h
    exact ⟨v, by rw [get_start (by omega)]; exact h1, by show Rep _ _ _ (Zall z _ _) _ _; rw [zy]; exact h2⟩
  · obtain ⟨hi, h⟩ := get_emps h (by intro q; cases q)
    obtain ⟨a, h1, h2, h3⟩ := r.chg i o c h
    exact ⟨a, by rw [get_start (by omega)]; exact h1, by show CellAt _ _ _ (Zall z _ _) _ _; rw [zy]; exact h2, h3⟩
  · obtain ⟨hi, h1⟩ := get_emps h1 (by intro q; cases q)
    obtain ⟨hj, h2⟩ := get_emps h2 (by intro q; cases q)
    rw [get_start (by omega)] at h3 h4
    exact r.dist i j o o' c c' a h1 h2 h3 h4
theorem Zof.sub_z (r : Rel ⟨K, mg, z, p, noK⟩ (vs.map some) ss H) (own : ∀ (i : Nat) c, ss[i]? ≠ some (.cel true c)) {a : Addr} (h : Zof (vs.map some) ss a) : z a := by
  obtain ⟨i, o, c, e1, e2⟩ := h
  cases o with
  | true => exact absurd e1 (own i c)
  | false =>
    obtain ⟨b, h1, h2, h3, h4⟩ := r.chg i false c e1
    have : a = b := by
      have := some_some e2 h1
      injection this
    subst this
    exact r.pz i a (h4 rfl)
/-- behind the body: the parameters' slots -/
theorem Rel.finish {N : List Str} (r : Rel ⟨K, mg, z, p, noK⟩ (vs.map some) ss H) (own : ∀ (i : Nat) c, ss[i]? ≠ some (.cel true c)) (hn : vs.length ≤ N.length)
    {z2 : Addr → Prop} (s1 : ∀ a, z a → z2 a) (s2 : ∀ a, z2 a → z a ∨ H a = none) (r' : Rel ⟨K, mg, z2, p, noK⟩ σ' e H') (x : Ext (L2.start N vs) (ss ++ List.replicate (N.length - vs.length) .emp) H σ' e H') (hf : finS ss e = some cs) :
    Rel ⟨K, mg, z2, p, noK⟩ (vs.map some) cs H' ∧ Ext (vs.map some) ss H (vs.map some) cs H' ∧ Gr H' (Zall z2 σ' e) H' z2 := by
  obtain ⟨hcl, hg⟩ := finS_get hf
  have hl : ss.length = vs.length := by have := r.len; rw [List.length_map] at this; exact this
  obtain ⟨r0, zz⟩ := r.start hn
  -- a parameter's own object stays in its slot
  have same : ∀ {i : Nat} {o : Bool} {c c' : Cell}, ss[i]? = some (.cel o c) → e[i]? = some (.cel false c') → ∃ a, (vs.map some)[i]? = some (some (V.ref a)) ∧ σ'[i]? = some (some (.ref a)) ∧ z a ∧ CellAt K mg H' (Zall z2 σ' e) a c' ∧ p i = some a := fun {i o c c'} h1 h2 => by
    cases o with
    | true => exact absurd h1 (own i c)
    | false =>
      obtain ⟨a, a1, a2, a3, a4⟩ := r.chg i false c h1
      obtain ⟨b, b1, b2, b3, b4⟩ := r'.chg i false c' h2
      have e1 : p i = some a := a4 rfl
      have e2 : p i = some b := b4 rfl
      rw [e1] at e2
      have : a = b := Option.some.inj e2
      subst this
      exact ⟨a, a1, b1, r.pz i a e1, b2, e1⟩
  have zof : ∀ {a}, Zof (vs.map some) cs a → Zof (vs.map some) ss a := fun {a} h => by
    obtain ⟨i, o, c, e1, e2⟩ := h
    rcases hg i _ e1 with ⟨d, q, _⟩ | ⟨o', c1, c2, q, h1, h2⟩
    · cases q
    · exact ⟨i, o', c1, h1, e2⟩
  have zsub : ∀ {a}, Zall z2 (vs.map some) cs a → z2 a := fun {a} h => by
    rcases h with h | h
    · exact h
    · exact s1 _ ((zof h).sub_z r own)
  have gz : Gr H' (Zall z2 σ' e) H' z2 := Gr.sub fun a h => .inl h
  have gz2 : Gr H' (Zall z2 σ' e) H' (Zall z2 (vs.map some) cs) := Gr.sub fun a h => .inl (zsub h)
  have g0 : Gr H (Zall z (vs.map some) ss) H' (Zall z2 (vs.map some) cs) := fun a o h n => by
    have n' : ¬ Zof (L2.start N vs) (ss ++ List.replicate (N.length - vs.length) .emp) a ∨ ¬ isMutO o := by
      rcases n with n | n
      · exact .inl fun q => n (.inr ((zz a).mp q))
      · exact .inr n
    refine ⟨(x a o h n').1, fun m q => ?_⟩
    rcases s2 a (zsub q) with q | q
    · exact m (.inl q)
    · rw [h] at q; cases q
  refine ⟨⟨by rw [hcl, hl]; simp, fun i d h => ?_, fun i o c h => ?_, fun i j o o' c c' a h1 h2 h3 h4 => ?_, r'.z0, fun i a e => s1 a (r.pz i a e), r'.kp⟩, fun a o h n => ?_, gz⟩
  · rcases hg i _ h with ⟨d', q, h1⟩ | ⟨o', c1, c2, q, h1, h2⟩
    · cases q
      obtain ⟨v, v1, v2⟩ := r.val i d h1
      exact ⟨v, v1, Rep.mono g0 v2⟩
    · cases q
  · rcases hg i _ h with ⟨d', q, h1⟩ | ⟨o', c1, c2, q, h1, h2⟩
    · cases q
    · cases q
      obtain ⟨a, a1, a2, a3, a4, a5⟩ := same h1 h2
      exact ⟨a, a1, a4.mono gz2 (fun _ e => e), fun q => (by cases q), fun _ => a5⟩
  · rcases hg i _ h1 with ⟨d', q, _⟩ | ⟨o1, c1, c2, q, k1, k2⟩
    · cases q
    · rcases hg j _ h2 with ⟨d', q', _⟩ | ⟨o2, c3, c4, q', k3, k4⟩
      · cases q'
      · exact r.dist i j o1 o2 c1 c3 a k1 k3 h3 h4
  · have n' : ¬ Zof (L2.start N vs) (ss ++ List.replicate (N.length - vs.length) .emp) a ∨ ¬ isMutO o := by
      rcases n with n | n
      · exact .inl fun q => n ((zz a).mp q)
      · exact .inr n
    exact ⟨(x a o h n').1, fun m q => m (zof q)⟩
end
/-- THE RULE for a def: its body's meaning -/
theorem fn_ok {P : Program} {w : World} {K : PySem.W.Frag} {mg : Str → Option Value} {base : Heap} {x qual : Str} {st : Stmt} {f : Addr} {fd : FuncData} {N ps : List Str} {k : Nat} {m : MS} (F : Fun K x qual st f fd) (S : FnScope N ps (defScope st))
    (hbody : ∀ (cdv : Value) (A : Around) (outer : List Env) (s : Shared) (H : Hp) (E : XK) (G : Gd), G.ex = none → Room k (A.deeper (envOfC qual (defScope st) s.heap.objs.size f cdv)) →
      Takes (cxOf (L2.CX P w) P w K mg base N qual (defScope st) f cdv A outer s H E) G.W →
      PassesOwn (model P w) (A.deeper (envOfC qual (defScope st) s.heap.objs.size f cdv)) (envOfC qual (defScope st) s.heap.objs.size f cdv) (cxOf (L2.CX P w) P w K mg base N qual (defScope st) f cdv A outer s H E).xe →
      MSs (cxOf (L2.CX P w) P w K mg base N qual (defScope st) f cdv A outer s H E) G (defBody st) m) :
    FnOk P w K mg base (L2.CX P w) (k + 1) f fd ps (spOf K ⟨mg, P, w, none⟩ (mkFn ps.length N.length m)) := by
  have hN : ps.length ≤ N.length := by
    have := congrArg List.length S.pre
    rw [List.length_take] at this
    omega
  refine F.okX S (fun vs H Q E h => ?_) (fun cdv A outer s H vs Q E hr h => ?_)
  · obtain ⟨z, p, ss, r, own, h⟩ := h
    unfold mkFn at h
    split at h
    · rename_i d cs e0
      split at e0
      · rename_i hl
        have := r.len
        rw [List.length_map] at this
        omega
      · cases e0
    · rename_i c cs e0
      split at e0
      · rename_i hl
        have := r.len
        rw [List.length_map] at this
        omega
      · cases e0
    · rename_i c fs cs e0
      split at e0
      · rename_i hl
        have := r.len
        rw [List.length_map] at this
        omega
      · cases e0
    · exact False.elim h
  · obtain ⟨z, p, ss, r, own, h⟩ := h
    have hlen : ss.length = vs.length := by have := r.len; rw [List.length_map] at this; exact this
    have hps : ss.length = ps.length := by
      unfold mkFn at h
      by_cases q : ss.length = ps.length
      · exact q
      · rw [if_neg q] at h; exact False.elim h
    have hvs : vs.length = ps.length := by omega
    have hvN : vs.length ≤ N.length := by omega
    refine ⟨liftS ⟨K, ⟨mg, P, w, none⟩, z, p, noK⟩ (fun c d σ H' => E c d H') m, ?_, ?_⟩
    · exact hbody cdv A outer s H E ⟨z, p, fun c d σ H' => E c d H', noK, none⟩ rfl hr (takes_of (E := E) (E₁ := fun e' s'' => L2.CX P w outer H s E e' s'') rfl rfl rfl rfl) (passes_of (K := fun e s'' => L2.CX P w outer H s E e s'') (E₁ := fun e' s'' => L2.CX P w outer H s E e' s'') rfl)
    · obtain ⟨r0, zz⟩ := r.start (N := N) hvN
      refine ⟨_, r0, ?_⟩
      unfold mkFn at h
      rw [if_pos hps, ← hvs] at h
      cases em : m (ss ++ List.replicate (N.length - vs.length) .emp) with
      | nx e =>
        rw [em] at h
        cases ef : finS ss e with
        | none => simp only [ef] at h
        | some cs =>
          simp only [ef] at h
          intro σ' H' r' x
          obtain ⟨a, b, c⟩ := r.finish own hvN (fun _ z => z) (fun _ z => .inl z) r' x ef
          exact h _ H' a b .non
      | rnew c e =>
        rw [em] at h
        cases ef : finS ss e with
        | none => simp only [ef] at h
        | some cs =>
          simp only [ef] at h
          intro q σ' H' fr r' nz nf x ca
          have hq : H q = none := by
            cases e0 : H q with
            | none => rfl
            | some o => exact absurd (((zz q).mp (fr o e0)).sub_z r own) nz
          obtain ⟨a, b, g⟩ := r.finish own hvN (z2 := fun b => z b ∨ b = q) (fun _ z => .inl z) (fun a z => by
            rcases z with z | z
            · exact .inl z
            · subst z; exact .inr hq) r' x ef
          exact h q H' hq a b (ca.mono g (fun _ e => e))
      | ret d e =>
        rw [em] at h
        cases ef : finS ss e with
        | none => simp only [ef] at h
        | some cs =>
          simp only [ef] at h
          intro v σ' H' r' x hv
          obtain ⟨a, b, c⟩ := r.finish own hvN (fun _ z => z) (fun _ z => .inl z) r' x ef
          exact h v H' a b (Rep.mono c hv)
      | exc c fs e =>
        rw [em] at h
        cases ef : finS ss e with
        | none => simp only [ef] at h
        | some cs =>
          simp only [ef] at h
          intro cls od σ' H' r' x hv
          obtain ⟨a, b, g⟩ := r.finish own hvN (fun _ z => z) (fun _ z => .inl z) r' x ef
          refine h cls od H' a b ⟨hv.1, ?_⟩
          rcases hv.2 with q | ⟨d, fvs, q1, q2, q3⟩
          · exact .inl q
          · exact .inr ⟨d, fvs, q1, q2, q3.mono g⟩
      | bk e => rw [em] at h; exact False.elim h
      | ct e => rw [em] at h; exact False.elim h
      | bad => rw [em] at h; exact False.elim h
end Mi
namespace Mi
open PySem PySem.Spec L2
open PyProof.Rows hiding St

/-! ### calls of defs -/
/-- the parameters' slots at a call; ms: which parameters' objects the def changes -/
def argSlots (env : Env') : List Arg → List Bool → Option Env'
  | [], [] => some []
  | .v d :: as, false :: ms => (argSlots env as ms).map (.val d :: ·)
  | .s i :: as, false :: ms => match env[i]? with
    | some (.val d) => (argSlots env as ms).map (.val d :: ·)
    | _ => none
  | .s i :: as, true :: ms => match env[i]? with
    | some (.cel _ c) => (argSlots env as ms).map (.cel false c :: ·)
    | _ => none
  | _, _ => none
def mutIx : List Arg → List Bool → List Nat
  | [], _ => []
  | _ :: _, [] => []
  | .v _ :: as, _ :: ms => mutIx as ms
  | .s _ :: as, false :: ms => mutIx as ms
  | .s i :: as, true :: ms => i :: mutIx as ms
def backE : Env' → List Arg → List Bool → Env' → Option Env'
  | env, [], [], [] => some env
  | env, _ :: as, false :: ms, _ :: cs => backE env as ms cs
  | env, .s i :: as, true :: ms, .cel _ c :: cs => match env[i]? with
    | some (.cel o _) => backE (env.set i (.cel o c)) as ms cs
    | _ => none
  | _, _, _, _ => none
def mCall (F : Fn) (ms : List Bool) (m : M (List Arg)) : M D := fun env => (m env).bind fun as env => match argSlots env as ms with
  | some ss => if (mutIx as ms).Nodup then (match F ss with
      | .ret d cs => (match backE env as ms cs with
        | some e => .ok d e
        | none => .bad)
      | .exc c fs cs => (match backE env as ms cs with
        | some e => .exc c fs e
        | none => .bad)
      | _ => .bad) else .bad
  | none => .bad
/-- a call that hands out a new object -/
def mCallN (F : Fn) (ms : List Bool) (m : M (List Arg)) : M Cell := fun env => (m env).bind fun as env => match argSlots env as ms with
  | some ss => if (mutIx as ms).Nodup then (match F ss with
      | .new c cs => (match backE env as ms cs with
        | some e => .ok c e
        | none => .bad)
      | .exc c fs cs => (match backE env as ms cs with
        | some e => .exc c fs e
        | none => .bad)
      | _ => .bad) else .bad
  | none => .bad
theorem argSlots_get {env : Env'} : ∀ {as : List Arg} {ms : List Bool} {ss : Env'}, argSlots env as ms = some ss → ss.length = as.length ∧ ms.length = as.length ∧ ∀ (i : Nat) (s : Slot), ss[i]? = some s →
    (∃ a d, s = .val d ∧ as[i]? = some a ∧ ms[i]? = some false ∧ a.own env = some d) ∨ (∃ j o c, s = .cel false c ∧ as[i]? = some (.s j) ∧ ms[i]? = some true ∧ env[j]? = some (.cel o c))
  | [], [], ss, h => by
    have : [] = ss := Option.some.inj h
    subst this
    exact ⟨rfl, rfl, fun i s e => by simp at e⟩
  | [], _ :: _, ss, h => by unfold argSlots at h; cases h
  | .v d :: as, [], ss, h => by unfold argSlots at h; cases h
  | .v d :: as, true :: ms, ss, h => by unfold argSlots at h; cases h
  | .v d :: as, false :: ms, ss, h => by
    have h : (argSlots env as ms).map (.val d :: ·) = some ss := h
    cases r : argSlots env as ms with
    | none => rw [r] at h; cases h
    | some r' =>
      rw [r] at h
      have : Slot.val d :: r' = ss := Option.some.inj h
      subst this
      obtain ⟨l1, l2, g⟩ := argSlots_get r
      refine ⟨congrArg (· + 1) l1, congrArg (· + 1) l2, fun i s hs => ?_⟩
      cases i with
      | zero =>
        have : Slot.val d = s := Option.some.inj hs
        subst this
        exact .inl ⟨.v d, d, rfl, rfl, rfl, rfl⟩
      | succ i => exact g i s hs
  | .s k :: as, [], ss, h => by unfold argSlots at h; cases h
  | .s k :: as, false :: ms, ss, h => by
    have h : (match env[k]? with
      | some (.val d) => (argSlots env as ms).map (.val d :: ·)
      | _ => none) = some ss := h
    split at h
    · rename_i d hk
      cases r : argSlots env as ms with
      | none => rw [r] at h; cases h
      | some r' =>
        rw [r] at h
        have : Slot.val d :: r' = ss := Option.some.inj h
        subst this
        obtain ⟨l1, l2, g⟩ := argSlots_get r
        refine ⟨congrArg (· + 1) l1, congrArg (· + 1) l2, fun i s hs => ?_⟩
        cases i with
        | zero =>
          have : Slot.val d = s := Option.some.inj hs
          subst this
          exact .inl ⟨.s k, d, rfl, rfl, rfl, by show slotV env k = some d; unfold slotV; rw [hk]⟩
        | succ i => exact g i s hs
    · cases h
  | .s k :: as, true :: ms, ss, h => by
    have h : (match env[k]? with
      | some (.cel _ c) => (argSlots env as ms).map (.cel false c :: ·)
      | _ => none) = some ss := h
    split at h
    · rename_i o c hk
      cases r : argSlots env as ms with
      | none => rw [r] at h; cases h
      | some r' =>
        rw [r] at h
        have : Slot.cel false c :: r' = ss := Option.some.inj h
        subst this
        obtain ⟨l1, l2, g⟩ := argSlots_get r
        refine ⟨congrArg (· + 1) l1, congrArg (· + 1) l2, fun i s hs => ?_⟩
        cases i with
        | zero =>
          have : Slot.cel false c = s := Option.some.inj hs
          subst this
          exact .inr ⟨k, o, c, rfl, rfl, rfl, hk⟩
        | succ i => exact g i s hs
    · cases h
theorem mutIx_mem : ∀ {as : List Arg} {ms : List Bool} {i j : Nat}, as[i]? = some (.s j) → ms[i]? = some true → j ∈ mutIx as ms
  | [], _, _, _, h, _ => by simp at h
  | _ :: _, [], _, _, _, h => by simp at h
  | a :: as, m :: ms, 0, j, h1, h2 => by
    have e1 : a = .s j := Option.some.inj h1
    have e2 : m = true := Option.some.inj h2
    subst e1 e2
    exact List.mem_cons_self
  | a :: as, m :: ms, i + 1, j, h1, h2 => by
    have ih := mutIx_mem (as := as) (ms := ms) (i := i) (j := j) (by simpa using h1) (by simpa using h2)
    cases a with
    | v d => exact ih
    | s k =>
      cases m with
      | false => exact ih
      | true => exact List.mem_cons_of_mem _ ih
theorem mutIx_inj : ∀ {as : List Arg} {ms : List Bool} {i k j : Nat}, (mutIx as ms).Nodup → as[i]? = some (.s j) → ms[i]? = some true → as[k]? = some (.s j) → ms[k]? = some true → i = k
  | [], _, _, _, _, _, h, _, _, _ => by simp at h
  | _ :: _, [], _, _, _, _, _, h, _, _ => by simp at h
  | a :: as, m :: ms, i, k, j, nd, h1, h2, h3, h4 => by
    have tail : (mutIx as ms).Nodup := by
      cases a with
      | v d => exact nd
      | s k =>
        cases m with
        | false => exact nd
        | true => exact (List.nodup_cons.mp (show (k :: mutIx as ms).Nodup from nd)).2
    have hd : a = .s j → m = true → j ∉ mutIx as ms := fun e1 e2 => by
      subst e1 e2
      exact (List.nodup_cons.mp (show (j :: mutIx as ms).Nodup from nd)).1
    cases i with
    | zero =>
      cases k with
      | zero => rfl
      | succ k => exact absurd (mutIx_mem (i := k) (by simpa using h3) (by simpa using h4)) (hd (Option.some.inj h1) (Option.some.inj h2))
    | succ i =>
      cases k with
      | zero => exact absurd (mutIx_mem (i := i) (by simpa using h1) (by simpa using h2)) (hd (Option.some.inj h3) (Option.some.inj h4))
      | succ k => exact congrArg (· + 1) (mutIx_inj (i := i) (k := k) tail (by simpa using h1) (by simpa using h2) (by simpa using h3) (by simpa using h4))
theorem backE_spec : ∀ {as : List Arg} {ms : List Bool} {env cs env' : Env'}, (mutIx as ms).Nodup → backE env as ms cs = some env' →
    env'.length = env.length ∧ (∀ j, j ∉ mutIx as ms → env'[j]? = env[j]?) ∧
    (∀ j, j ∈ mutIx as ms → ∃ (i : Nat) (o : Bool) (c0 : Cell) (o' : Bool) (c' : Cell), as[i]? = some (Arg.s j) ∧ ms[i]? = some true ∧ env[j]? = some (Slot.cel o c0) ∧ cs[i]? = some (Slot.cel o' c') ∧ env'[j]? = some (Slot.cel o c'))
  | [], [], env, [], env', nd, h => by
    have : env = env' := Option.some.inj h
    subst this
    exact ⟨rfl, fun _ _ => rfl, fun j hj => absurd hj (by simp [mutIx])⟩
  | [], [], env, _ :: _, env', nd, h => by unfold backE at h; cases h
  | [], _ :: _, env, cs, env', nd, h => by cases cs <;> (unfold backE at h; cases h)
  | a :: as, [], env, cs, env', nd, h => by cases a <;> cases cs <;> (unfold backE at h; cases h)
  | a :: as, m :: ms, env, [], env', nd, h => by cases a <;> cases m <;> (unfold backE at h; cases h)
  | a :: as, false :: ms, env, c :: cs, env', nd, h => by
    have h : backE env as ms cs = some env' := by cases a <;> exact h
    have e : mutIx (a :: as) (false :: ms) = mutIx as ms := by cases a <;> rfl
    rw [e] at nd ⊢
    obtain ⟨l, g1, g2⟩ := backE_spec nd h
    refine ⟨l, g1, fun j hj => ?_⟩
    obtain ⟨i, o, c0, o', c', h1, h2, h3, h4, h5⟩ := g2 j hj
    exact ⟨i + 1, o, c0, o', c', by simpa using h1, by simpa using h2, h3, by simpa using h4, h5⟩
  | .v d :: as, true :: ms, env, c :: cs, env', nd, h => by cases c <;> (unfold backE at h; cases h)
  | .s k :: as, true :: ms, env, .emp :: cs, env', nd, h => by unfold backE at h; cases h
  | .s k :: as, true :: ms, env, .val d :: cs, env', nd, h => by unfold backE at h; cases h
  | .s k :: as, true :: ms, env, .cel oc c :: cs, env', nd, h => by
    have h : (match env[k]? with
      | some (.cel o _) => backE (env.set k (.cel o c)) as ms cs
      | _ => none) = some env' := h
    split at h
    · rename_i o c0 hk
      have nd' : k ∉ mutIx as ms ∧ (mutIx as ms).Nodup := List.nodup_cons.mp nd
      obtain ⟨l, g1, g2⟩ := backE_spec nd'.2 h
      have hkl : k < env.length := (List.getElem?_eq_some_iff.mp hk).1
      refine ⟨by simpa using l, fun j hj => ?_, fun j hj => ?_⟩
      · have hj : j ∉ k :: mutIx as ms := hj
        rw [List.mem_cons, not_or] at hj
        rw [g1 j hj.2, get_set_ne hj.1]
      · have hj : j ∈ k :: mutIx as ms := hj
        rcases List.mem_cons.mp hj with e | hj
        · subst e
          exact ⟨0, o, c0, oc, c, rfl, rfl, hk, rfl, by rw [g1 j nd'.1, List.getElem?_set_self hkl]⟩
        · obtain ⟨i, o1, c1, o', c', h1, h2, h3, h4, h5⟩ := g2 j hj
          have ne : j ≠ k := fun q => nd'.1 (q ▸ hj)
          rw [get_set_ne ne] at h3
          exact ⟨i + 1, o1, c1, o', c', by simpa using h1, by simpa using h2, h3, by simpa using h4, h5⟩
    · cases h
theorem ArgsAt.get {B : Bd} {σ : St} {env : Env'} {H : Hp} : ∀ {as : List Arg} {vs : List V} {i : Nat} {a : Arg}, ArgsAt B σ env H as vs → as[i]? = some a → ∃ v, vs[i]? = some v ∧ ArgAt B σ env H a v
  | _, _, _, _, .nil, e => by simp at e
  | _, _, 0, _, .cons r _, e => by simp at e; subst e; exact ⟨_, rfl, r⟩
  | _, _, i + 1, _, .cons _ t, e => by
    obtain ⟨v, h1, h2⟩ := ArgsAt.get (i := i) t (by simpa using e)
    exact ⟨v, by simpa using h1, h2⟩
theorem ArgsAt.length {B : Bd} {σ : St} {env : Env'} {H : Hp} : ∀ {as : List Arg} {vs : List V}, ArgsAt B σ env H as vs → as.length = vs.length
  | _, _, .nil => rfl
  | _, _, .cons _ t => congrArg (· + 1) t.length
section
variable {B : Bd} {σ : St} {env : Env'} {H : Hp} {as : List Arg} {vs : List V} {ms : List Bool} {ss : Env'}
/-- which objects a call may change -/
def passed (ss : Env') (vs : List V) (i : Nat) : Option Addr := match ss[i]?, vs[i]? with
  | some (.cel _ _), some (.ref a) => some a
  | _, _ => none
theorem Rel.pass (r : Rel B σ env H) (ha : ArgsAt B σ env H as vs) (hs : argSlots env as ms = some ss) (nd : (mutIx as ms).Nodup) :
    Rel ⟨B.K, B.mg, Zall B.z σ env, passed ss vs, noK⟩ (vs.map some) ss H ∧ (∀ (i : Nat) c, ss[i]? ≠ some (.cel true c)) ∧
      (∀ a, Zof (vs.map some) ss a ↔ ∃ j o c, j ∈ mutIx as ms ∧ env[j]? = some (.cel o c) ∧ σ[j]? = some (some (.ref a))) := by
  obtain ⟨l1, l2, g⟩ := argSlots_get hs
  have lv := ha.length
  have map_get : ∀ {i : Nat} {v : V}, vs[i]? = some v → (vs.map some)[i]? = some (some v) := fun {i v} e => by rw [List.getElem?_map, e]; rfl
  have of_map : ∀ {i : Nat} {v : V}, (vs.map some)[i]? = some (some v) → vs[i]? = some v := fun {i v} e => by
    rw [List.getElem?_map] at e
    cases q : vs[i]? with
    | none => rw [q] at e; cases e
    | some w => rw [q] at e; exact congrArg some (Option.some.inj (Option.some.inj e))
  have cel : ∀ {i : Nat} {o : Bool} {c : Cell}, ss[i]? = some (.cel o c) → ∃ j o' a, o = false ∧ as[i]? = some (.s j) ∧ ms[i]? = some true ∧ env[j]? = some (.cel o' c) ∧ vs[i]? = some (.ref a) ∧ σ[j]? = some (some (.ref a)) ∧ CellAt B.K B.mg H (Zall B.z σ env) a c := fun {i o c} e => by
    rcases g i _ e with ⟨a, d, q, _⟩ | ⟨j, o', c', q, h1, h2, h3⟩
    · cases q
    · cases q
      obtain ⟨v, hv, av⟩ := ha.get h1
      have av : σ[j]? = some (some v) := av
      obtain ⟨a, b1, b2, _⟩ := r.chg j o' c h3
      have : v = .ref a := some_some av b1
      subst this
      exact ⟨j, o', a, rfl, h1, h2, h3, hv, av, b2⟩
  have zsub : ∀ a, Zof (vs.map some) ss a → Zall B.z σ env a := fun a ⟨i, o, c, e1, e2⟩ => by
    obtain ⟨j, o', a', rfl, h1, h2, h3, h4, h5, h6⟩ := cel e1
    have : V.ref a = .ref a' := Option.some.inj ((of_map e2).symm.trans h4)
    injection this with this
    subst this
    exact .inr ⟨j, o', c, h3, h5⟩
  have zz : ∀ a, Zall (Zall B.z σ env) (vs.map some) ss a → Zall B.z σ env a := fun a h => by
    rcases h with h | h
    · exact h
    · exact zsub a h
  have gz : Gr H (Zall B.z σ env) H (Zall (Zall B.z σ env) (vs.map some) ss) := Gr.sub fun a h => zz a h
  refine ⟨⟨by rw [l1, lv]; simp, fun i d e => ?_, fun i o c e => ?_, fun i j o o' c c' a h1 h2 h3 h4 => ?_, fun a h => r.live h, fun i a e => ?_, fun a o e => (by cases e)⟩, fun i c e => ?_, fun a => ⟨fun ⟨i, o, c, e1, e2⟩ => ?_, fun ⟨j, o, c, hj, e1, e2⟩ => ?_⟩⟩
  · rcases g i _ e with ⟨a, d', q, h1, h2, h3⟩ | ⟨j, o', c', q, _⟩
    · cases q
      obtain ⟨v, hv, av⟩ := ha.get h1
      exact ⟨v, map_get hv, Rep.mono gz (r.own av h3)⟩
    · cases q
  · obtain ⟨j, o', a, rfl, h1, h2, h3, h4, h5, h6⟩ := cel e
    refine ⟨a, map_get h4, h6.mono gz (fun _ q => q), fun q => (by cases q), fun _ => ?_⟩
    show passed ss vs i = some a
    unfold passed
    rw [e, h4]
  · obtain ⟨k, ok, b, rfl, k1, k2, k3, k4, k5, k6⟩ := cel h1
    obtain ⟨l, ol, b', rfl, m1, m2, m3, m4, m5, m6⟩ := cel h2
    have e1 : V.ref a = .ref b := Option.some.inj ((of_map h3).symm.trans k4)
    have e2 : V.ref a = .ref b' := Option.some.inj ((of_map h4).symm.trans m4)
    injection e1 with e1
    injection e2 with e2
    subst e1
    subst e2
    have : k = l := r.dist k l ok ol c c' a k3 m3 k5 m5
    subst this
    exact mutIx_inj nd k1 k2 m1 m2
  · have e : passed ss vs i = some a := e
    unfold passed at e
    split at e
    · rename_i o c b h1 h2
      injection e with e
      subst e
      exact zsub _ ⟨i, o, c, h1, map_get h2⟩
    · cases e
  · obtain ⟨_, _, _, q, _⟩ := cel e
    cases q
  · obtain ⟨j, o', a', rfl, h1, h2, h3, h4, h5, h6⟩ := cel e1
    have : V.ref a = .ref a' := Option.some.inj ((of_map e2).symm.trans h4)
    injection this with this
    subst this
    exact ⟨j, o', c, mutIx_mem h1 h2, h3, h5⟩
  · -- the slot of j's argument
    have ex : ∀ {as : List Arg} {ms : List Bool} {j : Nat}, j ∈ mutIx as ms → ∃ i : Nat, as[i]? = some (.s j) ∧ ms[i]? = some true := by
      intro as
      induction as with
      | nil => intro ms j h; cases ms <;> simp [mutIx] at h
      | cons a as ih =>
        intro ms j h
        cases ms with
        | nil => cases a <;> simp [mutIx] at h
        | cons m ms =>
          have step : j ∈ mutIx as ms → ∃ i : Nat, (a :: as)[i]? = some (.s j) ∧ (m :: ms)[i]? = some true := fun h => by
            obtain ⟨i, h1, h2⟩ := ih h
            exact ⟨i + 1, by simpa using h1, by simpa using h2⟩
          cases a with
          | v d => exact step (by simpa [mutIx] using h)
          | s k =>
            cases m with
            | false => exact step (by simpa [mutIx] using h)
            | true =>
              have h : j ∈ k :: mutIx as ms := h
              rcases List.mem_cons.mp h with e | h
              · subst e
                exact ⟨0, rfl, rfl⟩
              · exact step h
    obtain ⟨i, h1, h2⟩ := ex hj
    have hi : i < ss.length := by
      rw [l1]
      exact (List.getElem?_eq_some_iff.mp h1).1
    have hs := List.getElem?_eq_getElem hi
    rcases g i _ hs with ⟨b, d', q, q1, q2, _⟩ | ⟨j', o', c', q, q1, q2, q3⟩
    · rw [h2] at q2; cases q2
    · rw [h1] at q1
      have : Arg.s j = .s j' := Option.some.inj q1
      injection this with this
      subst this
      obtain ⟨v, hv, av⟩ := ha.get h1
      have av : σ[j]? = some (some v) := av
      have : v = .ref a := some_some av e2
      subst this
      exact ⟨i, false, c', by rw [hs, q], map_get hv⟩
/-- back from a call -/
theorem Rel.back {cs env' : Env'} {H' : Hp} (r : Rel B σ env H) (ha : ArgsAt B σ env H as vs) (hs : argSlots env as ms = some ss) (nd : (mutIx as ms).Nodup)
    {z2 : Addr → Prop} (s1 : ∀ a, B.z a → z2 a) (s2 : ∀ a, z2 a → B.z a ∨ H a = none)
    (rc : Rel ⟨B.K, B.mg, Zall z2 σ env, passed ss vs, noK⟩ (vs.map some) cs H') (xc : Ext (vs.map some) ss H (vs.map some) cs H') (hb : backE env as ms cs = some env') :
    Rel { B with z := z2 } σ env' H' ∧ Ext σ env H σ env' H' ∧ Zall z2 σ env' = Zall z2 σ env ∧ ∀ a, Zof σ env' a ↔ Zof σ env a := by
  obtain ⟨r0, own, zof⟩ := r.pass ha hs nd
  obtain ⟨le, g1, g2⟩ := backE_spec nd hb
  have map_get : ∀ {i : Nat} {v : V}, vs[i]? = some v → (vs.map some)[i]? = some (some v) := fun {i v} e => by rw [List.getElem?_map, e]; rfl
  -- the slots keep their kinds
  have kind : ∀ (j : Nat) (o : Bool) (c : Cell), env'[j]? = some (.cel o c) → ∃ c0, env[j]? = some (.cel o c0) := fun j o c e => by
    by_cases hj : j ∈ mutIx as ms
    · obtain ⟨i, o1, c0, o', c', h1, h2, h3, h4, h5⟩ := g2 j hj
      rw [h5] at e
      cases e
      exact ⟨c0, h3⟩
    · rw [g1 j hj] at e
      exact ⟨c, e⟩
  have kind' : ∀ (j : Nat) (o : Bool) (c : Cell), env[j]? = some (.cel o c) → ∃ c0, env'[j]? = some (.cel o c0) := fun j o c e => by
    by_cases hj : j ∈ mutIx as ms
    · obtain ⟨i, o1, c0, o', c', h1, h2, h3, h4, h5⟩ := g2 j hj
      rw [h3] at e
      cases e
      exact ⟨c', h5⟩
    · exact ⟨c, by rw [g1 j hj]; exact e⟩
  have zz : ∀ a, Zof σ env' a ↔ Zof σ env a := fun a => by
    constructor
    · rintro ⟨j, o, c, e1, e2⟩
      obtain ⟨c0, e0⟩ := kind j o c e1
      exact ⟨j, o, c0, e0, e2⟩
    · rintro ⟨j, o, c, e1, e2⟩
      obtain ⟨c0, e0⟩ := kind' j o c e1
      exact ⟨j, o, c0, e0, e2⟩
  have zy : Zall z2 σ env' = Zall z2 σ env := by
    funext a
    unfold Zall
    rw [propext (zz a)]
  have ext : Ext σ env H σ env' H' := fun a o h n => by
    have n' : ¬ Zof (vs.map some) ss a ∨ ¬ isMutO o := by
      rcases n with n | n
      · refine .inl fun q => n ?_
        obtain ⟨j, o', c, _, e1, e2⟩ := (zof a).mp q
        exact ⟨j, o', c, e1, e2⟩
      · exact .inr n
    exact ⟨(xc a o h n').1, fun m q => m ((zz a).mp q)⟩
  have g : Gr H (Zall B.z σ env) H' (Zall z2 σ env') := fun a o h n => by
    obtain ⟨h1, h2⟩ := (Gr.all (z := B.z) ext) a o h n
    refine ⟨h1, fun m q => ?_⟩
    rcases q with q | q
    · rcases s2 a q with q | q
      · exact h2 m (.inl q)
      · rw [h] at q; cases q
    · exact h2 m (.inr q)
  refine ⟨⟨le.trans r.len, fun j d e => ?_, fun j o c e => ?_, fun j k o o' c c' a h1 h2 h3 h4 => ?_, fun a h => rc.z0 a (.inl h), fun i a e => s1 a (r.pz i a e), fun a o e => g.kp (r.kp a o e)⟩, ext, zy, zz⟩
  · have hj : j ∉ mutIx as ms := fun hj => by
      obtain ⟨i, o1, c0, o', c', h1, h2, h3, h4, h5⟩ := g2 j hj
      rw [h5] at e
      cases e
    rw [g1 j hj] at e
    obtain ⟨v, h1, h2⟩ := r.val j d e
    exact ⟨v, h1, Rep.mono g h2⟩
  · by_cases hj : j ∈ mutIx as ms
    · obtain ⟨i, o1, c0, o', c', h1, h2, h3, h4, h5⟩ := g2 j hj
      rw [h5] at e
      cases e
      obtain ⟨a, b1, b2, b3, b4⟩ := r.chg j o c0 h3
      obtain ⟨v, hv, av⟩ := ha.get h1
      have av : σ[j]? = some (some v) := av
      have : v = .ref a := some_some av b1
      subst this
      obtain ⟨a', d1, d2, _⟩ := rc.chg i o' c h4
      have : V.ref a = .ref a' := some_some (map_get hv) d1
      injection this with this
      subst this
      refine ⟨a, b1, d2.mono (Gr.sub fun x q => ?_) (fun _ q => q), fun w z => ?_, b4⟩
      · have q : Zall z2 σ env' x := q
        rw [zy] at q
        exact .inl q
      · rcases s2 a z with z | z
        · exact b3 w z
        · obtain ⟨u, q, _⟩ := b2.there
          rw [z] at q
          cases q
    · rw [g1 j hj] at e
      obtain ⟨a, b1, b2, b3, b4⟩ := r.chg j o c e
      obtain ⟨u, hu, mu⟩ := b2.there
      have nz : ¬ Zof (vs.map some) ss a := fun q => by
        obtain ⟨k, o', c', hk, e1, e2⟩ := (zof a).mp q
        exact hj (r.dist j k o o' c c' a e e1 b1 e2 ▸ hk)
      refine ⟨a, b1, b2.mono g (fun w hw => (xc a w hw (.inl nz)).1), ⟨fun w z => ?_, b4⟩⟩
      rcases s2 a z with z | z
      · exact b3 w z
      · rw [z] at hu; cases hu
  · obtain ⟨c1, e1⟩ := kind j o c h1
    obtain ⟨c2, e2⟩ := kind k o' c' h2
    exact r.dist j k o o' c1 c2 a e1 e2 h3 h4
end
section
variable {X : Cx} {G : Gd} {e : Expr} {es : List Expr} {pos p : Pos}
theorem call_lift {B : Bd} {W : WX} {F : Fn} {ms : List Bool} {m : M (List Arg)} {σ : St} {H : Hp} {Q : VK} (h : liftE B W (mCall F ms m) σ H Q) :
    liftA B W m σ H fun vs H1 => spOf B.K B.mg F vs H1 Q fun cls od H' => W cls od σ H' := by
  obtain ⟨env, rel, post⟩ := h
  refine ⟨env, rel, post.seq.imp fun as env1 H1 rel1 ext1 q vs hv => ?_⟩
  cases es : argSlots env1 as ms with
  | none => rw [es] at q; exact False.elim q
  | some ss =>
    rw [es] at q
    have q : Post B W σ env1 H1 (if (mutIx as ms).Nodup then (match F ss with
      | .ret d cs => (match backE env1 as ms cs with
        | some e => R.ok d e
        | none => .bad)
      | .exc c fs cs => (match backE env1 as ms cs with
        | some e => .exc c fs e
        | none => .bad)
      | _ => .bad) else .bad) _ := q
    split at q
    · rename_i nd
      obtain ⟨r0, own, zof⟩ := rel1.pass hv es nd
      refine ⟨_, _, ss, r0, own, ?_⟩
      cases eF : F ss with
      | ret d cs =>
        rw [eF] at q
        cases eb : backE env1 as ms cs with
        | none => simp only [eb] at q; exact False.elim q
        | some env2 =>
          simp only [eb] at q
          intro v H' rc xc hr
          obtain ⟨r2, x2, zy, _⟩ := rel1.back hv es nd (fun _ z => z) (fun _ z => .inl z) rc xc eb
          refine q H' r2 x2 v ?_
          show Rep _ _ _ (Zall B.z σ env2) _ _
          rw [zy]
          exact hr
      | exc c fs cs =>
        rw [eF] at q
        cases eb : backE env1 as ms cs with
        | none => simp only [eb] at q; exact False.elim q
        | some env2 =>
          simp only [eb] at q
          intro cls od H' rc xc hx
          obtain ⟨r2, x2, zy, _⟩ := rel1.back hv es nd (fun _ z => z) (fun _ z => .inl z) rc xc eb
          refine q cls od H' r2 x2 ?_
          rw [zy]
          exact hx
      | new c cs => rw [eF] at q; exact False.elim q
      | bad => rw [eF] at q; exact False.elim q
    · exact False.elim q
theorem callN_lift {B : Bd} {W : WX} {F : Fn} {ms : List Bool} {m : M (List Arg)} {σ : St} {H : Hp} {Q : VK} (h : liftF B W (mCallN F ms m) σ H Q) :
    liftA B W m σ H fun vs H1 => spOf B.K B.mg F vs H1 Q fun cls od H' => W cls od σ H' := by
  obtain ⟨env, rel, post⟩ := h
  refine ⟨env, rel, (PostF.seq post).imp fun as env1 H1 rel1 ext1 q vs hv => ?_⟩
  cases es : argSlots env1 as ms with
  | none => rw [es] at q; exact False.elim q
  | some ss =>
    rw [es] at q
    have q : PostF B W σ env H (if (mutIx as ms).Nodup then (match F ss with
      | .new d cs => (match backE env1 as ms cs with
        | some e => R.ok d e
        | none => .bad)
      | .exc c fs cs => (match backE env1 as ms cs with
        | some e => .exc c fs e
        | none => .bad)
      | _ => .bad) else .bad) _ := q
    split at q
    · rename_i nd
      obtain ⟨r0, own, zof⟩ := rel1.pass hv es nd
      refine ⟨_, _, ss, r0, own, ?_⟩
      cases eF : F ss with
      | new d cs =>
        rw [eF] at q
        cases eb : backE env1 as ms cs with
        | none => simp only [eb] at q; exact False.elim q
        | some env2 =>
          simp only [eb] at q
          intro p H' hp rc xc ca
          have e1 : (fun b => Zall B.z σ env1 b ∨ b = p) = Zall (B.add p).z σ env1 := by
            funext b
            exact propext ⟨fun h => by rcases h with (h | h) | h; exact .inl (.inl h); exact .inr h; exact .inl (.inr h), fun h => by rcases h with (h | h) | h; exact .inl (.inl h); exact .inr h; exact .inl (.inr h)⟩
          rw [e1] at rc ca
          obtain ⟨r2, x2, zy, zz⟩ := rel1.back hv es nd (z2 := (B.add p).z) (fun _ z => .inl z) (fun a z => by
            rcases z with z | z
            · exact .inl z
            · subst z; exact .inr hp) rc xc eb
          refine q p H' (fresh_fr (B := B) ext1 hp) r2 (fun z => rel1.free hp (.inl z)) (fun z => rel1.free hp (.inr ((zz p).mp z))) (ext1.trans x2) ?_
          rw [zy]
          exact ca
      | exc c fs cs =>
        rw [eF] at q
        cases eb : backE env1 as ms cs with
        | none => simp only [eb] at q; exact False.elim q
        | some env2 =>
          simp only [eb] at q
          intro cls od H' rc xc hx
          obtain ⟨r2, x2, zy, _⟩ := rel1.back hv es nd (fun _ z => z) (fun _ z => .inl z) rc xc eb
          refine q cls od H' r2 (ext1.trans x2) ?_
          rw [zy]
          exact hx
      | ret c cs => rw [eF] at q; exact False.elim q
      | bad => rw [eF] at q; exact False.elim q
    · exact False.elim q
theorem mf_call {k : Nat} {f : Addr} {fd : FuncData} {ps : List Str} {F : Fn} {ms : List Bool} {m : M (List Arg)} {x : Str} (FO : FnOk X.prog X.w X.K X.mg X.base (L2.CX X.prog X.w) k f fd ps (spOf X.K ⟨X.mg, X.prog, X.w, none⟩ F)) (hx : G.ex = none) (hr : Room k X.A) (hg : Gl X x) (hm : X.mg x = some (.ref f)) (hk : PySem.W.keepIn X.K (.ref f) = true)
    (hb : Binds X.K fd ps []) (tk : Takes X G.W) (ha : MA X G (e :: es) m) (hdb : (x == ("__debug__" : Str)) = false := by decide) (he : starEach (e :: es) X.env = (false, eval e X.env) :: starEach es X.env := by rfl) (hpl : (backTo pos (starEach es X.env)).any (·.1) = false := by rfl) :
    MF X G (.Call (.Name x p) (e :: es) [] pos) (mCallN F ms m) :=
  PEimp (pe_callSD (dvs := []) (E := fun σ cls od H' => G.W cls od σ H') FO hr hg hm hk hb .nil (fun σ => passAt tk σ) ha hdb he hpl) fun σ H Q h => by
    obtain ⟨env, rel, post⟩ := callN_lift h
    exact ⟨env, rel, post.imp fun as env1 H1 _ _ q vs hv => by
      show spOf X.K ⟨X.mg, X.prog, X.w, none⟩ F (vs ++ []) H1 Q _
      rw [List.append_nil]
      have q := q vs hv
      have e : (bd X G).mg = ⟨X.mg, X.prog, X.w, none⟩ := by show Mw.mk _ _ _ G.ex = _; rw [hx]
      rw [e] at q
      exact q⟩
/-- f(e, ..) -/
theorem me_call {k : Nat} {f : Addr} {fd : FuncData} {ps : List Str} {F : Fn} {ms : List Bool} {m : M (List Arg)} {x : Str} (FO : FnOk X.prog X.w X.K X.mg X.base (L2.CX X.prog X.w) k f fd ps (spOf X.K ⟨X.mg, X.prog, X.w, none⟩ F)) (hx : G.ex = none) (hr : Room k X.A) (hg : Gl X x) (hm : X.mg x = some (.ref f)) (hk : PySem.W.keepIn X.K (.ref f) = true)
    (hb : Binds X.K fd ps []) (tk : Takes X G.W) (ha : MA X G (e :: es) m) (hdb : (x == ("__debug__" : Str)) = false := by decide) (he : starEach (e :: es) X.env = (false, eval e X.env) :: starEach es X.env := by rfl) (hpl : (backTo pos (starEach es X.env)).any (·.1) = false := by rfl) :
    ME X G (.Call (.Name x p) (e :: es) [] pos) (mCall F ms m) :=
  PEimp (pe_callSD (dvs := []) (E := fun σ cls od H' => G.W cls od σ H') FO hr hg hm hk hb .nil (fun σ => passAt tk σ) ha hdb he hpl) fun σ H Q h => by
    obtain ⟨env, rel, post⟩ := call_lift h
    exact ⟨env, rel, post.imp fun as env1 H1 _ _ q vs hv => by
      show spOf X.K ⟨X.mg, X.prog, X.w, none⟩ F (vs ++ []) H1 Q _
      rw [List.append_nil]
      have q := q vs hv
      have e : (bd X G).mg = ⟨X.mg, X.prog, X.w, none⟩ := by show Mw.mk _ _ _ G.ex = _; rw [hx]
      rw [e] at q
      exact q⟩
end
end Mi
namespace Mi
open PySem PySem.Spec L2
open PyProof.Rows hiding St

/-! ### comprehensions -/
theorem wipe_in {σ : St} {j : Nat} : ∀ {vs : List Nat}, j ∈ vs → j < σ.length → (wipe σ vs)[j]? = some none
  | [], h, _ => by cases h
  | i :: vs, h, hl => by
    show ((wipe σ vs).set i none)[j]? = some none
    by_cases e : i = j
    · subst e
      rw [List.getElem?_set_self (by rw [wipe_length]; exact hl)]
    · rw [List.getElem?_set_ne e]
      exact wipe_in ((List.mem_cons.mp h).resolve_left (Ne.symm e)) hl
theorem OffEq.wipe {vs : List Nat} {σ σ' : St} (h : OffEq vs σ σ') : L2.wipe σ' vs = L2.wipe σ vs := by
  apply List.ext_getElem?
  intro j
  by_cases hj : j ∈ vs
  · by_cases hl : j < σ.length
    · rw [wipe_in hj hl, wipe_in hj (by rw [h.1]; exact hl)]
    · rw [List.getElem?_eq_none (by rw [wipe_length, h.1]; omega), List.getElem?_eq_none (by rw [wipe_length]; omega)]
  · rw [wipe_out hj, wipe_out hj]
    exact h.2 j hj
theorem wipe_wipe {σ : St} {vs : List Nat} : L2.wipe (L2.wipe σ vs) vs = L2.wipe σ vs := by
  apply List.ext_getElem?
  intro j
  by_cases hj : j ∈ vs
  · by_cases hl : j < σ.length
    · rw [wipe_in hj hl, wipe_in hj (by rw [wipe_length]; exact hl)]
    · rw [List.getElem?_eq_none (by rw [wipe_length, wipe_length]; omega), List.getElem?_eq_none (by rw [wipe_length]; omega)]
  · rw [wipe_out hj, wipe_out hj]
/-- none of these slots holds a changing object -/
def noCel (env : Env') (vs : List Nat) : Bool := vs.all fun i => match env[i]? with
  | some (.cel _ _) => false
  | _ => true
theorem kill_get {j : Nat} : ∀ {vs : List Nat} {env : Env'}, (mKill vs env)[j]? = if j ∈ vs then (if j < env.length then some .emp else none) else env[j]?
  | [], env => by simp [mKill]
  | i :: vs, env => by
    show (mKill vs (env.set i .emp))[j]? = _
    rw [kill_get]
    by_cases hj : j ∈ vs
    · rw [if_pos hj, if_pos (List.mem_cons_of_mem _ hj)]
      simp
    · rw [if_neg hj]
      by_cases e : j = i
      · subst e
        rw [if_pos List.mem_cons_self]
        by_cases hl : j < env.length
        · rw [List.getElem?_set_self hl, if_pos hl]
        · rw [if_neg hl, List.getElem?_eq_none (by simpa using hl)]
      · rw [if_neg (by rw [List.mem_cons, not_or]; exact ⟨e, hj⟩), List.getElem?_set_ne (Ne.symm e)]
theorem kill_length {vs : List Nat} {env : Env'} : (mKill vs env).length = env.length := by
  induction vs generalizing env with
  | nil => rfl
  | cons i vs ih => show (mKill vs (env.set i .emp)).length = _; rw [ih]; simp
/-- the outer slots behind a block -/
def restE (env0 : Env') : List Nat → Env' → Env'
  | [], env => env
  | i :: vs, env => (restE env0 vs env).set i ((env0[i]?).getD .emp)
theorem restE_length {env0 : Env'} {vs : List Nat} {env : Env'} : (restE env0 vs env).length = env.length := by
  induction vs with
  | nil => rfl
  | cons i vs ih => show ((restE env0 vs env).set i _).length = _; rw [List.length_set, ih]
theorem restE_get {env0 : Env'} {j : Nat} : ∀ {vs : List Nat} {env : Env'}, (restE env0 vs env)[j]? = if j ∈ vs then (if j < env.length then some ((env0[j]?).getD .emp) else none) else env[j]?
  | [], env => by simp [restE]
  | i :: vs, env => by
    show ((restE env0 vs env).set i ((env0[i]?).getD .emp))[j]? = _
    by_cases e : j = i
    · subst e
      rw [if_pos List.mem_cons_self]
      by_cases hl : j < env.length
      · rw [List.getElem?_set_self (by rw [restE_length]; exact hl), if_pos hl]
      · rw [if_neg hl, List.getElem?_eq_none (by rw [List.length_set, restE_length]; omega)]
    · rw [List.getElem?_set_ne (Ne.symm e), restE_get]
      by_cases hj : j ∈ vs
      · rw [if_pos hj, if_pos (List.mem_cons_of_mem _ hj)]
      · rw [if_neg hj, if_neg (by rw [List.mem_cons, not_or]; exact ⟨e, hj⟩)]
/-- within a block nothing is raised -/
def R.nox {α : Type} : R α → R α
  | .exc _ _ _ => .bad
  | r => r
theorem PostF.nox {B B' : Bd} {W : WX} {σ σ' : St} {env env' : Env'} {H H' : Hp} {α : Type} {r : R α} {f : α → Env' → R Cell} {k : Addr → Hp → Prop} (h : PostF B W σ env H (r.nox.bind f) k) :
    Post B' (fun _ _ _ _ => False) σ' env' H' r fun x env1 _ => PostF B W σ env H (f x env1) k := by
  cases r with
  | ok a e => exact fun H' rel ext => h
  | exc c fs e => exact False.elim h
  | bad => exact h
noncomputable def compL (w : Wat) (g : MG) (t : M Bool) (m : M D) (vs : List Nat) : List D → List D → M (List D)
  | [], acc => fun env => if w.ok env then .ok acc env else .bad
  | d :: ds, acc => fun env => if w.ok env then (match g d env with
    | none => .bad
    | some e1 => (t e1).nox.bind fun b e2 => if b = true then (m e2).nox.bind fun x e3 => compL w g t m vs ds (acc ++ [x]) (mKill vs e3) else compL w g t m vs ds acc (mKill vs e2)) else .bad
noncomputable def mComp (mi : M Src) (g : MG) (t : M Bool) (m : M D) (vs : List Nat) : M Cell := fun env => (mi env).bind fun x env0 =>
  if noCel env0 vs = true ∧ x.1.length ≤ sizeLine then (compL x.2 g t m vs x.1 [] (mKill vs env0)).bind fun acc envB => .ok (.lst acc) (restE env0 vs envB) else .bad
def wNo : WX := fun _ _ _ _ => False
section
variable {B : Bd} {σ : St} {env env0 envB : Env'} {H H0 H' : Hp} {vs : List Nat}
/-- into a block -/
theorem Rel.wiped (r : Rel B σ env H) (vs : List Nat) : Rel B (L2.wipe σ vs) (mKill vs env) H ∧ Ext σ env H (L2.wipe σ vs) (mKill vs env) H := by
  have sub : ∀ a, Zof (L2.wipe σ vs) (mKill vs env) a → Zof σ env a := fun a ⟨i, o, c, e1, e2⟩ => by
    rw [kill_get] at e1
    split at e1
    · split at e1 <;> cases e1
    · rename_i hi
      rw [wipe_out hi] at e2
      exact ⟨i, o, c, e1, e2⟩
  have ext : Ext σ env H (L2.wipe σ vs) (mKill vs env) H := Gr.sub sub
  have g : Gr H (Zall B.z σ env) H (Zall B.z (L2.wipe σ vs) (mKill vs env)) := Gr.all ext
  refine ⟨⟨by rw [kill_length, wipe_length]; exact r.len, fun i d e => ?_, fun i o c e => ?_, fun i j o o' c c' a h1 h2 h3 h4 => ?_, r.z0, r.pz, r.kp⟩, ext⟩
  · rw [kill_get] at e
    split at e
    · split at e <;> cases e
    · rename_i hi
      obtain ⟨v, h1, h2⟩ := r.val i d e
      exact ⟨v, by rw [wipe_out hi]; exact h1, Rep.mono g h2⟩
  · rw [kill_get] at e
    split at e
    · split at e <;> cases e
    · rename_i hi
      obtain ⟨a, h1, h2, h3⟩ := r.chg i o c e
      exact ⟨a, by rw [wipe_out hi]; exact h1, h2.mono g (fun _ q => q), h3⟩
  · rw [kill_get] at h1 h2
    split at h1
    · split at h1 <;> cases h1
    · rename_i hi
      split at h2
      · split at h2 <;> cases h2
      · rename_i hj
        rw [wipe_out hi] at h3
        rw [wipe_out hj] at h4
        exact r.dist i j o o' c c' a h1 h2 h3 h4
/-- back from a block -/
theorem Rel.restored (r0 : Rel B σ env0 H0) (hc : noCel env0 vs = true) {p : Addr} (np : H0 p = none) (rb : Rel (B.add p) (L2.wipe σ vs) envB H') (ext : Gr H0 (Zof (L2.wipe σ vs) (mKill vs env0)) H' (Zof (L2.wipe σ vs) envB))
    (hk : ∀ (i : Nat), i ∈ vs → ∀ o c, envB[i]? ≠ some (.cel o c)) :
    Rel (B.add p) σ (restE env0 vs envB) H' ∧ Ext σ env0 H0 σ (restE env0 vs envB) H' ∧ (∀ a, Zof σ (restE env0 vs envB) a ↔ Zof (L2.wipe σ vs) envB a) := by
  have notc : ∀ i, i ∈ vs → ∀ o c, env0[i]? ≠ some (.cel o c) := fun i hi o c e => by
    have := List.all_eq_true.mp hc i hi
    simp only [e] at this
    cases this
  have lenB : envB.length = env0.length := by
    have := rb.len
    rw [wipe_length] at this
    rw [this, r0.len]
  have cel : ∀ {i : Nat} {o : Bool} {c : Cell}, (restE env0 vs envB)[i]? = some (.cel o c) → i ∉ vs ∧ envB[i]? = some (.cel o c) := fun {i o c} e => by
    rw [restE_get] at e
    split at e
    · rename_i hi
      split at e
      · rename_i hl
        have hl : i < env0.length := by omega
        rw [List.getElem?_eq_getElem hl] at e
        exact absurd ((List.getElem?_eq_getElem hl).trans e) (notc i hi o c)
      · cases e
    · rename_i hi
      exact ⟨hi, e⟩
  have zz : ∀ a, Zof σ (restE env0 vs envB) a ↔ Zof (L2.wipe σ vs) envB a := fun a => by
    constructor
    · rintro ⟨i, o, c, e1, e2⟩
      obtain ⟨hi, e1⟩ := cel e1
      exact ⟨i, o, c, e1, by rw [wipe_out hi]; exact e2⟩
    · rintro ⟨i, o, c, e1, e2⟩
      by_cases hi : i ∈ vs
      · exact absurd e1 (hk i hi o c)
      · rw [wipe_out hi] at e2
        exact ⟨i, o, c, by rw [restE_get, if_neg hi]; exact e1, e2⟩
  have z0 : ∀ a, Zof (L2.wipe σ vs) (mKill vs env0) a ↔ Zof σ env0 a := fun a => by
    constructor
    · rintro ⟨i, o, c, e1, e2⟩
      rw [kill_get] at e1
      split at e1
      · split at e1 <;> cases e1
      · rename_i hi
        rw [wipe_out hi] at e2
        exact ⟨i, o, c, e1, e2⟩
    · rintro ⟨i, o, c, e1, e2⟩
      by_cases hi : i ∈ vs
      · exact absurd e1 (notc i hi o c)
      · exact ⟨i, o, c, by rw [kill_get, if_neg hi]; exact e1, by rw [wipe_out hi]; exact e2⟩
  have ext' : Ext σ env0 H0 σ (restE env0 vs envB) H' := fun a o h n => by
    have n' : ¬ Zof (L2.wipe σ vs) (mKill vs env0) a ∨ ¬ isMutO o := by
      rcases n with n | n
      · exact .inl fun q => n ((z0 a).mp q)
      · exact .inr n
    obtain ⟨h1, h2⟩ := ext a o h n'
    exact ⟨h1, fun m q => h2 (fun r => m ((z0 a).mp r)) ((zz a).mp q)⟩
  have g : Gr H0 (Zall B.z σ env0) H' (Zall (B.add p).z σ (restE env0 vs envB)) := fun a o h n => by
    obtain ⟨h1, h2⟩ := (Gr.all (z := B.z) ext') a o h n
    refine ⟨h1, fun m q => ?_⟩
    rcases q with (q | q) | q
    · exact h2 m (.inl q)
    · subst q
      rw [np] at h; cases h
    · exact h2 m (.inr q)
  have zy : Zall (B.add p).z σ (restE env0 vs envB) = Zall (B.add p).z (L2.wipe σ vs) envB := by
    funext a
    unfold Zall
    rw [propext (zz a)]
  refine ⟨⟨by rw [restE_length, lenB, r0.len], fun i d e => ?_, fun i o c e => ?_, fun i j o o' c c' a h1 h2 h3 h4 => ?_, rb.z0, rb.pz, rb.kp⟩, ext', zz⟩
  · rw [restE_get] at e
    split at e
    · rename_i hi
      split at e
      · rename_i hl
        have hl : i < env0.length := by omega
        rw [List.getElem?_eq_getElem hl] at e
        obtain ⟨v, h1, h2⟩ := r0.val i d ((List.getElem?_eq_getElem hl).trans e)
        exact ⟨v, h1, Rep.mono g h2⟩
      · cases e
    · rename_i hi
      obtain ⟨v, h1, h2⟩ := rb.val i d e
      rw [wipe_out hi] at h1
      exact ⟨v, h1, by show Rep _ _ _ (Zall (B.add p).z _ _) _ _; rw [zy]; exact h2⟩
  · obtain ⟨hi, e⟩ := cel e
    obtain ⟨a, h1, h2, h3⟩ := rb.chg i o c e
    rw [wipe_out hi] at h1
    exact ⟨a, h1, by show CellAt _ _ _ (Zall (B.add p).z _ _) _ _; rw [zy]; exact h2, h3⟩
  · obtain ⟨hi, h1⟩ := cel h1
    obtain ⟨hj, h2⟩ := cel h2
    exact rb.dist i j o o' c c' a h1 h2 (by rw [wipe_out hi]; exact h3) (by rw [wipe_out hj]; exact h4)
end
/-- within a block: for any addresses apart -/
def exGp (is : List Nat) (K : PySem.W.Frag) (mg : Mw) (p : Nat → Option Addr) (kp : Addr → Option HO) (g : MG) : TG := fun v σ H Q => ∃ z, liftG is ⟨K, mg, z, p, kp⟩ g v σ H Q
def exT (K : PySem.W.Frag) (mg : Mw) (p : Nat → Option Addr) (kp : Addr → Option HO) (m : M Bool) : TT := fun σ H Q => ∃ z, liftT ⟨K, mg, z, p, kp⟩ wNo m σ H Q
def exE (K : PySem.W.Frag) (mg : Mw) (p : Nat → Option Addr) (kp : Addr → Option HO) (m : M D) : TE := fun σ H Q => ∃ z, liftE ⟨K, mg, z, p, kp⟩ wNo m σ H Q
def mYes : M Bool := fun env => .ok true env
abbrev MTs (X : Cx) (G : Gd) (es : List Expr) (m : M Bool) : Prop := PTs X es (liftT (bd X G) G.W m)
theorem mts_nil {X : Cx} {G : Gd} : MTs X G [] mYes := ⟨fun pins s σ H Q I ⟨env, rel, post⟩ => pts_nil.run pins s σ H Q I (Post.ok rel post)⟩
theorem mts_one {X : Cx} {G : Gd} {c : Expr} {m : M Bool} (h : MT X G c m) : MTs X G [c] m := pts_one h
/-- an object that stands apart is changed -/
theorem Rel.poke {B : Bd} {σ : St} {env : Env'} {H : Hp} (r : Rel B σ env H) {a : Addr} {o : HO} (hz : B.z a) (nf : ¬ Zof σ env a) (m : isMutO o) : Rel B σ env (upd H a o) ∧ Gr H (Zall B.z σ env) (upd H a o) (Zall B.z σ env) := by
  obtain ⟨o0, h0, m0⟩ := r.z0 a hz
  have g : Gr H (Zall B.z σ env) (upd H a o) (Zall B.z σ env) := fun b u e n => by
    have ne : b ≠ a := fun q => by
      subst q
      rcases n with n | n
      · exact n (.inl hz)
      · rw [h0] at e; cases e; exact n m0
    exact ⟨by rw [upd_ne ne]; exact e, id⟩
  refine ⟨⟨r.len, fun i d e => ?_, fun i o' c e => ?_, r.dist, fun b q => ?_, r.pz, fun a o e => g.kp (r.kp a o e)⟩, g⟩
  · obtain ⟨v, h1, h2⟩ := r.val i d e
    exact ⟨v, h1, Rep.mono g h2⟩
  · obtain ⟨b, h1, h2, h3⟩ := r.chg i o' c e
    have ne : b ≠ a := fun q => by subst q; exact nf ⟨i, o', c, e, h1⟩
    exact ⟨b, h1, h2.mono g (fun u q => by rw [upd_ne ne]; exact q), h3⟩
  · by_cases e : b = a
    · subst e; exact ⟨o, upd_same, m⟩
    · obtain ⟨u, e1, e2⟩ := r.z0 b q
      exact ⟨u, by rw [upd_ne e]; exact e1, e2⟩
theorem comp_lift {B : Bd} {W : WX} {mi : M Src} {is vs : List Nat} {g : MG} {t : M Bool} {m : M D} {σ : St} {H : Hp} {Q : VK} (hs : ∀ i ∈ is, i ∈ vs) (h : liftF B W (mComp mi g t m vs) σ H Q) :
    tLc (liftI B W mi) (exGp is B.K B.mg B.p B.kp g) (exT B.K B.mg B.p B.kp t) (exE B.K B.mg B.p B.kp m) vs σ H Q := by
  obtain ⟨env, rel, post⟩ := h
  refine ⟨env, rel, (PostF.seq post).imp fun x env0 H1 rel1 ext1 q J hJ Dd hD => ?_⟩
  obtain ⟨ds, w⟩ := x
  have q : PostF B W σ env H (if noCel env0 vs = true ∧ ds.length ≤ sizeLine then (compL w g t m vs ds [] (mKill vs env0)).bind fun acc envB => .ok (.lst acc) (restE env0 vs envB) else .bad) fun p H' => Q (.ref p) H' := q
  split at q
  · rename_i hcz
    obtain ⟨hc, hz⟩ := hcz
    have relN : Rel (B.add Dd) σ env0 (upd H1 Dd (.lst [])) := rel1.addNew hD trivial
    obtain ⟨rb, xb⟩ := relN.wiped vs
    have xb' : Ext σ env0 H1 (L2.wipe σ vs) (mKill vs env0) (upd H1 Dd (.lst [])) := ((Grow.upd hD).gr _).trans xb
    have nz : ¬ B.z Dd := fun z => rel1.free hD (.inl z)
    have nf : ¬ Zof σ env0 Dd := fun z => rel1.free hD (.inr z)
    -- the invariant: at turn i
    let Inv' : Nat → Hp → Prop := fun i H2 => ∃ acc envB avs, Rel (B.add Dd) (L2.wipe σ vs) envB H2 ∧ Gr H1 (Zof (L2.wipe σ vs) (mKill vs env0)) H2 (Zof (L2.wipe σ vs) envB) ∧ Ext σ env0 H1 (L2.wipe σ vs) envB H2 ∧
      (∀ (j : Nat), j ∈ vs → ∀ o c, envB[j]? ≠ some (.cel o c)) ∧ acc.length ≤ i ∧ ¬ Zof (L2.wipe σ vs) envB Dd ∧
      H2 Dd = some (.lst avs) ∧ Reps B.K B.mg H2 (Zall (B.add Dd).z (L2.wipe σ vs) envB) acc avs ∧
      PostF B W σ env H ((compL w g t m vs (ds.drop i) acc envB).bind fun acc envB => .ok (.lst acc) (restE env0 vs envB)) fun p H' => Q (.ref p) H'
    have nocel : ∀ (e : Env') (j : Nat), j ∈ vs → ∀ o c, (mKill vs e)[j]? ≠ some (.cel o c) := fun e j hj o c h => by
      rw [kill_get, if_pos hj] at h
      split at h <;> cases h
    refine ⟨fun i k H2 => k + i = ds.length ∧ Inv' i H2, ⟨ds.length, rfl, [], mKill vs env0, [], rb, (Grow.upd hD).gr _, xb', nocel env0, Nat.le_refl _, ?_, upd_same, .nil, by rw [List.drop_zero]; exact q⟩, ?_⟩
    · rintro ⟨j, o, c, e1, e2⟩
      rw [kill_get] at e1
      split at e1
      · split at e1 <;> cases e1
      · rename_i hj
        rw [wipe_out hj] at e2
        exact nf ⟨j, o, c, e1, e2⟩
    rintro i k H2 ⟨hk, acc, envB, avs, rB, gB, xB, hkc, hai, nzB, hDa, hacc, post2⟩
    have gJ : Gr H1 (Zall B.z σ env0) H2 (Zall (B.add Dd).z (L2.wipe σ vs) envB) := fun a o h n => by
      obtain ⟨h1, h2⟩ := (Gr.all (z := B.z) xB) a o h n
      refine ⟨h1, fun m q => ?_⟩
      rcases q with (q | q) | q
      · exact h2 m (.inl q)
      · subst q; rw [hD] at h; cases h
      · exact h2 m (.inr q)
    have look : w.ok envB → J.stop ds.length H2 ∧ ∀ i d, ds[i]? = some d → J.go i H2 ∧ ∀ v H', J.yld i H2 v H' → Grow H2 H' ∧ Rep B.K B.mg H' (Zall (B.add Dd).z (L2.wipe σ vs) envB) d v := fun wo => by
      refine hJ.2 (B.add Dd).z B.p (L2.wipe σ vs) envB H2 rB gJ fun j o c e => ?_
      have e : w = some (j, o, c) := e
      rw [e] at wo
      have wo : envB[j]? = some (.cel o c) := wo
      exact ⟨o, wo, wipe_out fun hj => hkc j hj o c wo⟩
    cases k with
    | zero =>
      have hi : i = ds.length := by omega
      subst hi
      rw [List.drop_length] at post2
      have post2 : PostF B W σ env H ((if w.ok envB then R.ok acc envB else .bad).bind fun acc envB => .ok (.lst acc) (restE env0 vs envB)) fun p H' => Q (.ref p) H' := post2
      by_cases wo : w.ok envB
      case neg => rw [if_neg wo] at post2; exact False.elim post2
      rw [if_pos wo] at post2
      obtain ⟨st, _⟩ := look wo
      have post2 : PostF B W σ env H (.ok (.lst acc) (restE env0 vs envB)) _ := post2
      obtain ⟨rr, xr, zz⟩ := rel1.restored hc hD rB gB hkc
      refine .inl ⟨st, post2 Dd H2 (fresh_fr (B := B) ext1 hD) rr nz (fun z => nzB ((zz Dd).mp z)) (ext1.trans xr) (.lst hDa ?_)⟩
      have zy : Zall (B.add Dd).z σ (restE env0 vs envB) = Zall (B.add Dd).z (L2.wipe σ vs) envB := by
        funext a
        unfold Zall
        rw [propext (zz a)]
      rw [zy]
      exact hacc
    | succ k =>
      have hi : i < ds.length := by omega
      have hd : ds[i]? = some ds[i] := List.getElem?_eq_getElem hi
      rw [List.drop_eq_getElem_cons hi] at post2
      have post2 : PostF B W σ env H ((if w.ok envB then (match g ds[i] envB with
        | none => R.bad
        | some e1 => (t e1).nox.bind fun b e2 => if b = true then (m e2).nox.bind fun x e3 => compL w g t m vs (ds.drop (i + 1)) (acc ++ [x]) (mKill vs e3) else compL w g t m vs (ds.drop (i + 1)) acc (mKill vs e2)) else .bad).bind fun acc envB => .ok (.lst acc) (restE env0 vs envB)) fun p H' => Q (.ref p) H' := post2
      by_cases wo : w.ok envB
      case neg => rw [if_neg wo] at post2; exact False.elim post2
      rw [if_pos wo] at post2
      obtain ⟨_, hgo⟩ := look wo
      obtain ⟨go, yl⟩ := hgo i ds[i] hd
      refine .inr ⟨go, Inv' (i + 1), fun H3 h => ⟨k, Nat.lt_succ_self k, by omega, h⟩, fun x H3 hy => ?_⟩
      obtain ⟨gr, rep⟩ := yl x H3 hy
      have post2 : PostF B W σ env H ((match g ds[i] envB with
        | none => R.bad
        | some e1 => (t e1).nox.bind fun b e2 => if b = true then (m e2).nox.bind fun x e3 => compL w g t m vs (ds.drop (i + 1)) (acc ++ [x]) (mKill vs e3) else compL w g t m vs (ds.drop (i + 1)) acc (mKill vs e2)).bind fun acc envB => .ok (.lst acc) (restE env0 vs envB)) fun p H' => Q (.ref p) H' := post2
      cases eg : g ds[i] envB with
      | none => rw [eg] at post2; exact False.elim post2
      | some e1 =>
        rw [eg] at post2
        refine ⟨(B.add Dd).z, envB, ds[i], e1, rB.grow gr, rep, eg, fun σ2 rel2 x2 off => ?_⟩
        have hw : L2.wipe σ2 vs = L2.wipe σ vs := by
          rw [← wipe_wipe (σ := σ)]
          exact OffEq.wipe ⟨off.1, fun j hj => off.2 j fun q => hj (hs j q)⟩
        refine ⟨hw, (B.add Dd).z, e1, rel2, ?_⟩
        have bb : ∀ {α : Type} (r : R α) (f : α → Env' → R (List D)) (h : List D → Env' → R Cell), ((r.nox.bind f).bind h) = r.nox.bind fun x e => (f x e).bind h := fun r f h => by
          cases r <;> rfl
        have post3 : PostF B W σ env H ((t e1).nox.bind fun b e2 => (if b = true then (m e2).nox.bind fun x e3 => compL w g t m vs (ds.drop (i + 1)) (acc ++ [x]) (mKill vs e3) else compL w g t m vs (ds.drop (i + 1)) acc (mKill vs e2)).bind fun acc envB => .ok (.lst acc) (restE env0 vs envB)) fun p H' => Q (.ref p) H' := by
          rw [← bb]
          exact post2
        -- what is known at a later point of the turn
        have later : ∀ {e : Env'} {H4 : Hp}, Rel (B.add Dd) σ2 e H4 → Ext σ2 e1 H3 σ2 e H4 → (Rel (B.add Dd) (L2.wipe σ vs) (mKill vs e) H4 ∧ Gr H1 (Zof (L2.wipe σ vs) (mKill vs env0)) H4 (Zof (L2.wipe σ vs) (mKill vs e)) ∧ Ext σ env0 H1 (L2.wipe σ vs) (mKill vs e) H4 ∧
            ¬ Zof (L2.wipe σ vs) (mKill vs e) Dd ∧ H4 Dd = some (.lst avs) ∧ Reps B.K B.mg H4 (Zall (B.add Dd).z (L2.wipe σ vs) (mKill vs e)) acc avs) := fun {e H4} rel4 x4 => by
          obtain ⟨rw4, xw4⟩ := rel4.wiped vs
          rw [hw] at rw4 xw4
          have xx : Ext (L2.wipe σ vs) envB H2 (L2.wipe σ vs) (mKill vs e) H4 := ((gr.gr _).trans x2).trans (x4.trans xw4)
          have d4 := xx Dd _ hDa (.inl nzB)
          exact ⟨rw4, gB.trans xx, xB.trans xx, d4.2 nzB, d4.1, Reps.mono (Gr.all xx) hacc⟩
        refine (PostF.nox post3).imp fun b e2 H4 rel4 x4 post4 => ?_
        cases b with
        | false =>
          rw [if_neg Bool.false_ne_true]
          rw [if_neg Bool.false_ne_true] at post4
          obtain ⟨l1, l2, l3, l4, l5, l6⟩ := later rel4 x4
          exact ⟨acc, mKill vs e2, avs, l1, l2, l3, nocel e2, by omega, l4, l5, l6, post4⟩
        | true =>
          rw [if_pos rfl]
          rw [if_pos rfl, bb] at post4
          refine ⟨(B.add Dd).z, e2, rel4, (PostF.nox post4).imp fun y e3 H5 rel5 x5 post5 v hv => ?_⟩
          obtain ⟨l1, l2, l3, l4, l5, l6⟩ := later rel5 (x4.trans x5)
          have lenacc : acc.length = avs.length := Reps.length hacc
          refine ⟨avs, l5, by omega, ?_⟩
          obtain ⟨rp, gp⟩ := l1.poke (o := .lst (avs ++ [v])) (.inr rfl) l4 trivial
          have hv' : Rep B.K B.mg H5 (Zall (B.add Dd).z (L2.wipe σ vs) (mKill vs e3)) y v := by
            obtain ⟨_, xw⟩ := rel5.wiped vs
            rw [hw] at xw
            exact Rep.mono (Gr.all xw) hv
          have step : ∀ {Z Z' : Addr → Prop}, Gr H1 Z H5 Z' → Gr H1 Z (upd H5 Dd (.lst (avs ++ [v]))) Z' := fun {Z Z'} g a o h n => by
            have ne : a ≠ Dd := ne_of_none h hD
            obtain ⟨h1, h2⟩ := g a o h n
            exact ⟨by rw [upd_ne ne]; exact h1, h2⟩
          refine ⟨acc ++ [y], mKill vs e3, avs ++ [v], rp, step l2, step l3, nocel e3, by simp; omega, l4, upd_same, ?_, post5⟩
          exact (Reps.mono gp l6).append (.cons (Rep.mono gp hv') .nil)
  · exact False.elim q
section
variable {X : Cx} {G : Gd} {elt tg iter : Expr} {ifs : List Expr} {scope : Scope} {own : List (Str × Nat)} {pos : Pos} {mi : M Src} {is : List Nat} {g : MG} {t : M Bool} {m : M D}
/-- [elt for tg in iter if ..] -/
theorem mf_comp (hc : X.calm = true) (hN : X.N.Nodup) (hi : MI X G tg iter mi) (ok : BlkOk X.N X.env.scope scope own) (his : ∀ i ∈ is, i ∈ own.map (·.2))
    (hg : ∀ (s : Shared) (H : Hp) (C : Addr) (cl : List (Str × Addr)) (fp : List Addr) (z : Addr → Prop), MTg (X.blk s H scope (compEnvC scope cl C X.env) fp) ⟨z, G.p, wNo, G.kp, G.ex⟩ tg is g)
    (ht : ∀ (s : Shared) (H : Hp) (C : Addr) (cl : List (Str × Addr)) (fp : List Addr) (z : Addr → Prop), MTs (X.blk s H scope (compEnvC scope cl C X.env) fp) ⟨z, G.p, wNo, G.kp, G.ex⟩ ifs t)
    (he : ∀ (s : Shared) (H : Hp) (C : Addr) (cl : List (Str × Addr)) (fp : List Addr) (z : Addr → Prop), ME (X.blk s H scope (compEnvC scope cl C X.env) fp) ⟨z, G.p, wNo, G.kp, G.ex⟩ elt m)
    (hs : ∀ x, foldedSetIterable iter X.env x = pure x := by intro _; rfl) : MF X G (.ListComp elt [⟨tg, iter, ifs, 0⟩] scope pos) (mComp mi g t m (own.map (·.2))) :=
  PEimp (pe_lc hc hN hi ok (g := exGp is X.K (mw X G) G.p G.kp g) (tt := exT X.K (mw X G) G.p G.kp t) (te := exE X.K (mw X G) G.p G.kp m)
    (fun s H C cl fp => ⟨fun pins s' σ H v u Q I r ⟨z, q⟩ => (hg s _ C cl fp z).run pins s' σ H v u Q I r q⟩)
    (fun s H C cl fp => ⟨fun pins s' σ H Q I ⟨z, q⟩ => (ht s _ C cl fp z).run pins s' σ H Q I q⟩)
    (fun s H C cl fp => ⟨fun pins s' σ H Q I ⟨z, q⟩ => (he s _ C cl fp z).run pins s' σ H Q I q⟩) hs) fun σ H Q h => comp_lift his h
/-- a new list becomes a value -/
def mFrL (m : M Cell) : M D := fun env => (m env).bind fun c env => match c with
  | .lst ds => .ok (.lst ds) env
  | _ => .bad
theorem frL_lift {B : Bd} {W : WX} {m : M Cell} {σ : St} {H : Hp} {Q : VK} (h : liftE B W (mFrL m) σ H Q) : liftF B W m σ H Q := by
  obtain ⟨env, rel, post⟩ := h
  refine ⟨env, rel, ?_⟩
  unfold mFrL at post
  cases e : m env with
  | ok c env' =>
    rw [e] at post
    intro p H' fr r' nz nf ext ca
    cases c with
    | lst ds =>
      have np : ¬ Zall B.z σ env' p := fun q => by
        rcases q with q | q
        · exact nz q
        · exact nf q
      obtain ⟨o, h0, m0⟩ := ca.there
      obtain ⟨r2, g⟩ := Rel.frzNew rel.pz r' nz nf h0 m0 (fun _ _ _ e => e)
      exact post H' r2 ext (.ref p) (ca.rep rfl np g)
    | _ => exact False.elim post
  | exc c fs env' => rw [e] at post; exact post
  | bad => rw [e] at post; exact post
/-- name = [..] on one line -/
theorem mst_setComp {i : Nat} {y : Str} {py spos : Pos} (hc : X.calm = true) (hN : X.N.Nodup) (hy : X.N[i]? = some y) (hyl : X.env.scope.names.lookup y = some .local) (hsw : swapsWith (.ListComp elt [⟨tg, iter, ifs, 0⟩] scope pos) (some (.Name y py)) spos.line X.env = pure true)
    (hi : MI X G tg iter mi) (ok : BlkOk X.N X.env.scope scope own) (his : ∀ i ∈ is, i ∈ own.map (·.2))
    (hg : ∀ (s : Shared) (H : Hp) (C : Addr) (cl : List (Str × Addr)) (fp : List Addr) (z : Addr → Prop), MTg (X.blk s H scope (compEnvC scope cl C X.env) fp) ⟨z, G.p, wNo, G.kp, G.ex⟩ tg is g)
    (ht : ∀ (s : Shared) (H : Hp) (C : Addr) (cl : List (Str × Addr)) (fp : List Addr) (z : Addr → Prop), MTs (X.blk s H scope (compEnvC scope cl C X.env) fp) ⟨z, G.p, wNo, G.kp, G.ex⟩ ifs t)
    (he : ∀ (s : Shared) (H : Hp) (C : Addr) (cl : List (Str × Addr)) (fp : List Addr) (z : Addr → Prop), ME (X.blk s H scope (compEnvC scope cl C X.env) fp) ⟨z, G.p, wNo, G.kp, G.ex⟩ elt m)
    (hs : ∀ x, foldedSetIterable iter X.env x = pure x := by intro _; rfl) : MSt X G (.Assign [.Name y py] (.ListComp elt [⟨tg, iter, ifs, 0⟩] scope pos) spos) (mAsgNew i (mComp mi g t m (own.map (·.2)))) ∧
      MSt X G (.Assign [.Name y py] (.ListComp elt [⟨tg, iter, ifs, 0⟩] scope pos) spos) (mAsg (mFrL (mComp mi g t m (own.map (·.2)))) (gN i)) := by
  have base := ps_setLc (py := py) (spos := spos) hc hN hy hyl hsw hi ok (g := exGp is X.K (mw X G) G.p G.kp g) (tt := exT X.K (mw X G) G.p G.kp t) (te := exE X.K (mw X G) G.p G.kp m)
    (fun s H C cl fp => ⟨fun pins s' σ H v u Q I r ⟨z, q⟩ => (hg s _ C cl fp z).run pins s' σ H v u Q I r q⟩)
    (fun s H C cl fp => ⟨fun pins s' σ H Q I ⟨z, q⟩ => (ht s _ C cl fp z).run pins s' σ H Q I q⟩)
    (fun s H C cl fp => ⟨fun pins s' σ H Q I ⟨z, q⟩ => (he s _ C cl fp z).run pins s' σ H Q I q⟩) hs
  refine ⟨PSimp base fun Dn σ H h => comp_lift his (asgNew_lift h), PSimp base fun Dn σ H h => comp_lift (Q := fun x H1 => gName i x σ H1 Dn.nx) his (frL_lift ?_)⟩
  obtain ⟨env, rel, post⟩ := asg_lift (is := [i]) h
  exact ⟨env, rel, post.imp fun d env1 H1 rel1 ext1 q v hv => by
    obtain ⟨env2, d2, env3, r2, rep2, hg, k⟩ := q v hv
    have : env2.set i (.val d2) = env3 := Option.some.inj hg
    subst this
    exact k _ (r2.setVal i rep2) (Ext.setVal i) ⟨by simp, fun j hj => get_set_ne (by simpa using hj)⟩⟩
end
end Mi
namespace Mi
open PySem PySem.Spec L2
open PyProof.Rows hiding St

section
variable {K : PySem.W.Frag} {mg : Mw} {H H' : Hp} {Z : Addr → Prop} {x y : V}
theorem RepB.int {i : Int} (h : RepB K mg H Z (.int i) x) : x = .int i := by cases h with | val h => cases h; rfl
theorem RepB.bl {i : Bool} (h : RepB K mg H Z (.bl i) x) : x = .bl i := by cases h with | val h => cases h; rfl
theorem RepB.str {i : Str} (h : RepB K mg H Z (.str i) x) : x = .str i := by cases h with | val h => cases h; rfl
theorem RepB.non (h : RepB K mg H Z .non x) : x = .non := by cases h with | val h => cases h; rfl
theorem RdL.sq {a : Addr} {vs : List V} (h : RdL K H Z a vs) : SqL K H a vs := by
  rcases h with ⟨_, h⟩ | h
  · exact .inl h
  · exact .inr h
theorem RepB.lst' {ds : List D} (h : RepB K mg H Z (.lst ds) x) : ∃ a vs, x = .ref a ∧ SqL K H a vs ∧ Reps K mg H Z ds vs := by
  cases h with
  | val h => cases h with | lst h r => exact ⟨_, _, rfl, h.sq, r⟩
  | lst h r => exact ⟨_, _, rfl, SqL.of h, r⟩
theorem RepB.tup' {ds : List D} (h : RepB K mg H Z (.tup ds) x) : ∃ a vs, x = .ref a ∧ XT K H a vs ∧ Reps K mg H Z ds vs := by
  cases h with | val h => cases h with | tup h r => exact ⟨_, _, rfl, h, r⟩
theorem RepB.dct' {ds : List (D × D)} (h : RepB K mg H Z (.dct ds) x) : ∃ a kws, x = .ref a ∧ Rd H a (.dK kws) ∧ RepKs K mg H Z ds kws := by
  cases h with
  | val h => cases h with | dct h r => exact ⟨_, _, rfl, .inr ⟨_, h⟩, r⟩
  | dct h r => exact ⟨_, _, rfl, .inl h, r⟩
theorem DGet.k' {H : Hp} {a : Addr} {kvs : List (Key × V)} {k : Key} (e : Rd H a (.dK kvs)) : DGet H a (kV k) (valV kvs k) := .inl ⟨kvs, k, e, rfl, rfl⟩
theorem RepB.tup {ds : List D} (h : RepB K mg H Z (.tup ds) x) : Rep K mg H Z (.tup ds) x := by cases h with | val h => exact h
end
section
variable {X : Cx} {K : PySem.W.Frag} {mg : Mw}
theorem Live.free {H : Hp} {Z : Addr → Prop} (l : Live H Z) {p : Addr} (h : H p = none) : ¬ Z p := fun q => by
  obtain ⟨o, e, _⟩ := l p q
  rw [h] at e; cases e
theorem Rep.newT {H : Hp} {Z : Addr → Prop} {p : Addr} {ob : Obj} {ds : List D} {vs : List V} (ho : ob.dict = none) (hp : H p = none) (r : Reps K mg H Z ds vs) : Rep K mg (upd H p (.frz ob (.tup vs))) Z (.tup ds) (.ref p) := .tup (.inl ⟨ob, ho, upd_same⟩) (r.mono ((Grow.upd hp).gr _))
theorem Rep.newL {H : Hp} {Z : Addr → Prop} {p : Addr} {ds : List D} {vs : List V} (l : Live H Z) (hp : H p = none) (r : Reps K mg H Z ds vs) : Rep K mg (upd H p (.lst vs)) Z (.lst ds) (.ref p) :=
  .lst (.inl ⟨l.free hp, .inl upd_same⟩) (r.mono ((Grow.upd hp).gr _))

/-! ### arithmetic and sums of rows -/
def dAdd : D → D → Option D
  | .int i, .int j => some (.int (i + j))
  | .str i, .str j => if i.length + j.length ≤ sizeLine then some (.str (i ++ j)) else none
  | .tup xs, .tup ys => if xs.length + ys.length ≤ sizeLine then some (.tup (xs ++ ys)) else none
  | .lst xs, .lst ys => if xs.length + ys.length ≤ sizeLine then some (.lst (xs ++ ys)) else none
  | _, _ => none
/-- two lists that are read, put together -/
theorem op_catS : OpR X (binaryOp .Add) (fun x y H Q => ∃ a b xs zs, x = .ref a ∧ y = .ref b ∧ SqL X.K H a xs ∧ SqL X.K H b zs ∧ xs.length + zs.length ≤ sizeLine ∧ ∀ p, H p = none → Q (.ref p) (upd H p (.lst (xs ++ zs)))) := by
  intro pins s σ H x y v u Q I rx ry h
  obtain ⟨l, b, xs, zs, rfl, rfl, hH, hB, hz, q⟩ := h
  cases rx
  cases ry
  obtain ⟨its, r, p1, _⟩ := I.list hH
  obtain ⟨its2, r2, p2, _⟩ := I.list hB
  have hl := r.length
  have hl2 := r2.length
  obtain ⟨⟨cls, dd, data, sl⟩, ho, hc, n, hd⟩ := id p1.isList
  obtain ⟨⟨cls2, dd2, data2, sl2⟩, ho2, hc2, n2, hd2⟩ := id p2.isList
  simp only at hc hd hc2 hd2
  subst hc hd hc2 hd2
  have ea : its.toArray ++ its2.toArray = (its ++ its2).toArray := by simp
  refine concat_meets ⟨_, ho, rfl⟩ ⟨_, ho2, rfl⟩ PySem.noFill_list_add PySem.seq_list_add PySem.F.slot_list_add PySem.F.entry_list_add (PySem.F.args_list_add_2 _ _) (list_addW l b its.toArray its2.toArray n n2 dd dd2 sl sl2 (by simp only [List.size_toArray]; omega)) ⟨ho, ho2, ?_⟩
  rw [ea]
  exact ⟨.ref _, _, I.lnew (t' := s.toks) (r.append r2) (by rw [List.length_append]; omega), rfl, q _ I.fresh⟩
/-- t + u -/
theorem op_catX : OpR X (binaryOp .Add) (fun x y H Q => ∃ a b xs ys, x = .ref a ∧ y = .ref b ∧ SqT X.K H a xs ∧ SqT X.K H b ys ∧ xs.length + ys.length ≤ sizeLine ∧
    (xs = [] → Q (.ref b) H) ∧ (xs ≠ [] → ys = [] → Q (.ref a) H) ∧ (xs ≠ [] → ys ≠ [] → ∀ p (ob : Obj), ob.dict = none → H p = none → Q (.ref p) (upd H p (.frz ob (.tup (xs ++ ys)))))) := by
  intro pins s σ H x y v u Q I rx ry h
  obtain ⟨a, b, xs, ys, rfl, rfl, ha, hb, hz, q0, q1, q2⟩ := h
  cases rx
  cases ry
  obtain ⟨its, r1, p1, _⟩ := I.tuple ha
  obtain ⟨its2, r2, p2, _⟩ := I.tuple hb
  by_cases hx : xs = []
  · subst hx
    cases r1
    exact cat_tup0 p1 p2 ⟨.ref b, H, I, rfl, q0 rfl⟩
  · refine HT.cat_tup p1 p2 (fun z => hx (r1.nil_iff.mp z)) (fun z => ⟨.ref a, H, I, rfl, q1 hx (r2.nil_iff.mp z)⟩) (fun z => ?_) (by rw [← r1.length, ← r2.length]; exact hz)
    obtain ⟨ob, ho, I2, hf⟩ := tup_new (t' := s.toks) I (r1.append r2) (by rw [List.length_append]; exact hz)
    exact ⟨.ref s.heap.objs.size, _, I2, rfl, q2 hx (fun w => z (r2.nil_iff.mpr w)) _ ob ho hf⟩
theorem opr_add : OpR X (binaryOp .Add) (rD X.K (mw X G) dAdd) := by
  intro pins s σ H x y v u Q I rx ry h
  obtain ⟨Z, d, e, lv, hd, he, d', hf, k⟩ := h
  unfold dAdd at hf
  split at hf
  · injection hf with hf
    subst hf
    have e1 := hd.int
    have e2 := he.int
    subst e1 e2
    exact op_add pins s σ H _ _ v u Q I rx ry ⟨_, _, rfl, rfl, k _ H (Grow.refl H) (.int _)⟩
  · split at hf
    · injection hf with hf
      subst hf
      have e1 := hd.str
      have e2 := he.str
      subst e1 e2
      exact op_add_str pins s σ H _ _ v u Q I rx ry ⟨_, _, rfl, rfl, by assumption, k _ H (Grow.refl H) (.str _)⟩
    · cases hf
  · split at hf
    · rename_i xs ys hz
      injection hf with hf
      subst hf
      obtain ⟨a, vs, rfl, h1, r1⟩ := hd.tup'
      obtain ⟨b, ws, rfl, h2, r2⟩ := he.tup'
      refine op_catX pins s σ H _ _ v u Q I rx ry ⟨a, b, vs, ws, rfl, rfl, h1.sq, h2.sq, by rw [← r1.length, ← r2.length]; exact hz, fun e => ?_, fun e1 e => ?_, fun e1 e2 p ob ho hp => k _ _ (Grow.upd hp) (Rep.newT ho hp (r1.append r2))⟩
      · subst e
        have : xs = [] := List.length_eq_zero_iff.mp r1.length
        subst this
        exact k _ H (Grow.refl H) he.tup
      · subst e
        have : ys = [] := List.length_eq_zero_iff.mp r2.length
        subst this
        rw [List.append_nil] at k
        exact k _ H (Grow.refl H) hd.tup
    · cases hf
  · split at hf
    · rename_i xs ys hz
      injection hf with hf
      subst hf
      obtain ⟨a, vs, rfl, h1, r1⟩ := hd.lst'
      obtain ⟨b, ws, rfl, h2, r2⟩ := he.lst'
      exact op_catS pins s σ H _ _ v u Q I rx ry ⟨a, b, vs, ws, rfl, rfl, h1, h2, by rw [← r1.length, ← r2.length]; exact hz, fun p hp => k _ _ (Grow.upd hp) (Rep.newL lv hp (r1.append r2))⟩
    · cases hf
  · cases hf
/-- ints in, under C -/
def dInts (C : Int → Int → Prop) [∀ i j, Decidable (C i j)] (g : Int → Int → Int) (d e : D) : Option D := match d, e with
  | .int i, .int j => if C i j then some (.int (g i j)) else none
  | _, _ => none
theorem opr_ints {op : Operator} {C : Int → Int → Prop} [∀ i j, Decidable (C i j)] {g : Int → Int → Int} (h : OpR X (binaryOp op) (rI C fun i j => .int (g i j))) : OpR X (binaryOp op) (rD X.K (mw X G) (dInts C g)) := by
  intro pins s σ H x y v u Q I rx ry q
  obtain ⟨Z, d, e, lv, hd, he, d', hf, k⟩ := q
  unfold dInts at hf
  split at hf
  · split at hf
    · rename_i hc
      injection hf with hf
      subst hf
      have e1 := hd.int
      have e2 := he.int
      subst e1 e2
      exact h pins s σ H _ _ v u Q I rx ry ⟨_, _, rfl, rfl, hc, k _ H (Grow.refl H) (.int _)⟩
    · cases hf
  · cases hf
def dSub : D → D → Option D
  | .int i, .int j => some (.int (i - j))
  | _, _ => none
theorem opr_sub : OpR X (binaryOp .Sub) (rD X.K (mw X G) dSub) := by
  intro pins s σ H x y v u Q I rx ry q
  obtain ⟨Z, d, e, lv, hd, he, d', hf, k⟩ := q
  unfold dSub at hf
  split at hf
  · injection hf with hf
    subst hf
    have e1 := hd.int
    have e2 := he.int
    subst e1 e2
    exact op_sub pins s σ H _ _ v u Q I rx ry ⟨_, _, rfl, rfl, k _ H (Grow.refl H) (.int _)⟩
  · cases hf
instance (i j : Int) : Decidable (CMul i j) := by unfold CMul; infer_instance
instance (i j : Int) : Decidable (CDiv i j) := by unfold CDiv; infer_instance
instance (i j : Int) : Decidable (CPow i j) := by unfold CPow; infer_instance
abbrev dMod : D → D → Option D := dInts (fun _ j => 0 < j) fun i j => i % j
abbrev dDiv : D → D → Option D := dInts CDiv fun i j => i / j
abbrev dPow : D → D → Option D := dInts CPow fun i j => i ^ j.toNat
theorem opr_mod : OpR X (binaryOp .Mod) (rD X.K (mw X G) dMod) := opr_ints op_mod
theorem opr_div : OpR X (binaryOp .FloorDiv) (rD X.K (mw X G) dDiv) := opr_ints op_fdiv
theorem opr_pow : OpR X (binaryOp .Pow) (rD X.K (mw X G) dPow) := opr_ints op_pow
abbrev dMulI : D → D → Option D := dInts CMul fun i j => i * j
theorem opr_mulI : OpR X (binaryOp .Mult) (rD X.K (mw X G) dMulI) := opr_ints op_mul
def dNeg : D → Option D
  | .int i => some (.int (-i))
  | _ => none
theorem unr_neg : UnR X (unaryOp .USub) (rD1 X.K (mw X G) dNeg) := by
  intro pins s σ H x v Q I rx q
  obtain ⟨Z, d, lv, hd, d', hf, k⟩ := q
  unfold dNeg at hf
  split at hf
  · injection hf with hf
    subst hf
    have e1 := hd.int
    subst e1
    exact un_neg pins s σ H _ v Q I rx ⟨_, rfl, k _ H (Grow.refl H) (.int _)⟩
  · cases hf

/-! ### comparisons -/
mutual
def toPy : D → Option PyData
  | .non => some .none
  | .bl b => some (.bool b)
  | .int i => some (.int i)
  | .str x => some (.str x)
  | .tup xs => (toPys xs).map .tuple
  | .lst xs => (toPys xs).map .list
  | .dct _ => none
  | .ins _ _ => none
  | .exo => none
def toPys : List D → Option (List PyData)
  | [] => some []
  | d :: ds => match toPy d, toPys ds with
    | some p, some ps => some (p :: ps)
    | _, _ => none
end
section
variable {H : Hp} {Z : Addr → Prop}
mutual
theorem Rep.dp : ∀ {d : D} {v : V} {p : PyData}, Rep K mg H Z d v → toPy d = some p → Dp K H v p
  | _, _, _, .non, e => by rw [toPy] at e; cases e; exact .non
  | _, _, _, .bl b, e => by rw [toPy] at e; cases e; exact .bl b
  | _, _, _, .int i, e => by rw [toPy] at e; cases e; exact .int i
  | _, _, _, .str x, e => by rw [toPy] at e; cases e; exact .str x
  | _, _, _, .tup (ds := ds) h r, e => by
    rw [toPy] at e
    cases q : toPys ds with
    | none => rw [q] at e; cases e
    | some ps => rw [q] at e; cases e; exact .tup h.sq (Reps.dp r q)
  | _, _, _, .lst (ds := ds) h r, e => by
    rw [toPy] at e
    cases q : toPys ds with
    | none => rw [q] at e; cases e
    | some ps => rw [q] at e; cases e; exact .lst h.sq (Reps.dp r q)
  | _, _, _, .dct _ _, e => by rw [toPy] at e; cases e
  | _, _, _, .ins _ _ _ _, e => by rw [toPy] at e; cases e
  | _, _, _, .exo _, e => by rw [toPy] at e; cases e
theorem Reps.dp : ∀ {ds : List D} {vs : List V} {ps : List PyData}, Reps K mg H Z ds vs → toPys ds = some ps → DpAll K H vs ps
  | _, _, _, .nil, e => by rw [toPys] at e; cases e; exact .nil
  | _, _, _, .cons (d := d) (ds := ds) h r, e => by
    rw [toPys] at e
    cases q1 : toPy d with
    | none => rw [q1] at e; cases e
    | some p =>
      cases q2 : toPys ds with
      | none => rw [q1, q2] at e; cases e
      | some ps => rw [q1, q2] at e; cases e; exact .cons (Rep.dp h q1) (Reps.dp r q2)
end
theorem RepB.dp {d : D} {v : V} {p : PyData} (h : RepB K mg H Z d v) (e : toPy d = some p) : Dp K H v p := by
  cases h with
  | val h => exact h.dp e
  | @lst a ds vs h r =>
    rw [toPy] at e
    cases q : toPys ds with
    | none => rw [q] at e; cases e
    | some ps => rw [q] at e; cases e; exact .lst (SqL.of h) (r.dp q)
  | dct h r => rw [toPy] at e; cases e
  | ins m h r => rw [toPy] at e; cases e
end
def dEq (d e : D) : Option D := match toPy d, toPy e with
  | some a, some b => if SeqAt.shaped a = true ∧ SeqAt.shaped b = true then some (.bl (PyData.eqv a b)) else none
  | _, _ => none
def dNe (d e : D) : Option D := match toPy d, toPy e with
  | some a, some b => if SeqAt.shaped a = true ∧ SeqAt.shaped b = true then some (.bl (!PyData.eqv a b)) else none
  | _, _ => none
theorem opr_eq (hu : X.A.units + 64 < cLine) : OpR X (compareOp .Eq) (rD X.K (mw X G) dEq) := by
  intro pins s σ H x y v u Q I rx ry q
  obtain ⟨Z, d, e, lv, hd, he, d', hf, k⟩ := q
  unfold dEq at hf
  split at hf
  · rename_i a b ea eb
    split at hf
    · rename_i hs
      injection hf with hf
      subst hf
      exact op_eqD hu pins s σ H _ _ v u Q I rx ry ⟨a, b, hd.dp ea, he.dp eb, hs.1, hs.2, k _ H (Grow.refl H) (.bl _)⟩
    · cases hf
  · cases hf
theorem opr_ne (hu : X.A.units + 64 < cLine) : OpR X (compareOp .NotEq) (rD X.K (mw X G) dNe) := by
  intro pins s σ H x y v u Q I rx ry q
  obtain ⟨Z, d, e, lv, hd, he, d', hf, k⟩ := q
  unfold dNe at hf
  split at hf
  · rename_i a b ea eb
    split at hf
    · rename_i hs
      injection hf with hf
      subst hf
      exact op_neD hu pins s σ H _ _ v u Q I rx ry ⟨a, b, hd.dp ea, he.dp eb, hs.1, hs.2, k _ H (Grow.refl H) (.bl _)⟩
    · cases hf
  · cases hf
def dCmpI (g : Int → Int → Bool) (d e : D) : Option D := match d, e with
  | .int i, .int j => some (.bl (g i j))
  | _, _ => none
theorem opr_cmpI {op : CmpOp} {g : Int → Int → Bool} (h : OpR X (compareOp op) (rI0 fun i j => .bl (g i j))) : OpR X (compareOp op) (rD X.K (mw X G) (dCmpI g)) := by
  intro pins s σ H x y v u Q I rx ry q
  obtain ⟨Z, d, e, lv, hd, he, d', hf, k⟩ := q
  unfold dCmpI at hf
  split at hf
  · injection hf with hf
    subst hf
    have e1 := hd.int
    have e2 := he.int
    subst e1 e2
    exact h pins s σ H _ _ v u Q I rx ry ⟨_, _, rfl, rfl, k _ H (Grow.refl H) (.bl _)⟩
  · cases hf
abbrev dLt : D → D → Option D := dCmpI fun i j => decide (i < j)
abbrev dLe : D → D → Option D := dCmpI fun i j => decide (i ≤ j)
abbrev dGt : D → D → Option D := dCmpI fun i j => decide (j < i)
abbrev dGe : D → D → Option D := dCmpI fun i j => decide (j ≤ i)
theorem opr_lt : OpR X (compareOp .Lt) (rD X.K (mw X G) dLt) := opr_cmpI op_lt
theorem opr_le : OpR X (compareOp .LtE) (rD X.K (mw X G) dLe) := opr_cmpI op_le
theorem opr_gt : OpR X (compareOp .Gt) (rD X.K (mw X G) dGt) := opr_cmpI op_gt
theorem opr_ge : OpR X (compareOp .GtE) (rD X.K (mw X G) dGe) := opr_cmpI op_ge
/-- is, of None and bools -/
def D.isNon : D → Bool
  | .non => true
  | _ => false
def dIs : D → D → Option D
  | d, .non => some (.bl d.isNon)
  | .bl a, .bl b => some (.bl (decide (a = b)))
  | _, _ => none
def dIsNot : D → D → Option D
  | d, .non => some (.bl (!d.isNon))
  | .bl a, .bl b => some (.bl (!decide (a = b)))
  | _, _ => none
theorem RepB.isNon {H : Hp} {Z : Addr → Prop} {d : D} {x : V} (h : RepB K mg H Z d x) : decide (x = .non) = d.isNon := by
  cases h with
  | val h => cases h <;> rfl
  | _ => rfl
theorem opr_is : OpR X (compareOp .Is) (rD X.K (mw X G) dIs) := by
  intro pins s σ H x y v u Q I rx ry q
  obtain ⟨Z, d, e, lv, hd, he, d', hf, k⟩ := q
  unfold dIs at hf
  split at hf
  · injection hf with hf
    subst hf
    have e2 := he.non
    subst e2
    exact op_isN pins s σ H _ _ v u Q I rx ry ⟨rfl, by rw [hd.isNon]; exact k _ H (Grow.refl H) (.bl _)⟩
  · injection hf with hf
    subst hf
    have e1 := hd.bl
    have e2 := he.bl
    subst e1 e2
    exact op_is_bl pins s σ H _ _ v u Q I rx ry ⟨_, _, rfl, rfl, k _ H (Grow.refl H) (.bl _)⟩
  · cases hf
theorem opr_isNot : OpR X (compareOp .IsNot) (rD X.K (mw X G) dIsNot) := by
  intro pins s σ H x y v u Q I rx ry q
  obtain ⟨Z, d, e, lv, hd, he, d', hf, k⟩ := q
  unfold dIsNot at hf
  split at hf
  · injection hf with hf
    subst hf
    have e2 := he.non
    subst e2
    exact op_notN pins s σ H _ _ v u Q I rx ry ⟨rfl, by rw [hd.isNon]; exact k _ H (Grow.refl H) (.bl _)⟩
  · injection hf with hf
    subst hf
    have e1 := hd.bl
    have e2 := he.bl
    subst e1 e2
    exact op_isnot_bl pins s σ H _ _ v u Q I rx ry ⟨_, _, rfl, rfl, k _ H (Grow.refl H) (.bl _)⟩
  · cases hf
end
end Mi
namespace Mi
open PySem PySem.Spec L2
open PyProof.Rows hiding St

section
variable {X : Cx} {G : Gd} {e a b : Expr} {es : List Expr} {pos p : Pos}
/-! ### calls of built-ins -/
theorem me_callB {id : String} {x : Str} {f : List D → Option D} {m : M (List Arg)} (hc : CallR X (.builtin id) (rDs X.K (mw X G) f)) (hg : Gl X x) (hm : X.mg x = none) (hv : bootBuiltins x = some (.builtin id)) (ha : MA X G (e :: es) m) (hn : x ≠ "__name__" := by decide) (hdb : (x == ("__debug__" : Str)) = false := by decide)
    (he : starEach (e :: es) X.env = (false, eval e X.env) :: starEach es X.env := by rfl) (hpl : (backTo pos (starEach es X.env)).any (·.1) = false := by rfl) : ME X G (.Call (.Name x p) (e :: es) [] pos) (mCallD f m) :=
  PEimp (pe_callB hc hg hm hv ha hn hdb he hpl) fun σ H Q h => callD_lift h
theorem me_callTy {T : String} {x : Str} {f : List D → Option D} {m : M (List Arg)} (hc : CallR X (.type T) (rDs X.K (mw X G) f)) (hg : Gl X x) (hm : X.mg x = none) (hv : bootBuiltins x = some (.type T)) (ha : MA X G (e :: es) m) (hn : x ≠ "__name__" := by decide) (hdb : (x == ("__debug__" : Str)) = false := by decide)
    (he : starEach (e :: es) X.env = (false, eval e X.env) :: starEach es X.env := by rfl) (hpl : (backTo pos (starEach es X.env)).any (·.1) = false := by rfl) : ME X G (.Call (.Name x p) (e :: es) [] pos) (mCallD f m) :=
  PEimp (pe_callTy hc hg hm hv ha hn hdb he hpl) fun σ H Q h => callD_lift h
theorem RepBs.one {K : PySem.W.Frag} {mg : Mw} {H : Hp} {Z : Addr → Prop} {d : D} {xs : List V} (h : RepBs K mg H Z [d] xs) : ∃ x, xs = [x] ∧ RepB K mg H Z d x := by
  cases h with | cons h t => cases t; exact ⟨_, rfl, h⟩
theorem RepBs.two {K : PySem.W.Frag} {mg : Mw} {H : Hp} {Z : Addr → Prop} {d e : D} {xs : List V} (h : RepBs K mg H Z [d, e] xs) : ∃ x y, xs = [x, y] ∧ RepB K mg H Z d x ∧ RepB K mg H Z e y := by
  cases h with | cons h t => cases t with | cons h2 t => cases t; exact ⟨_, _, rfl, h, h2⟩
def dLen : List D → Option D
  | [.str x] => if x.length ≤ sizeLine then some (.int x.length) else none
  | [.tup ds] => some (.int ds.length)
  | [.lst ds] => some (.int ds.length)
  | [.dct ds] => some (.int ds.length)
  | _ => none
theorem RepKs.length {K : PySem.W.Frag} {mg : Mw} {H : Hp} {Z : Addr → Prop} : ∀ {ds : List (D × D)} {vs : List (Key × V)}, RepKs K mg H Z ds vs → ds.length = vs.length
  | _, _, .nil => rfl
  | _, _, .cons _ r => congrArg (· + 1) (RepKs.length r)
theorem cr_len : CallR X (.builtin "len") (rDs X.K (mw X G) dLen) := by
  intro pins s σ H xs us Q I r h
  obtain ⟨Z, ds, lv, hd, d', hf, k⟩ := h
  unfold dLen at hf
  split at hf
  · split at hf
    · rename_i hz
      injection hf with hf
      subst hf
      obtain ⟨x, rfl, hx⟩ := hd.one
      have := hx.str
      subst this
      exact call_len_str pins s σ H _ us Q I r ⟨_, rfl, hz, k _ H (Grow.refl H) (.int _)⟩
    · cases hf
  · injection hf with hf
    subst hf
    obtain ⟨x, rfl, hx⟩ := hd.one
    obtain ⟨a, vs, rfl, h1, r1⟩ := hx.tup'
    exact call_len_seq pins s σ H _ us Q I r ⟨a, vs, rfl, .inr h1.sq, by rw [← r1.length]; exact k _ H (Grow.refl H) (.int _)⟩
  · injection hf with hf
    subst hf
    obtain ⟨x, rfl, hx⟩ := hd.one
    obtain ⟨a, vs, rfl, h1, r1⟩ := hx.lst'
    exact call_len_seq pins s σ H _ us Q I r ⟨a, vs, rfl, .inl h1, by rw [← r1.length]; exact k _ H (Grow.refl H) (.int _)⟩
  · injection hf with hf
    subst hf
    obtain ⟨x, rfl, hx⟩ := hd.one
    obtain ⟨a, vs, rfl, h1, r1⟩ := hx.dct'
    obtain ⟨u, rfl, ru⟩ := vals1 r
    cases ru
    exact d_len I h1 fun t s' I' => ⟨.int vs.length, H, I', ⟨t, rfl⟩, by rw [← r1.length]; exact k _ H (Grow.refl H) (.int _)⟩
  · cases hf
/-- isinstance of a built-in type -/
inductive Ty where | int | bool | str | tuple | list | dict
def Ty.name : Ty → String
  | .int => "int" | .bool => "bool" | .str => "str" | .tuple => "tuple" | .list => "list" | .dict => "dict"
def isTy : Ty → D → Option Bool
  | .int, .int _ => some true
  | .int, .bl _ => some true
  | .bool, .bl _ => some true
  | .str, .str _ => some true
  | .tuple, .tup _ => some true
  | .list, .lst _ => some true
  | _, .dct _ => none
  | _, .ins _ _ => none
  | _, .exo => none
  | _, _ => some false
def D.tyN : D → String
  | .non => "NoneType" | .bl _ => "bool" | .int _ => "int" | .str _ => "str" | .tup _ => "tuple" | .lst _ => "list" | .dct _ => "dict" | .ins _ _ => "object" | .exo => "object"
theorem kit_all : ∀ T : Ty, kitB "NoneType" T.name = some false ∧ kitB "bool" T.name = some (match T with | .int => true | .bool => true | _ => false) ∧ kitB "int" T.name = some (match T with | .int => true | _ => false) ∧
    kitB "str" T.name = some (match T with | .str => true | _ => false) ∧ kitB "tuple" T.name = some (match T with | .tuple => true | _ => false) ∧ kitB "list" T.name = some (match T with | .list => true | _ => false) ∧ kitB "dict" T.name = some (match T with | .dict => true | _ => false) := by
  intro T
  cases T <;> (refine ⟨?_, ?_, ?_, ?_, ?_, ?_, ?_⟩ <;> decide +kernel)
def mIsi (T : Ty) (m : M Arg) : M D := mUn (fun d => (isTy T d).map .bl) m
theorem RepB.tyx {K : PySem.W.Frag} {mg : Mw} {H : Hp} {Z : Addr → Prop} {d : D} {x : V} (h : RepB K mg H Z d x) (hi : ∀ C fs, d ≠ .ins C fs) (hj : ∀ k, d ≠ .dct k) (he : d ≠ .exo) : TyX K H x (.type d.tyN) := by
  cases h with
  | val h =>
    cases h with
    | non => exact .base .non
    | bl b => exact .base (.bl b)
    | int i => exact .base (.int i)
    | str i => exact .base (.str i)
    | tup h r =>
      rcases h with ⟨o, _, h⟩ | ⟨o, its, n, h1, h2, _⟩
      · exact .fTuple h
      · exact .kTuple h1 h2
    | lst h r =>
      rcases h with ⟨_, h | ⟨o, h⟩⟩ | ⟨o, its, n, h1, h2, _⟩
      · exact .base (.lst h)
      · exact .base (.frz h)
      · exact .kList h1 h2
    | dct h r => exact absurd rfl (hj _)
    | ins n m h r => exact absurd rfl (hi _ _)
    | exo h => exact absurd rfl he
  | lst h r => exact .base (.lst h)
  | dct h r => exact .base (.dK h)
  | ins m h r => exact absurd rfl (hi _ _)
theorem isTy_kit {T : Ty} {d : D} {b : Bool} (h : isTy T d = some b) : ((∀ C fs, d ≠ .ins C fs) ∧ (∀ k, d ≠ .dct k) ∧ d ≠ .exo) ∧ kitB d.tyN T.name = some b := by
  obtain ⟨h1, h2, h3, h4, h5, h6, h7⟩ := kit_all T
  cases d with
  | ins C fs => cases T <;> cases h
  | non =>
    refine ⟨⟨fun _ _ q => (by cases q), fun _ q => (by cases q), fun q => (by cases q)⟩, ?_⟩
    cases T <;> (cases h; exact h1)
  | bl x =>
    refine ⟨⟨fun _ _ q => (by cases q), fun _ q => (by cases q), fun q => (by cases q)⟩, ?_⟩
    cases T <;> (cases h; exact h2)
  | int x =>
    refine ⟨⟨fun _ _ q => (by cases q), fun _ q => (by cases q), fun q => (by cases q)⟩, ?_⟩
    cases T <;> (cases h; exact h3)
  | str x =>
    refine ⟨⟨fun _ _ q => (by cases q), fun _ q => (by cases q), fun q => (by cases q)⟩, ?_⟩
    cases T <;> (cases h; exact h4)
  | tup x =>
    refine ⟨⟨fun _ _ q => (by cases q), fun _ q => (by cases q), fun q => (by cases q)⟩, ?_⟩
    cases T <;> (cases h; exact h5)
  | lst x =>
    refine ⟨⟨fun _ _ q => (by cases q), fun _ q => (by cases q), fun q => (by cases q)⟩, ?_⟩
    cases T <;> (cases h; exact h6)
  | dct x => cases T <;> cases h
  | exo => cases T <;> cases h
theorem me_isi {m : M Arg} {x : Str} {T : Ty} {p2 : Pos} (hg : Gl X "isinstance") (hm : X.mg "isinstance" = none) (ha : MO X G a m) (hgT : Gl X x) (hmT : X.mg x = none) (hvT : bootBuiltins x = some (.type T.name)) (hnT : x ≠ "__name__" := by decide) (hdT : (x == ("__debug__" : Str)) = false := by decide)
    (he : starEach (a :: [.Name x p2]) X.env = (false, eval a X.env) :: starEach [.Name x p2] X.env := by rfl) (he2 : starEach (.Name x p2 :: []) X.env = (false, eval (.Name x p2) X.env) :: starEach [] X.env := by rfl)
    (hpl : (backTo pos (starEach [.Name x p2] X.env)).any (·.1) = false := by rfl) : ME X G (.Call (.Name "isinstance" p) [a, .Name x p2] [] pos) (mIsi T m) := by
  refine PEimp (pe_callB call_isi hg hm (by decide +kernel) (pa_cons ha (pa_cons (pe_bltn (v := .ty T.name) hgT hmT hvT rfl hnT hdT) pa_nil he2) he) (by decide) (by decide) he hpl) fun σ H Q h => ?_
  obtain ⟨env, rel, post⟩ := un_lift h
  refine ⟨env, rel, post.imp fun a1 env1 H1 _ _ q v hv => ?_⟩
  obtain ⟨Z, d, lv, hd, d', hf, k⟩ := q v hv
  have hf : (isTy T d).map D.bl = some d' := hf
  cases hi : isTy T d with
  | none => rw [hi] at hf; cases hf
  | some b =>
    rw [hi] at hf
    injection hf with hf
    subst hf
    obtain ⟨h1, h2⟩ := isTy_kit hi
    exact ⟨v, .ty T.name, _, _, b, rfl, .ty _, hd.tyx h1.1 h1.2.1 h1.2.2, kit_ty h2, k _ H1 (Grow.refl H1) (.bl b)⟩
/-- all, any, of a row of bools -/
def boolsOf : List D → Option (List Bool)
  | [] => some []
  | .bl b :: ds => (boolsOf ds).map (b :: ·)
  | _ :: _ => none
def intsOf : List D → Option (List Int)
  | [] => some []
  | .int b :: ds => (intsOf ds).map (b :: ·)
  | _ :: _ => none
def strsOf : List D → Option (List Str)
  | [] => some []
  | .str b :: ds => (strsOf ds).map (b :: ·)
  | _ :: _ => none
section
variable {K : PySem.W.Frag} {mg : Mw} {H : Hp} {Z : Addr → Prop}
theorem Reps.boolsOf : ∀ {ds : List D} {vs : List V} {bs : List Bool}, Reps K mg H Z ds vs → Mi.boolsOf ds = some bs → vs = bs.map V.bl ∧ ds = bs.map D.bl
  | _, _, _, .nil, e => by cases e; exact ⟨rfl, rfl⟩
  | _, _, bs, .cons (d := d) (ds := ds) h r, e => by
    cases h with
    | bl b =>
      have e : (Mi.boolsOf ds).map (b :: ·) = some bs := e
      cases q : Mi.boolsOf ds with
      | none => rw [q] at e; cases e
      | some bs' =>
        rw [q] at e
        cases e
        obtain ⟨h1, h2⟩ := Reps.boolsOf r q
        exact ⟨congrArg _ h1, congrArg _ h2⟩
    | _ => cases e
theorem Reps.intsOf : ∀ {ds : List D} {vs : List V} {bs : List Int}, Reps K mg H Z ds vs → Mi.intsOf ds = some bs → vs = bs.map V.int ∧ ds = bs.map D.int
  | _, _, _, .nil, e => by cases e; exact ⟨rfl, rfl⟩
  | _, _, bs, .cons (d := d) (ds := ds) h r, e => by
    cases h with
    | int b =>
      have e : (Mi.intsOf ds).map (b :: ·) = some bs := e
      cases q : Mi.intsOf ds with
      | none => rw [q] at e; cases e
      | some bs' =>
        rw [q] at e
        cases e
        obtain ⟨h1, h2⟩ := Reps.intsOf r q
        exact ⟨congrArg _ h1, congrArg _ h2⟩
    | _ => cases e
theorem Reps.strsOf : ∀ {ds : List D} {vs : List V} {bs : List Str}, Reps K mg H Z ds vs → Mi.strsOf ds = some bs → vs = bs.map V.str ∧ ds = bs.map D.str
  | _, _, _, .nil, e => by cases e; exact ⟨rfl, rfl⟩
  | _, _, bs, .cons (d := d) (ds := ds) h r, e => by
    cases h with
    | str b =>
      have e : (Mi.strsOf ds).map (b :: ·) = some bs := e
      cases q : Mi.strsOf ds with
      | none => rw [q] at e; cases e
      | some bs' =>
        rw [q] at e
        cases e
        obtain ⟨h1, h2⟩ := Reps.strsOf r q
        exact ⟨congrArg _ h1, congrArg _ h2⟩
    | _ => cases e
end
def dAll : List D → Option D
  | [.lst ds] => (boolsOf ds).map fun bs => .bl (bs.all id)
  | _ => none
def dAny : List D → Option D
  | [.lst ds] => (boolsOf ds).map fun bs => .bl (bs.any id)
  | _ => none
def dSum : List D → Option D
  | [.lst ds] => (intsOf ds).map fun bs => .int bs.sum
  | _ => none
theorem cr_all' (hc : X.calm = true) : CallR X (.builtin "all") (rDs X.K (mw X G) dAll) := by
  intro pins s σ H xs us Q I r h
  obtain ⟨Z, ds, lv, hd, d', hf, k⟩ := h
  unfold dAll at hf
  split at hf
  · rename_i ds'
    cases hb : boolsOf ds' with
    | none => rw [hb] at hf; cases hf
    | some bs =>
      rw [hb] at hf
      cases hf
      obtain ⟨x, rfl, hx⟩ := hd.one
      obtain ⟨a, vs, rfl, h1, r1⟩ := hx.lst'
      obtain ⟨e1, _⟩ := r1.boolsOf hb
      subst e1
      exact cr_all hc pins s σ H _ us Q I r ⟨a, bs, rfl, h1, k _ H (Grow.refl H) (.bl _)⟩
  · cases hf
theorem cr_any' (hc : X.calm = true) : CallR X (.builtin "any") (rDs X.K (mw X G) dAny) := by
  intro pins s σ H xs us Q I r h
  obtain ⟨Z, ds, lv, hd, d', hf, k⟩ := h
  unfold dAny at hf
  split at hf
  · rename_i ds'
    cases hb : boolsOf ds' with
    | none => rw [hb] at hf; cases hf
    | some bs =>
      rw [hb] at hf
      cases hf
      obtain ⟨x, rfl, hx⟩ := hd.one
      obtain ⟨a, vs, rfl, h1, r1⟩ := hx.lst'
      obtain ⟨e1, _⟩ := r1.boolsOf hb
      subst e1
      exact cr_any hc pins s σ H _ us Q I r ⟨a, bs, rfl, h1, k _ H (Grow.refl H) (.bl _)⟩
  · cases hf
theorem cr_sum' (hc : X.calm = true) : CallR X (.builtin "sum") (rDs X.K (mw X G) dSum) := by
  intro pins s σ H xs us Q I r h
  obtain ⟨Z, ds, lv, hd, d', hf, k⟩ := h
  unfold dSum at hf
  split at hf
  · rename_i ds'
    cases hb : intsOf ds' with
    | none => rw [hb] at hf; cases hf
    | some bs =>
      rw [hb] at hf
      cases hf
      obtain ⟨x, rfl, hx⟩ := hd.one
      obtain ⟨a, vs, rfl, h1, r1⟩ := hx.lst'
      obtain ⟨e1, _⟩ := r1.intsOf hb
      subst e1
      exact cr_sum hc pins s σ H _ us Q I r ⟨a, bs, rfl, h1, k _ H (Grow.refl H) (.int _)⟩
  · cases hf
/-- int, list, tuple of a value -/
def dIntOf : List D → Option D
  | [.int i] => some (.int i)
  | [.bl b] => some (.int (if b then 1 else 0))
  | _ => none
theorem cr_int : CallR X (.type "int") (rDs X.K (mw X G) dIntOf) := by
  intro pins s σ H xs us Q I r h
  obtain ⟨Z, ds, lv, hd, d', hf, k⟩ := h
  unfold dIntOf at hf
  split at hf
  · cases hf
    obtain ⟨x, rfl, hx⟩ := hd.one
    have := hx.int
    subst this
    exact call_int1 pins s σ H _ us Q I r (.inl ⟨_, rfl, k _ H (Grow.refl H) (.int _)⟩)
  · cases hf
    obtain ⟨x, rfl, hx⟩ := hd.one
    have := hx.bl
    subst this
    exact call_int1 pins s σ H _ us Q I r (.inr ⟨_, rfl, k _ H (Grow.refl H) (.int _)⟩)
  · cases hf
def dListOf : List D → Option D
  | [.lst ds] => some (.lst ds)
  | [.tup ds] => some (.lst ds)
  | _ => none
def dTupOf : List D → Option D
  | [.lst ds] => some (.tup ds)
  | [.tup ds] => some (.tup ds)
  | _ => none
theorem cr_list : CallR X (.type "list") (rDs X.K (mw X G) dListOf) := by
  intro pins s σ H xs us Q I r h
  obtain ⟨Z, ds, lv, hd, d', hf, k⟩ := h
  unfold dListOf at hf
  split at hf
  · cases hf
    obtain ⟨x, rfl, hx⟩ := hd.one
    obtain ⟨a, vs, rfl, h1, r1⟩ := hx.lst'
    exact call_list_of pins s σ H _ us Q I r ⟨a, vs, rfl, .inl h1, fun l hl => k _ _ (Grow.upd hl) (Rep.newL lv hl r1)⟩
  · cases hf
    obtain ⟨x, rfl, hx⟩ := hd.one
    obtain ⟨a, vs, rfl, h1, r1⟩ := hx.tup'
    exact call_list_of pins s σ H _ us Q I r ⟨a, vs, rfl, .inr h1.sq, fun l hl => k _ _ (Grow.upd hl) (Rep.newL lv hl r1)⟩
  · cases hf
theorem cr_tuple : CallR X (.type "tuple") (rDs X.K (mw X G) dTupOf) := by
  intro pins s σ H xs us Q I r h
  obtain ⟨Z, ds, lv, hd, d', hf, k⟩ := h
  unfold dTupOf at hf
  split at hf
  · cases hf
    obtain ⟨x, rfl, hx⟩ := hd.one
    obtain ⟨a, vs, rfl, h1, r1⟩ := hx.lst'
    obtain ⟨u, rfl, rx⟩ := vals1 r
    cases rx
    obtain ⟨its, r', pl, hz⟩ := I.list h1
    have hlen := r'.length
    refine call_tuple_list pl.isList (fun h' kp => ?_) (by simp only [List.size_toArray] <;> omega)
    have I1 : Inv X pins σ H { s with heap := h' } := I.kept (t' := s.toks) kp
    obtain ⟨ob, ho, I2, hf⟩ := tup_new (t' := s.toks) I1 r' hz
    exact ⟨.ref h'.objs.size, _, I2, rfl, k _ _ (Grow.upd hf) (Rep.newT ho hf r1)⟩
  · cases hf
    obtain ⟨x, rfl, hx⟩ := hd.one
    obtain ⟨a, vs, rfl, h1, r1⟩ := hx.tup'
    exact call_tuple_of pins s σ H _ us Q I r ⟨a, vs, rfl, .inr ⟨h1.sq, k _ H (Grow.refl H) hx.tup⟩⟩
  · cases hf
/-! ### indexes, slices -/
def dIx : D → D → Option D
  | .lst ds, .int i => atI ds i
  | .tup ds, .int i => atI ds i
  | .str x, .int i => if x.length ≤ sizeLine then (atI x.cps.toList i).map fun c => .str ⟨#[c]⟩ else none
  | _, _ => none
theorem Reps.atI {K : PySem.W.Frag} {mg : Mw} {H : Hp} {Z : Addr → Prop} {ds : List D} {vs : List V} {i : Int} {d : D} (r : Reps K mg H Z ds vs) (h : L2.atI ds i = some d) : ∃ v, L2.atI vs i = some v ∧ Rep K mg H Z d v := by
  unfold L2.atI at h ⊢
  rw [← r.length]
  cases e : ixN ds.length i with
  | none => rw [e] at h; cases h
  | some j =>
    rw [e] at h
    exact r.get h
theorem ixr_seq : IxR X (rD X.K (mw X G) dIx) := by
  intro value slice pins s σ H x y v u Q I rx ry h hs
  obtain ⟨Z, d, e, lv, hd, he, d', hf, k⟩ := h
  unfold dIx at hf
  split at hf
  · obtain ⟨a, vs, rfl, h1, r1⟩ := hd.lst'
    have := he.int
    subst this
    obtain ⟨w, hw, rw'⟩ := r1.atI hf
    exact ix_list value slice pins s σ H _ _ v u Q I rx ry ⟨a, vs, _, w, rfl, rfl, h1, hw, k w H (Grow.refl H) rw'⟩ hs
  · obtain ⟨a, vs, rfl, h1, r1⟩ := hd.tup'
    have := he.int
    subst this
    obtain ⟨w, hw, rw'⟩ := r1.atI hf
    exact ix_tup value slice pins s σ H _ _ v u Q I rx ry ⟨a, vs, _, w, rfl, rfl, h1.sq, hw, k w H (Grow.refl H) rw'⟩ hs
  · split at hf
    · rename_i z i hz
      have := hd.str
      subst this
      have := he.int
      subst this
      cases e : L2.atI z.cps.toList i with
      | none => rw [e] at hf; cases hf
      | some c =>
        rw [e] at hf
        cases hf
        exact ix_str value slice pins s σ H _ _ v u Q I rx ry ⟨z, _, c, rfl, rfl, hz, e, k _ H (Grow.refl H) (.str _)⟩ hs
    · cases hf
  · cases hf
def cutD (xs : List D) (lo hi : Option Int) : List D := (xs.drop (HT.sIx xs.length 0 lo)).take (HT.sIx xs.length xs.length hi - HT.sIx xs.length 0 lo)
def dSl : D → Option Int → Option Int → Option D
  | .lst ds, lo, hi => some (.lst (cutD ds lo hi))
  | .tup ds, lo, hi => some (.tup (cutD ds lo hi))
  | _, _, _ => none
theorem Reps.cut {K : PySem.W.Frag} {mg : Mw} {H : Hp} {Z : Addr → Prop} {ds : List D} {vs : List V} (lo hi : Option Int) (r : Reps K mg H Z ds vs) : Reps K mg H Z (cutD ds lo hi) (cutV vs lo hi) := by
  unfold cutD cutV
  rw [r.length]
  exact (r.drop _).take _
theorem cutD_whole {xs : List D} {lo hi : Option Int} (h : HT.sIx xs.length 0 lo = 0 ∧ HT.sIx xs.length xs.length hi = xs.length) : cutD xs lo hi = xs := by
  unfold cutD
  rw [h.1, h.2, List.drop_zero, Nat.sub_zero, List.take_length]
def rS (K : PySem.W.Frag) (mg : Mw) (f : D → Option Int → Option Int → Option D) : V → Option Int → Option Int → Hp → VK → Prop := fun x lo hi H Q => ∃ Z d, Live H Z ∧ RepB K mg H Z d x ∧ ∃ d', f d lo hi = some d' ∧ ∀ v H', Grow H H' → Rep K mg H' Z d' v → Q v H'
theorem slr_seq : SlR X (rS X.K (mw X G) dSl) := by
  intro pins s σ H x v vl vu lo hi sl Q I rx hs pl pu h
  obtain ⟨Z, d, lv, hd, d', hf, k⟩ := h
  unfold dSl at hf
  split at hf
  · cases hf
    obtain ⟨a, vs, rfl, h1, r1⟩ := hd.lst'
    exact sl_list pins s σ H _ v vl vu lo hi sl Q I rx hs pl pu ⟨a, vs, rfl, h1, fun p hp => k _ _ (Grow.upd hp) (Rep.newL lv hp (r1.cut lo hi))⟩
  · cases hf
    obtain ⟨a, vs, rfl, h1, r1⟩ := hd.tup'
    cases rx
    obtain ⟨its, r, ht, hz⟩ := I.tuple h1.sq
    have hlen : its.toArray.size = vs.length := by rw [List.size_toArray]; exact r.length.symm
    refine ⟨"tuple", _, PyProof.Rows.slot_tuple_getitem.lookup, ht.typeIs, ?_⟩
    by_cases hw : HT.sIx vs.length 0 lo = 0 ∧ HT.sIx vs.length vs.length hi = vs.length
    · refine getItem_tuple_whole ht hs pl pu (by rw [hlen]; exact hw) ⟨.ref a, H, I, rfl, ?_⟩
      rw [← r1.length] at hw
      rw [cutD_whole hw] at k
      exact k _ H (Grow.refl H) hd.tup
    · refine HT.getItem_tuple_cut ht hs pl pu (by rw [hlen]; exact hw) ?_ (by rw [hlen]; exact hz)
      rw [hlen]
      obtain ⟨ob, ho, I2, hf⟩ := tup_new (t' := s.toks) (xs := cutV vs lo hi) I ((r.drop (HT.sIx vs.length 0 lo)).take (HT.sIx vs.length vs.length hi - HT.sIx vs.length 0 lo)) (Nat.le_trans (cutV_length vs lo hi) hz)
      exact ⟨.ref s.heap.objs.size, _, I2, rfl, k _ _ (Grow.upd hf) (Rep.newT ho hf (r1.cut lo hi))⟩
  · cases hf
def mSlice (f : D → Option Int → Option Int → Option D) (m : M Arg) (l h : M (Option Int)) : M D := fun env => (m env).bind fun a env => (l env).bind fun lo env => (h env).bind fun hi env =>
  R.opt (match a.rd env with
    | some d => f d lo hi
    | none => none) env
def liftP (B : Bd) (W : WX) (m : M (Option Int)) : TO := fun σ H Q => ∃ env, Rel B σ env H ∧ Post B W σ env H (m env) fun i _ H' => Q i H'
abbrev MP (X : Cx) (G : Gd) (e : Option Expr) (m : M (Option Int)) : Prop := PO X e (liftP (bd X G) G.W m)
def mNoP : M (Option Int) := fun env => .ok none env
def mP (m : M D) : M (Option Int) := fun env => (m env).bind fun d env => match d with
  | .int i => .ok (some i) env
  | _ => .bad
theorem mp_none : MP X G none mNoP := ⟨fun pins s σ H Q I ⟨env, rel, post⟩ => po_none.run pins s σ H Q I (Post.ok rel post)⟩
theorem mp_some {m : M D} (h : ME X G e m) : MP X G (some e) (mP m) := ⟨fun pins s σ H Q I ⟨env, rel, post⟩ => (po_some h).run pins s σ H Q I ⟨env, rel, post.seq.imp fun d env1 H1 rel1 _ q v hv => by
  cases hv with
  | int i => exact ⟨i, rfl, Post.ok rel1 q⟩
  | _ => exact False.elim q⟩⟩
theorem me_slice {f : D → Option Int → Option Int → Option D} {m : M Arg} {l h : M (Option Int)} {lo hi : Option Expr} {p2 : Pos} (hr : SlR X (rS X.K (mw X G) f)) (he : MO X G e m) (hl : MP X G lo l) (hu : MP X G hi h) : ME X G (.Subscript e (.Slice lo hi none p2) pos) (mSlice f m l h) :=
  PEimp (pe_slice hr he hl hu) fun σ H Q ⟨env, rel, post⟩ => ⟨env, rel, post.seq.imp fun a env1 H1 rel1 x1 q1 v hv => ⟨env1, rel1, q1.seq.imp fun i env2 H2 rel2 x2 q2 => ⟨env2, rel2, q2.seq.imp fun j env3 H3 rel3 x3 q3 => by
    cases ea : a.rd env3 with
    | none => rw [ea] at q3; exact False.elim q3
    | some d =>
      rw [ea] at q3
      have q3 : Post (bd X G) G.W σ env3 H3 (R.opt (f d i j) env3) _ := q3
      refine ⟨_, d, rel3.liveZ, rel3.rd (hv.mono (x2.trans x3)) ea, ?_⟩
      cases ef : f d i j with
      | none => rw [ef] at q3; exact False.elim q3
      | some d' =>
        rw [ef] at q3
        exact ⟨d', rfl, fun u H' g r => q3 H' (rel3.grow g) g.ext u r⟩⟩⟩⟩
end
end Mi
namespace Mi
open PySem PySem.Spec L2
open PyProof.Rows hiding St

section
variable {X : Cx} {G : Gd} {e a b : Expr} {es : List Expr} {pos p : Pos}
/-! ### dicts of ints and texts -/
def keyOf : D → Option Key
  | .int i => some (.inl i)
  | .str x => some (.inr x)
  | _ => none
def eqKey : D → Key → Bool
  | .int i, .inl j => i == j
  | .str x, .inr y => decide (x = y)
  | _, _ => false
theorem eqKey_keyD (k j : Key) : eqKey (keyD k) j = decide (k = j) := by
  cases k with
  | inl i => cases j with
    | inl j => show (i == j) = _; rw [key_ll]
    | inr y => show false = _; rw [key_lr]
  | inr x => cases j with
    | inl j => show false = _; rw [key_rl]
    | inr y => show decide (x = y) = _; rw [key_rr]
def findD (kvs : List (D × D)) (k : Key) : Option D := (kvs.find? fun kv => eqKey kv.1 k).map (·.2)
def putD (kvs : List (D × D)) (k : Key) (v : D) : List (D × D) :=
  if (kvs.any fun kv => eqKey kv.1 k) = true then kvs.map (fun kv => if eqKey kv.1 k = true then (kv.1, v) else kv) else kvs ++ [(keyD k, v)]
section
variable {K : PySem.W.Frag} {mg : Mw} {H : Hp} {Z : Addr → Prop}
theorem RepKs.find (k : Key) : ∀ {kvs : List (D × D)} {kws : List (Key × V)}, RepKs K mg H Z kvs kws → (∀ d, findD kvs k = some d → ∃ v, valV kws k = some v ∧ Rep K mg H Z d v) ∧ (findD kvs k = none → valV kws k = none)
  | _, _, .nil => ⟨fun d h => (by cases h), fun _ => rfl⟩
  | _, _, .cons (d := d) (r := r) (k := j) (v := v) (s := s) h t => by
    obtain ⟨h1, h2⟩ := RepKs.find k t
    by_cases e : j = k
    · have q : findD ((keyD j, d) :: r) k = some d := by
        unfold findD
        rw [List.find?_cons, show eqKey (keyD j) k = true by rw [eqKey_keyD]; exact decide_eq_true e]
        rfl
      rw [q, valV_pos (p := (j, v)) e]
      exact ⟨fun d' h' => ⟨v, rfl, (Option.some.inj h') ▸ h⟩, fun z => by cases z⟩
    · have q : findD ((keyD j, d) :: r) k = findD r k := by
        unfold findD
        rw [List.find?_cons, show eqKey (keyD j) k = false by rw [eqKey_keyD]; exact decide_eq_false e]
      rw [q, valV_neg (p := (j, v)) e]
      exact ⟨h1, h2⟩
theorem RepKs.any (k : Key) : ∀ {kvs : List (D × D)} {kws : List (Key × V)}, RepKs K mg H Z kvs kws → (kvs.any fun kv => eqKey kv.1 k) = (kws.any fun kv => decide (kv.1 = k))
  | _, _, .nil => rfl
  | _, _, .cons h t => by rw [List.any_cons, List.any_cons, RepKs.any k t, eqKey_keyD]
theorem RepKs.append : ∀ {kvs evs : List (D × D)} {kws ews : List (Key × V)}, RepKs K mg H Z kvs kws → RepKs K mg H Z evs ews → RepKs K mg H Z (kvs ++ evs) (kws ++ ews)
  | _, _, _, _, .nil, s => s
  | _, _, _, _, .cons h t, s => .cons h (RepKs.append t s)
theorem RepKs.repl (k : Key) {y : D} {u : V} (ry : Rep K mg H Z y u) : ∀ {kvs : List (D × D)} {kws : List (Key × V)}, RepKs K mg H Z kvs kws →
    RepKs K mg H Z (kvs.map fun kv => if eqKey kv.1 k = true then (kv.1, y) else kv) (kws.map fun kv => if kv.1 = k then (kv.1, u) else kv)
  | _, _, .nil => .nil
  | _, _, .cons (d := d) (k := j) (v := v) h t => by
    rw [List.map_cons, List.map_cons]
    by_cases e : j = k
    · rw [if_pos (show eqKey (keyD j) k = true by rw [eqKey_keyD]; exact decide_eq_true e), if_pos e]
      exact .cons ry (RepKs.repl k ry t)
    · rw [if_neg (show ¬ eqKey (keyD j) k = true by rw [eqKey_keyD]; simpa using e), if_neg e]
      exact .cons h (RepKs.repl k ry t)
theorem RepKs.put (k : Key) {y : D} {u : V} (ry : Rep K mg H Z y u) {kvs : List (D × D)} {kws : List (Key × V)} (h : RepKs K mg H Z kvs kws) : RepKs K mg H Z (putD kvs k y) (putK kws k u) := by
  unfold putD putK
  rw [h.any k]
  split
  · exact h.repl k ry
  · exact h.append (.cons ry .nil)
theorem keyOf_rep {d : D} {k : Key} {x : V} (h : RepB K mg H Z d x) (e : keyOf d = some k) : x = kV k ∧ d = keyD k := by
  cases d with
  | int i => cases e; exact ⟨h.int, rfl⟩
  | str i => cases e; exact ⟨h.str, rfl⟩
  | _ => cases e
end
/-- x in y -/
def dIn (x y : D) : Option D := match y with
  | .str y => (match x with
    | .str x => some (.bl (!(Builtin.Str.occurrences y x 0 y.length 1).isEmpty))
    | _ => none)
  | .lst ys => (match toPy x, toPys ys with
    | some p, some ps => if SeqAt.shaped p = true ∧ SeqAt.shaped (.list ps) = true then some (.bl (ps.any fun z => PyData.eqv z p)) else none
    | _, _ => none)
  | .dct kvs => (keyOf x).map fun k => .bl (findD kvs k).isSome
  | _ => none
def dNotIn (x y : D) : Option D := match y with
  | .str y => (match x with
    | .str x => some (.bl (!(!(Builtin.Str.occurrences y x 0 y.length 1).isEmpty)))
    | _ => none)
  | .lst ys => (match toPy x, toPys ys with
    | some p, some ps => if SeqAt.shaped p = true ∧ SeqAt.shaped (.list ps) = true then some (.bl (!(ps.any fun z => PyData.eqv z p))) else none
    | _, _ => none)
  | .dct kvs => (keyOf x).map fun k => .bl (!(findD kvs k).isSome)
  | _ => none
theorem find_isSome {K : PySem.W.Frag} {mg : Mw} {H : Hp} {Z : Addr → Prop} {kvs : List (D × D)} {kws : List (Key × V)} (h : RepKs K mg H Z kvs kws) (k : Key) : (findD kvs k).isSome = (valV kws k).isSome := by
  obtain ⟨h1, h2⟩ := h.find k
  cases e : findD kvs k with
  | none => rw [h2 e]; rfl
  | some d => obtain ⟨v, q, _⟩ := h1 d e; rw [q]; rfl
theorem opr_in (hu : X.A.units + 65 < cLine) : OpR X (compareOp .In) (rD X.K (mw X G) dIn) := by
  intro pins s σ H x y v u Q I rx ry q
  obtain ⟨Z, d, e, lv, hd, he, d', hf, k⟩ := q
  unfold dIn at hf
  cases e with
  | str y =>
    cases d with
    | str x =>
      cases hf
      have e1 := hd.str
      have e2 := he.str
      subst e1 e2
      exact op_in_str pins s σ H _ _ v u Q I rx ry ⟨_, _, rfl, rfl, k _ H (Grow.refl H) (.bl _)⟩
    | _ => cases hf
  | lst ys =>
    cases e1 : toPy d with
    | none => simp only [e1] at hf; cases hf
    | some p =>
      cases e2 : toPys ys with
      | none => simp only [e1, e2] at hf; cases hf
      | some ps =>
        simp only [e1, e2] at hf
        split at hf
        · rename_i hs
          cases hf
          exact op_inD hu pins s σ H _ _ v u Q I rx ry ⟨p, ps, hd.dp e1, he.dp (by rw [toPy, e2]; rfl), hs.1, hs.2, k _ H (Grow.refl H) (.bl _)⟩
        · cases hf
  | dct kvs =>
    cases e1 : keyOf d with
    | none => simp only [e1] at hf; cases hf
    | some j =>
      simp only [e1] at hf
      cases hf
      obtain ⟨ex, _⟩ := keyOf_rep hd e1
      subst ex
      obtain ⟨a, kws, rfl, h1, r1⟩ := he.dct'
      cases ry
      refine d_in (A := X.A) (by omega) I (DGet.k' h1) rx fun s' I' => ⟨.bl _, H, I', rfl, ?_⟩
      rw [← find_isSome r1]
      exact k _ H (Grow.refl H) (.bl _)
  | _ => cases hf
theorem opr_notIn (hu : X.A.units + 65 < cLine) : OpR X (compareOp .NotIn) (rD X.K (mw X G) dNotIn) := by
  intro pins s σ H x y v u Q I rx ry q
  obtain ⟨Z, d, e, lv, hd, he, d', hf, k⟩ := q
  unfold dNotIn at hf
  cases e with
  | str y =>
    cases d with
    | str x =>
      cases hf
      have e1 := hd.str
      have e2 := he.str
      subst e1 e2
      exact L2.op_notIn_str pins s σ H _ _ v u Q I rx ry ⟨_, _, rfl, rfl, k _ H (Grow.refl H) (.bl _)⟩
    | _ => cases hf
  | lst ys =>
    cases e1 : toPy d with
    | none => simp only [e1] at hf; cases hf
    | some p =>
      cases e2 : toPys ys with
      | none => simp only [e1, e2] at hf; cases hf
      | some ps =>
        simp only [e1, e2] at hf
        split at hf
        · rename_i hs
          cases hf
          exact op_notInD hu pins s σ H _ _ v u Q I rx ry ⟨p, ps, hd.dp e1, he.dp (by rw [toPy, e2]; rfl), hs.1, hs.2, k _ H (Grow.refl H) (.bl _)⟩
        · cases hf
  | dct kvs =>
    cases e1 : keyOf d with
    | none => simp only [e1] at hf; cases hf
    | some j =>
      simp only [e1] at hf
      cases hf
      obtain ⟨ex, _⟩ := keyOf_rep hd e1
      subst ex
      obtain ⟨a, kws, rfl, h1, r1⟩ := he.dct'
      cases ry
      refine d_notIn (A := X.A) (by omega) I (DGet.k' h1) rx fun s' I' => ⟨.bl _, H, I', rfl, ?_⟩
      rw [← find_isSome r1]
      exact k _ H (Grow.refl H) (.bl _)
  | _ => cases hf
/-! ### methods that change nothing -/
def tyOk (T : String) : D → Bool
  | .str _ => T == "str"
  | .lst _ => T == "list"
  | .dct _ => T == "dict"
  | _ => false
/-- o.m(..) by values; T the type's name -/
def mMeth (T : String) (f : D → List D → Option D) (m : M Arg) (n : M (List Arg)) : M D := fun env => (m env).bind fun a env => match a.rd env with
  | some d0 => if tyOk T d0 = true then (n env).bind fun as env => R.opt (match a.rd env, rds env as with
      | some d, some ds => f d ds
      | _, _ => none) env else .bad
  | none => .bad
/-- a value's type and that it bears no attributes, as every run of the code sees it -/
def tyS (X : Cx) (T : String) (x : V) (H : Hp) : Prop := ∀ (pins : List (Addr × Obj)) (σ : St) (s : Shared) (v : Value), Inv X pins σ H s → RelV x v → s.TypeIs v T ∧ ∀ a, v = .ref a → ∃ ob, s.heap.get? a = some ob ∧ ob.dict = none
def tSM0 (X : Cx) (T : String) (r : V → List V → Hp → VK → Prop) (to : TE) : TE := fun σ H Q => to σ H fun x H1 => tyS X T x H1 ∧ r x [] H1 Q
def tSM (X : Cx) (T : String) (r : V → List V → Hp → VK → Prop) (to : TE) (t : TA) : TE := fun σ H Q => to σ H fun x H1 => tyS X T x H1 ∧ t σ H1 fun xs H2 => r x xs H2 Q
theorem pe_sm0 {o : Expr} {to : TE} {name : Str} {apos cpos : Pos} {T id : String} {r : V → List V → Hp → VK → Prop} (pa : PlainAttrs T) (slot : PySem.Slot T name id) (hty : typeOf (.builtin id) = pure (.type "method_descriptor")) (hm : MtR X id r) (ho : PE X o to)
    (hbase : attributeBase o name X.env (eval o X.env) = eval o X.env := by rfl) (hline : (apos.endLine == cpos.line) = true := by rfl) : PE X (.Call (.Attribute o name apos) [] [] cpos) (tSM0 X T r to) := by
  refine ⟨fun pins s σ H Q I h => ?_⟩
  refine wpAny_Call_method0_late hbase hline (thn (ho.run pins s σ H _ I h) fun v s1 ⟨x, H1, I1, r1, ty, q1⟩ => ?_)
  obtain ⟨h1, h2⟩ := ty pins σ s1 v I1 r1
  exact ⟨T, id, pa, slot, hty, h1, h2, Calls.callWith_builtin rfl (PySem.evalArgs_none (hm pins s1 σ H1 x [] v [] Q I1 r1 .nil q1))⟩
theorem pe_sm {o : Expr} {to : TE} {t : TA} {name : Str} {apos cpos : Pos} {T id : String} {r : V → List V → Hp → VK → Prop} (pa : PlainAttrs T) (slot : PySem.Slot T name id) (hty : typeOf (.builtin id) = pure (.type "method_descriptor")) (hm : MtR X id r) (ho : PE X o to) (ha : PA X (e :: es) t)
    (hbase : attributeBase o name X.env (eval o X.env) = eval o X.env := by rfl)
    (hfew : ((backTo cpos (starEach (e :: es) X.env)).all (fun x => !x.1) && (backToKw cpos (keywordEach [] X.env)).all (fun x => x.1.isSome)
      && decide ((e :: es).length + ([] : List Keyword).length + (if ([] : List Keyword).isEmpty then 0 else 1) < 30)) = true := by rfl)
    (hline : (apos.endLine == cpos.line) = true := by rfl) (hs : starEach (e :: es) X.env = (false, eval e X.env) :: starEach es X.env := by rfl) (hplain : (backTo cpos (starEach es X.env)).any (·.1) = false := by rfl) :
    PE X (.Call (.Attribute o name apos) (e :: es) [] cpos) (tSM X T r to t) := by
  refine ⟨fun pins s σ H Q I h => ?_⟩
  refine wpAny_Call_method_late hbase hfew hline rfl (thn (ho.run pins s σ H _ I h) fun v s1 ⟨x, H1, I1, r1, ty, q1⟩ => ?_)
  obtain ⟨h1, h2⟩ := ty pins σ s1 v I1 r1
  refine ⟨T, id, pa, slot, hty, h1, h2, ?_⟩
  have hA := ha.run cpos pins s1 σ H1 _ I1 q1
  rw [hs] at hA ⊢
  refine Calls.callWith_builtin (by show (false || (backTo cpos (starEach es X.env)).any (·.1)) = false; rw [hplain] <;> rfl) (Calls.evalArgs_plain ?_)
  exact thn hA fun us s2 ⟨vs, H2, I2, r2, q2⟩ => hm pins s2 σ H2 x vs v us Q I2 r1 r2 q2
theorem tyOk_tyS {mg : Mw} {H : Hp} {Z : Addr → Prop} {T : String} {d : D} {x : V} (h : RepB X.K mg H Z d x) (t : tyOk T d = true) : tyS X T x H := by
  cases d with
  | str x =>
    have := h.str
    subst this
    exact fun pins σ s v I r => tyV_is I r (eq_of_beq t)
  | lst ds =>
    obtain ⟨a, vs, rfl, h1, _⟩ := h.lst'
    exact fun pins σ s v I r => tyV_is I r (.inl ⟨eq_of_beq t, _, h1⟩)
  | dct ds =>
    obtain ⟨a, vs, rfl, h1, _⟩ := h.dct'
    have ht : T = "dict" := eq_of_beq t
    subst ht
    intro pins σ s v I r
    rcases h1 with h1 | ⟨o, h1⟩
    · exact tyV_is I r (.inr (.inr (.inl ⟨rfl, .inl ⟨_, h1⟩⟩)))
    · cases r
      obtain ⟨_, hg, ex, _⟩ := I.frzK h1
      refine ⟨⟨o, hg, ex.1⟩, fun a e => ?_⟩
      cases e
      exact ⟨o, hg, ex.2.1⟩
  | _ => cases t
theorem me_meth {T : String} {f : D → List D → Option D} {m : M Arg} {n : M (List Arg)} {r : V → List V → Hp → VK → Prop} (h : PE X e (tSM X T r (liftO (bd X G) G.W m) (liftA (bd X G) G.W n)))
    (hr : ∀ x xs H Q, rDm X.K (mw X G) f x xs H Q → r x xs H Q) : ME X G e (mMeth T f m n) := PEimp h fun σ H Q ⟨env, rel, post⟩ => ⟨env, rel, post.seq.imp fun a env1 H1 rel1 x1 q1 v hv => by
  cases ea : a.rd env1 with
  | none => simp only [ea] at q1; exact False.elim q1
  | some d0 =>
    simp only [ea] at q1
    split at q1
    · rename_i ht
      refine ⟨tyOk_tyS (rel1.rd hv ea) ht, env1, rel1, q1.seq.imp fun as env2 H2 rel2 x2 q2 vs hvs => hr _ _ _ _ ?_⟩
      cases eb : a.rd env2 with
      | none => simp only [eb] at q2; exact False.elim q2
      | some d =>
        cases ec : rds env2 as with
        | none => simp only [eb, ec] at q2; exact False.elim q2
        | some ds =>
          simp only [eb, ec] at q2
          refine ⟨_, d, ds, rel2.liveZ, rel2.rd (hv.mono x2) eb, rel2.rds hvs ec, ?_⟩
          cases ef : f d ds with
          | none => rw [ef] at q2; exact False.elim q2
          | some d' =>
            rw [ef] at q2
            exact ⟨d', rfl, fun u H' g r => q2 H' (rel2.grow g) g.ext u r⟩
    · exact False.elim q1⟩
theorem me_meth0 {T : String} {f : D → List D → Option D} {m : M Arg} {r : V → List V → Hp → VK → Prop} (h : PE X e (tSM0 X T r (liftO (bd X G) G.W m)))
    (hr : ∀ x xs H Q, rDm X.K (mw X G) f x xs H Q → r x xs H Q) : ME X G e (mMeth T f m mNil) := PEimp h fun σ H Q ⟨env, rel, post⟩ => ⟨env, rel, post.seq.imp fun a env1 H1 rel1 x1 q1 v hv => by
  cases ea : a.rd env1 with
  | none => simp only [ea] at q1; exact False.elim q1
  | some d0 =>
    simp only [ea] at q1
    split at q1
    · rename_i ht
      refine ⟨tyOk_tyS (rel1.rd hv ea) ht, hr _ _ _ _ ?_⟩
      have q2 := Post.ok rel1 q1.seq
      simp only [ea, rds] at q2
      refine ⟨_, d0, [], rel1.liveZ, rel1.rd hv ea, .nil, ?_⟩
      cases ef : f d0 [] with
      | none => rw [ef] at q2; exact False.elim q2
      | some d' =>
        rw [ef] at q2
        exact ⟨d', rfl, fun u H' g r => q2 H' (rel1.grow g) g.ext u r⟩
    · exact False.elim q1⟩
/-- d.get(k, x), d.get(k) -/
def dGet2 (d : D) (as : List D) : Option D := match d, as with
  | .dct kvs, [x, y] => (keyOf x).map fun k => (findD kvs k).getD y
  | .dct kvs, [x] => (keyOf x).map fun k => (findD kvs k).getD .non
  | _, _ => none
/-- the frozen answer, wherever the default stands -/
def rGetD (X : Cx) : V → List V → Hp → VK → Prop := fun x xs H Q => ∃ a y o, x = .ref a ∧ DGet H a y o ∧ ((∃ z, xs = [y, z] ∧ Q (o.getD z) H) ∨ (xs = [y] ∧ Q (o.getD .non) H))
theorem mtr_get (hu : X.A.units + 1 < cLine) : MtR X "dict.get" (rGetD X) := by
  intro pins s σ H x xs v us Q I rx rs h
  obtain ⟨a, y, o, rfl, g, h⟩ := h
  cases rx
  rcases h with ⟨z, rfl, q⟩ | ⟨rfl, q⟩
  · obtain ⟨u1, u2, rfl, r1, r2⟩ := vals2 rs
    exact d_get2 (A := X.A) hu I g r1 r2 fun w' s' I' rw' => ⟨_, H, I', rw', q⟩
  · obtain ⟨u1, rfl, r1⟩ := vals1 rs
    exact d_get1 (A := X.A) hu I g r1 fun w' s' I' rw' => ⟨_, H, I', rw', q⟩
/-- what may be handed on as it is -/
def D.flat0 : D → Bool
  | .non => true | .bl _ => true | .int _ => true | .str _ => true | .tup _ => true
  | _ => false
theorem RepB.flat0 {K : PySem.W.Frag} {mg : Mw} {H : Hp} {Z : Addr → Prop} {d : D} {x : V} (h : RepB K mg H Z d x) (f : d.flat0 = true) : Rep K mg H Z d x := by
  cases h with
  | val h => exact h
  | _ => cases f
def dGetF (d : D) (as : List D) : Option D := match d, as with
  | .dct kvs, [x, y] => if y.flat0 = true then (keyOf x).map fun k => (findD kvs k).getD y else none
  | .dct kvs, [x] => (keyOf x).map fun k => (findD kvs k).getD .non
  | _, _ => none
theorem get_lift : ∀ x xs H Q, rDm X.K (mw X G) dGetF x xs H Q → rGetD X x xs H Q := by
  intro x xs H Q ⟨Z, d, ds, lv, hd, hds, d', hf, k⟩
  unfold dGetF at hf
  split at hf
  · rename_i kvs y z
    split at hf
    · rename_i hfl
      cases ek : keyOf y with
      | none => rw [ek] at hf; cases hf
      | some j =>
        rw [ek] at hf
        cases hf
        obtain ⟨x1, x2, rfl, h1, h2⟩ := hds.two
        obtain ⟨ex, _⟩ := keyOf_rep h1 ek
        subst ex
        obtain ⟨a, kws, rfl, e1, r1⟩ := hd.dct'
        obtain ⟨f1, f2⟩ := r1.find j
        refine ⟨a, kV j, _, rfl, DGet.k' e1, .inl ⟨x2, rfl, ?_⟩⟩
        have k : ∀ v H', Grow H H' → Rep X.K (mw X G) H' Z ((findD kvs j).getD z) v → Q v H' := k
        cases ed : findD kvs j with
        | none =>
          rw [ed] at k
          rw [f2 ed]
          exact k x2 H (Grow.refl H) (h2.flat0 hfl)
        | some d1 =>
          rw [ed] at k
          obtain ⟨v1, q1, q2⟩ := f1 d1 ed
          rw [q1]
          exact k v1 H (Grow.refl H) q2
    · cases hf
  · rename_i kvs y
    cases ek : keyOf y with
    | none => rw [ek] at hf; cases hf
    | some j =>
      rw [ek] at hf
      cases hf
      obtain ⟨x1, rfl, h1⟩ := hds.one
      obtain ⟨ex, _⟩ := keyOf_rep h1 ek
      subst ex
      obtain ⟨a, kws, rfl, e1, r1⟩ := hd.dct'
      obtain ⟨f1, f2⟩ := r1.find j
      refine ⟨a, kV j, _, rfl, DGet.k' e1, .inr ⟨rfl, ?_⟩⟩
      have k : ∀ v H', Grow H H' → Rep X.K (mw X G) H' Z ((findD kvs j).getD .non) v → Q v H' := k
      cases ed : findD kvs j with
      | none =>
        rw [ed] at k
        rw [f2 ed]
        exact k _ H (Grow.refl H) .non
      | some d1 =>
        rw [ed] at k
        obtain ⟨v1, q1, q2⟩ := f1 d1 ed
        rw [q1]
        exact k v1 H (Grow.refl H) q2
  · cases hf
/-- s.join(texts), s.upper() -/
def dJoin (d : D) (as : List D) : Option D := match d, as with
  | .str a, [.lst ds] => (match strsOf ds with
    | some ys => if (ys.map (·.length)).sum + ys.length * a.length ≤ 16777216 then some (.str (Txt.join a ys)) else none
    | none => none)
  | .str a, [.tup ds] => (match strsOf ds with
    | some ys => if (ys.map (·.length)).sum + ys.length * a.length ≤ 16777216 then some (.str (Txt.join a ys)) else none
    | none => none)
  | _, _ => none
theorem join_lift : ∀ x xs H Q, rDm X.K (mw X G) dJoin x xs H Q → (∃ a p, ∃ ys : List Str, x = .str a ∧ xs = [.ref p] ∧ (SqL X.K H p (ys.map V.str) ∨ SqT X.K H p (ys.map V.str)) ∧
    (ys.map (·.length)).sum + ys.length * a.length ≤ 16777216 ∧ Q (.str (Txt.join a ys)) H) := by
  intro x xs H Q ⟨Z, d, ds, lv, hd, hds, d', hf, k⟩
  unfold dJoin at hf
  split at hf
  · rename_i a ds'
    cases es : strsOf ds' with
    | none => rw [es] at hf; cases hf
    | some ys =>
      simp only [es] at hf
      split at hf
      · rename_i hz
        cases hf
        obtain ⟨x1, rfl, h1⟩ := hds.one
        obtain ⟨p, vs, rfl, e1, r1⟩ := h1.lst'
        obtain ⟨e2, _⟩ := r1.strsOf es
        subst e2
        exact ⟨a, p, ys, hd.str, rfl, .inl e1, hz, k _ H (Grow.refl H) (.str _)⟩
      · cases hf
  · rename_i a ds'
    cases es : strsOf ds' with
    | none => rw [es] at hf; cases hf
    | some ys =>
      simp only [es] at hf
      split at hf
      · rename_i hz
        cases hf
        obtain ⟨x1, rfl, h1⟩ := hds.one
        obtain ⟨p, vs, rfl, e1, r1⟩ := h1.tup'
        obtain ⟨e2, _⟩ := r1.strsOf es
        subst e2
        exact ⟨a, p, ys, hd.str, rfl, .inr e1.sq, hz, k _ H (Grow.refl H) (.str _)⟩
      · cases hf
  · cases hf
def dUpper (d : D) (as : List D) : Option D := match d, as with
  | .str a, [] => if a.length ≤ 5592405 then some (.str (Txt.upper a)) else none
  | _, _ => none
theorem upper_lift : ∀ x xs H Q, rDm X.K (mw X G) dUpper x xs H Q → (∃ a, x = .str a ∧ xs = [] ∧ a.length ≤ 5592405 ∧ Q (.str (Txt.upper a)) H) := by
  intro x xs H Q ⟨Z, d, ds, lv, hd, hds, d', hf, k⟩
  unfold dUpper at hf
  split at hf
  · split at hf
    · rename_i hz
      cases hf
      cases hds
      exact ⟨_, hd.str, rfl, hz, k _ H (Grow.refl H) (.str _)⟩
    · cases hf
  · cases hf
/-! ### methods that change a list -/
def cAppend (c : Cell) (as : List D) : Option (D × Cell) := match c, as with
  | .lst ds, [d] => if ds.length < sizeLine then some (.non, .lst (ds ++ [d])) else none
  | _, _ => none
def cPop (c : Cell) (as : List D) : Option (D × Cell) := match c, as with
  | .lst ds, [] => (ds[ds.length - 1]?).map fun d => (d, .lst ds.dropLast)
  | _, _ => none
def cPopAt (c : Cell) (as : List D) : Option (D × Cell) := match c, as with
  | .lst ds, [.int i] => if -(2 ^ 63) ≤ i ∧ i < 2 ^ 63 then (seqIndex? i ds.length).bind fun k => (ds[k]?).map fun d => (d, .lst (ds.eraseIdx k)) else none
  | _, _ => none
theorem lift_gr {K : PySem.W.Frag} {mg : Mw} {H : Hp} {Z : Addr → Prop} {a : Addr} {o o' : HO} (hz : Z a) (h : H a = some o) (m : isMutO o) : Gr H Z (upd H a o') Z := fun b u e n => by
  have ne : b ≠ a := fun q => by
    subst q
    rcases n with n | n
    · exact n hz
    · rw [h] at e; cases e; exact n m
  exact ⟨by rw [upd_ne ne]; exact e, id⟩
theorem append_lift : ∀ x xs H Q, rMut X.K (mw X G) cAppend x xs H Q → rAppend x xs H Q := by
  intro x xs H Q ⟨Z, a, c, ds, d, c', ex, ca, lv, za, hds, hf, k⟩
  unfold cAppend at hf
  split at hf
  · split at hf
    · rename_i hz
      cases hf
      cases ca with
      | lst h r =>
        cases hds with
        | cons h1 t =>
          cases t
          have g := fun o' => lift_gr (K := X.K) (mg := mw X G) (o' := o') za h trivial
          exact ⟨a, _, _, ex, rfl, h, by rw [← r.length]; exact hz, k _ _ (.lst upd_same ((r.mono (g _)).append (.cons (h1.mono (g _)) .nil))) .non⟩
    · cases hf
  · cases hf
theorem pop_lift : ∀ x xs H Q, rMut X.K (mw X G) cPop x xs H Q → rPop x xs H Q := by
  intro x xs H Q ⟨Z, a, c, ds, d, c', ex, ca, lv, za, hds, hf, k⟩
  unfold cPop at hf
  split at hf
  · rename_i es
    cases ed : es[es.length - 1]? with
    | none => rw [ed] at hf; cases hf
    | some d1 =>
      rw [ed] at hf
      cases hf
      cases ca with
      | lst h r =>
        cases hds
        obtain ⟨v, hv, rv⟩ := r.get ed
        rw [r.length] at hv
        have g := fun o' => lift_gr (K := X.K) (mg := mw X G) (o' := o') za h trivial
        exact ⟨a, _, v, ex, rfl, h, hv, k _ _ (.lst upd_same (r.mono (g _)).dropLast) (rv.mono (g _))⟩
  · cases hf
theorem popAt_lift : ∀ x xs H Q, rMut X.K (mw X G) cPopAt x xs H Q → rPopAt x xs H Q := by
  intro x xs H Q ⟨Z, a, c, ds, d, c', ex, ca, lv, za, hds, hf, k⟩
  unfold cPopAt at hf
  split at hf
  · rename_i es i
    split at hf
    · rename_i hb
      cases ei : seqIndex? i es.length with
      | none => rw [ei] at hf; cases hf
      | some j =>
        rw [ei] at hf
        cases ed : es[j]? with
        | none => simp only [Option.bind_some, ed] at hf; cases hf
        | some d1 =>
          simp only [Option.bind_some, ed] at hf
          cases hf
          cases ca with
          | lst h r =>
            cases hds with
            | cons h1 t =>
              cases t
              cases h1
              obtain ⟨v, hv, rv⟩ := r.get ed
              rw [r.length] at ei
              have g := fun o' => lift_gr (K := X.K) (mg := mw X G) (o' := o') za h trivial
              exact ⟨a, _, i, j, v, ex, rfl, h, hb.1, hb.2, ei, hv, k _ _ (.lst upd_same ((r.mono (g _)).eraseIdx j)) (rv.mono (g _))⟩
    · cases hf
  · cases hf
def cSetL (c : Cell) (k d : D) : Option Cell := match c, k with
  | .lst ds, .int i => (ixN ds.length i).map fun j => .lst (ds.set j d)
  | _, _ => none
theorem setL_lift : ∀ x k v H Q, rSet X.K (mw X G) cSetL x k v H Q → rSetL x k v H Q := by
  intro x kk v H Q ⟨Z, a, c, dk, d, c', ex, ca, lv, za, hk, hd, hf, k⟩
  unfold cSetL at hf
  split at hf
  · rename_i es i
    cases ei : ixN es.length i with
    | none => rw [ei] at hf; cases hf
    | some j =>
      rw [ei] at hf
      cases hf
      cases ca with
      | lst h r =>
        cases hk
        rw [r.length] at ei
        have g := fun o' => lift_gr (K := X.K) (mg := mw X G) (o' := o') za h trivial
        exact ⟨a, _, i, j, ex, rfl, h, ei, k _ (.lst upd_same ((r.mono (g _)).set (hd.mono (g _)) j))⟩
  · cases hf
end
end Mi
namespace Mi
open PySem PySem.Spec L2
open PyProof.Rows hiding St

/-! ### what loops walk -/
def chars (x : Str) : List D := x.cps.toList.map fun c => .str ⟨#[c]⟩
def itemsOf : D → Option (List D)
  | .lst ds => some ds
  | .tup ds => some ds
  | .str x => some (chars x)
  | .dct kvs => some (kvs.map (·.1))
  | _ => none
def srcOf (env : Env') : Arg → Option Src
  | .v d => (itemsOf d).map fun ds => (ds, none)
  | .s i => match env[i]? with
    | some (.val d) => (itemsOf d).map fun ds => (ds, none)
    | some (.cel o (.lst ds)) => some (ds, some (i, o, .lst ds))
    | _ => none
def mSrc (m : M Arg) : M Src := fun env => (m env).bind fun a env => R.opt (srcOf env a) env
def iAny (K : PySem.W.Frag) (te : TE) : TI := fun σ H R => te σ H fun x H1 => (∃ a xs, x = .ref a ∧ SqL K H1 a xs ∧ R (Itl K a) H1) ∨ (∃ a xs, x = .ref a ∧ SqT K H1 a xs ∧ R (Itt K a) H1) ∨ (∃ y, x = .str y ∧ R (Its y) H1) ∨
  ∃ d o kvs, x = .ref d ∧ H1 d = some (.frz o (.dK kvs)) ∧ R (Itk d o kvs) H1
theorem pi_any {X : Cx} {tg e : Expr} {te : TE} (he : PE X e te) : PI X tg e (iAny X.K te) := by
  refine ⟨fun pins s σ H R I h => ?_⟩
  refine thn (he.run pins s σ H _ I h) fun v s1 ⟨x, H1, I1, r1, q1⟩ => ?_
  rcases q1 with ⟨a, xs, e, hq, q⟩ | ⟨a, xs, e, hq, q⟩ | ⟨y, e, q⟩ | ⟨d, o, kvs, e, hd, q⟩
  · subst e
    cases r1
    obtain ⟨its, rv, p, hz⟩ := I1.list hq
    refine wpAny_pyIter_list p.isList ?_
    refine ⟨s1.heap.objs.size, [s1.heap.objs.size], _, _, H1, rfl, I1.kept (t' := s1.toks) fun b o e => Heap.get?_push_of_some _ e, turn_list a _, ⟨_, Heap.get?_push_size _ rfl, rfl, rfl⟩, fun b hb => ?_, q⟩
    have e : b = s1.heap.objs.size := by simpa using hb
    subst e
    exact I1.fpOk (Nat.le_refl _) (I1.hok.fresh (Nat.le_refl _))
  · subst e
    cases r1
    obtain ⟨its, rv, p, hz⟩ := I1.tuple hq
    refine wpAny_pyIter_tuple (show s1.heap.IsTuple a its.toArray from p) ?_
    refine ⟨s1.heap.objs.size, [s1.heap.objs.size], _, _, H1, rfl, I1.kept (t' := s1.toks) fun b o e => Heap.get?_push_of_some _ e, turn_tuple a _, ⟨_, Heap.get?_push_size _ rfl, rfl, rfl⟩, fun b hb => ?_, q⟩
    have e : b = s1.heap.objs.size := by simpa using hb
    subst e
    exact I1.fpOk (Nat.le_refl _) (I1.hok.fresh (Nat.le_refl _))
  · subst e
    obtain ⟨t, rfl⟩ := r1
    cases ha : y.cps.all (· < 128)
    · exact wpAny_pyIter_wide ha (pi_one (tk := s1.toks) I1 _ (turn_str _ y t "str_iterator" (.inr rfl)) ⟨_, Heap.get?_push_size _ rfl, rfl, rfl⟩ q)
    · exact wpAny_pyIter_ascii ha (pi_one (tk := s1.toks) I1 _ (turn_str _ y t "str_ascii_iterator" (.inl rfl)) ⟨_, Heap.get?_push_size _ rfl, rfl, rfl⟩ q)
  · subst e
    obtain rfl : v = Value.ref d := r1
    obtain ⟨hs, hgd, hx, es, ep, vs, hdt, hsz, kv, hm⟩ := I1.frzK hd
    refine iter_keys hs hgd hx hdt (pi_one (tk := s1.toks) I1 _ (turn_keys _ hdt) ⟨_, Heap.get?_push_size _ rfl, rfl, ?_⟩ q)
    rw [hsz] <;> rfl
section
variable {B : Bd} {σ0 : St} {env0 : Env'} {H0 : Hp}
theorem walks_list {K : PySem.W.Frag} {mg : Mw} {a : Addr} {ds : List D} {vs : List V} {H : Hp} {Z : Addr → Prop} (hq : SqL K H a vs) (r : Reps K mg H Z ds vs) :
    ((Itl K a).stop ds.length H) ∧ ∀ i d, ds[i]? = some d → (Itl K a).go i H ∧ ∀ v H', (Itl K a).yld i H v H' → Grow H H' ∧ Rep K mg H' Z d v := by
  refine ⟨⟨vs, hq, by rw [r.length]; exact Nat.le_refl _⟩, fun i d hd => ?_⟩
  obtain ⟨v, h1, h2⟩ := r.get hd
  refine ⟨⟨vs, v, hq, h1⟩, fun w H' ⟨e, y⟩ => ?_⟩
  subst e
  have := y vs hq
  rw [h1] at this
  cases this
  exact ⟨Grow.refl _, h2⟩
theorem walks_tup {K : PySem.W.Frag} {mg : Mw} {a : Addr} {ds : List D} {vs : List V} {H : Hp} {Z : Addr → Prop} (hq : SqT K H a vs) (r : Reps K mg H Z ds vs) :
    ((Itt K a).stop ds.length H) ∧ ∀ i d, ds[i]? = some d → (Itt K a).go i H ∧ ∀ v H', (Itt K a).yld i H v H' → Grow H H' ∧ Rep K mg H' Z d v := by
  refine ⟨⟨vs, hq, by rw [r.length]; exact Nat.le_refl _⟩, fun i d hd => ?_⟩
  obtain ⟨v, h1, h2⟩ := r.get hd
  refine ⟨⟨vs, v, hq, h1⟩, fun w H' ⟨e, y⟩ => ?_⟩
  subst e
  have := y vs hq
  rw [h1] at this
  cases this
  exact ⟨Grow.refl _, h2⟩
theorem RepKs.key {K : PySem.W.Frag} {mg : Mw} {H : Hp} {Z : Addr → Prop} : ∀ {kvs : List (D × D)} {kws : List (Key × V)} {i : Nat} {d : D}, RepKs K mg H Z kvs kws → (kvs.map (·.1))[i]? = some d → ∃ k v, kws[i]? = some (k, v) ∧ d = keyD k
  | _, _, _, _, .nil, e => by simp at e
  | _, _, 0, _, .cons h t, e => by simp at e; exact ⟨_, _, rfl, e.symm⟩
  | _, _, i + 1, _, .cons h t, e => by
    obtain ⟨k, v, h1, h2⟩ := RepKs.key (i := i) t (by simpa using e)
    exact ⟨k, v, by simpa using h1, h2⟩
theorem Rep.ofKey {K : PySem.W.Frag} {mg : Mw} {H : Hp} {Z : Addr → Prop} (k : Key) : Rep K mg H Z (keyD k) (kV k) := by
  cases k with
  | inl i => exact .int i
  | inr x => exact .str x
/-- a value's items -/
theorem src_val {R : It → Hp → Prop} {d : D} {ds : List D} {x : V} (h : RepE B σ0 env0 H0 d x) (hd : itemsOf d = some ds) (k : ∀ J, Walks' B J (ds, none) σ0 env0 H0 → R J H0) :
    (∃ a xs, x = .ref a ∧ SqL B.K H0 a xs ∧ R (Itl B.K a) H0) ∨ (∃ a xs, x = .ref a ∧ SqT B.K H0 a xs ∧ R (Itt B.K a) H0) ∨ (∃ y, x = .str y ∧ R (Its y) H0) ∨
      ∃ d o kvs, x = .ref d ∧ H0 d = some (.frz o (.dK kvs)) ∧ R (Itk d o kvs) H0 := by
  cases h with
  | @lst a es vs hl r =>
    cases hd
    refine .inl ⟨a, vs, rfl, hl.sq, k _ ⟨trivial, fun z p σ env H rel g _ => ?_⟩⟩
    exact walks_list (g.lst hl).sq (r.mono g)
  | @tup a es vs hl r =>
    cases hd
    refine .inr (.inl ⟨a, vs, rfl, hl.sq, k _ ⟨trivial, fun z p σ env H rel g _ => ?_⟩⟩)
    exact walks_tup (g.tup hl).sq (r.mono g)
  | str y =>
    cases hd
    refine .inr (.inr (.inl ⟨y, rfl, k _ ⟨trivial, fun z p σ env H rel g _ => ?_⟩⟩))
    have hl : (chars y).length = y.cps.size := by unfold chars; simp
    refine ⟨by show y.cps.size ≤ _; rw [hl]; exact Nat.le_refl _, fun i d hd => ?_⟩
    unfold chars at hd
    rw [List.getElem?_map] at hd
    cases e : y.cps.toList[i]? with
    | none => rw [e] at hd; cases hd
    | some c =>
      rw [e] at hd
      cases hd
      have hc : y.cps[i]? = some c := by simpa using e
      refine ⟨(Array.getElem?_eq_some_iff.mp hc).1, fun v H' ⟨e, c', h1, h2⟩ => ?_⟩
      subst e
      rw [hc] at h1
      cases h1
      subst h2
      exact ⟨Grow.refl _, .str _⟩
  | @dct a ob kvs kws hl r =>
    cases hd
    refine .inr (.inr (.inr ⟨a, ob, kws, rfl, hl, k _ ⟨trivial, fun z p σ env H rel g _ => ?_⟩⟩))
    have hH := g.frz hl (fun z => z)
    refine ⟨⟨hH, by rw [List.length_map, r.length]; exact Nat.le_refl _⟩, fun i d hd => ?_⟩
    obtain ⟨j, v, h1, h2⟩ := r.key hd
    refine ⟨⟨hH, (List.getElem?_eq_some_iff.mp h1).1⟩, fun w H' ⟨e, j', v', h3, h4⟩ => ?_⟩
    subst e
    rw [h1] at h3
    cases h3
    subst h2 h4
    exact ⟨Grow.refl _, .ofKey j⟩
  | _ => cases hd
theorem mi_any {X : Cx} {G : Gd} {tg e : Expr} {m : M Arg} (h : MO X G e m) : MI X G tg e (mSrc m) := PIimp (pi_any h) fun σ H Rr ⟨env, rel, post⟩ => ⟨env, rel, post.seq.imp fun a env1 H1 rel1 x1 q v hv => by
  obtain ⟨s, hs, k⟩ := Post.opt rel1 q
  cases a with
  | v d =>
    have hs : (itemsOf d).map (fun ds => ((ds, none) : Src)) = some s := hs
    cases e : itemsOf d with
    | none => rw [e] at hs; cases hs
    | some ds =>
      rw [e] at hs
      cases hs
      exact src_val (B := bd X G) hv e k
  | s i =>
    have hv : σ[i]? = some (some v) := hv
    unfold srcOf at hs
    simp only at hs
    split at hs
    · rename_i d hi
      cases e : itemsOf d with
      | none => rw [e] at hs; cases hs
      | some ds =>
        rw [e] at hs
        cases hs
        obtain ⟨w, h1, h2⟩ := rel1.val i d hi
        have : v = w := some_some hv h1
        subst this
        exact src_val (B := bd X G) h2 e k
    · rename_i o ds hi
      cases hs
      obtain ⟨a, h1, h2, _, _⟩ := rel1.chg i o _ hi
      have : v = .ref a := some_some hv h1
      subst this
      cases h2 with
      | @lst _ vs hl r =>
        refine .inl ⟨a, vs, rfl, SqL.of hl, k _ ⟨hi, fun z p σ' env' H' rel' g w => ?_⟩⟩
        obtain ⟨o', h3, h4⟩ := w i o _ rfl
        obtain ⟨a', h5, h6, _, _⟩ := rel'.chg i o' _ h3
        have : V.ref a = .ref a' := some_some (h4.trans h1) h5
        injection this with this
        subst this
        cases h6 with
        | @lst _ vs' hl' r' => exact walks_list (SqL.of hl') r'
    · cases hs⟩
def mRng (f : List D → Option (Int × Nat)) (m : M (List Arg)) : M Src := fun env => (m env).bind fun as env => R.opt (match owns env as with
  | some ds => (f ds).map fun (lo, n) => ((List.range n).map fun i => D.int (lo + (i : Nat)), none)
  | none => none) env
def dRng1 : List D → Option (Int × Nat)
  | [.int j] => if -(2 ^ 62) ≤ j ∧ j < 2 ^ 62 then some (0, j.toNat) else none
  | _ => none
def dRng2 : List D → Option (Int × Nat)
  | [.int i, .int j] => if -(2 ^ 62) ≤ i ∧ i < 2 ^ 62 ∧ -(2 ^ 62) ≤ j ∧ j < 2 ^ 62 then some (i, (j - i).toNat) else none
  | _ => none
theorem walks_rng (lo : Int) (n : Nat) : Walks' B (Itr lo n) ((List.range n).map fun i => D.int (lo + (i : Nat)), none) σ0 env0 H0 := ⟨trivial, fun z p σ env H rel g _ => by
  refine ⟨by show n ≤ _; simp, fun i d hd => ?_⟩
  rw [List.getElem?_map] at hd
  cases e : (List.range n)[i]? with
  | none => rw [e] at hd; cases hd
  | some j =>
    rw [e] at hd
    cases hd
    obtain ⟨hi, hj⟩ := List.getElem?_eq_some_iff.mp e
    simp only [List.getElem_range] at hj
    subst hj
    refine ⟨by show i < n; simpa using hi, fun v H' ⟨h1, h2⟩ => ?_⟩
    subst h1 h2
    exact ⟨Grow.refl _, .int _⟩⟩
theorem mi_rng1 {X : Cx} {G : Gd} {tg a : Expr} {p pos : Pos} {m : M (List Arg)} (hg : Gl X "range") (hm : X.mg "range" = none) (ha : MA X G [a] m) (hs : starEach [a] X.env = [(false, eval a X.env)] := by rfl) : MI X G tg (.Call (.Name "range" p) [a] [] pos) (mRng dRng1 m) :=
  PIimp (pi_range1 hg hm ha hs) fun σ H Rr ⟨env, rel, post⟩ => ⟨env, rel, post.seq.imp fun as env1 H1 rel1 x1 q vs hv => by
    obtain ⟨s, hs, k⟩ := Post.opt rel1 q
    cases ea : owns env1 as with
    | none => rw [ea] at hs; cases hs
    | some ds =>
      rw [ea] at hs
      have hs : (dRng1 ds).map _ = some s := hs
      cases ed : dRng1 ds with
      | none => rw [ed] at hs; cases hs
      | some q =>
        obtain ⟨lo, n⟩ := q
        rw [ed] at hs
        cases hs
        have r := rel1.owns hv ea
        unfold dRng1 at ed
        split at ed
        · rename_i j
          split at ed
          · rename_i hj
            cases ed
            cases r with
            | cons r1 r =>
              cases r
              cases r1
              exact ⟨j, rfl, hj.1, hj.2, k _ (walks_rng 0 j.toNat)⟩
          · cases ed
        · cases ed⟩
theorem mi_rng2 {X : Cx} {G : Gd} {tg a b : Expr} {p pos : Pos} {m : M (List Arg)} (hg : Gl X "range") (hm : X.mg "range" = none) (ha : MA X G [a, b] m) (hs : starEach [a, b] X.env = [(false, eval a X.env), (false, eval b X.env)] := by rfl) (hs2 : starEach [b] X.env = [(false, eval b X.env)] := by rfl) :
    MI X G tg (.Call (.Name "range" p) [a, b] [] pos) (mRng dRng2 m) :=
  PIimp (pi_range2 hg hm ha hs hs2) fun σ H Rr ⟨env, rel, post⟩ => ⟨env, rel, post.seq.imp fun as env1 H1 rel1 x1 q vs hv => by
    obtain ⟨s, hs, k⟩ := Post.opt rel1 q
    cases ea : owns env1 as with
    | none => rw [ea] at hs; cases hs
    | some ds =>
      rw [ea] at hs
      have hs : (dRng2 ds).map _ = some s := hs
      cases ed : dRng2 ds with
      | none => rw [ed] at hs; cases hs
      | some q =>
        obtain ⟨lo, n⟩ := q
        rw [ed] at hs
        cases hs
        have r := rel1.owns hv ea
        unfold dRng2 at ed
        split at ed
        · rename_i i j
          split at ed
          · rename_i hj
            cases ed
            cases r with
            | cons r1 r =>
              cases r with
              | cons r2 r =>
                cases r
                cases r1
                cases r2
                exact ⟨_, _, rfl, hj, k _ (walks_rng _ _)⟩
          · cases ed
        · cases ed⟩
end
end Mi
namespace Mi
open PySem PySem.Spec L2
open PyProof.Rows hiding St

/-! ### a < b < c -/
def mChain (f f' : D → D → Option D) (m n l : M Arg) : M D := fun env => (m env).bind fun a env => (n env).bind fun b env =>
  (R.opt (match a.rd env, b.rd env with
    | some d, some e => f d e
    | _, _ => none) env).bind fun k env => match k with
    | .bl true => (l env).bind fun c env => R.opt (match b.rd env, c.rd env with
      | some d, some e => f' d e
      | _, _ => none) env
    | .bl false => .ok (.bl false) env
    | _ => .bad
theorem chain_lift {B : Bd} {W : WX} {f f' : D → D → Option D} {m n l : M Arg} {σ : St} {H : Hp} {Q : VK} (h : liftE B W (mChain f f' m n l) σ H Q) :
    tChain (rD B.K B.mg f) (rD B.K B.mg f') (liftO B W m) (liftO B W n) (liftO B W l) σ H Q := by
  obtain ⟨env, rel, post⟩ := h
  refine ⟨env, rel, post.seq.imp fun a env1 H1 rel1 _ q1 v hv => ⟨env1, rel1, q1.seq.imp fun b env2 H2 rel2 x2 q2 w hw => ?_⟩⟩
  have q2 := q2.seq
  obtain ⟨k, hk, q3⟩ := Post.opt rel2 q2
  cases ea : a.rd env2 with
  | none => rw [ea] at hk; cases hk
  | some d =>
    cases eb : b.rd env2 with
    | none => rw [ea, eb] at hk; cases hk
    | some e =>
      rw [ea, eb] at hk
      have hk : f d e = some k := hk
      refine ⟨_, d, e, rel2.liveZ, rel2.rd (hv.mono x2) ea, rel2.rd hw eb, k, hk, fun u H' g r => ?_⟩
      cases r with
      | bl t =>
        refine ⟨t, rfl, ?_⟩
        cases t with
        | false =>
          rw [if_neg Bool.false_ne_true]
          exact Post.ok (rel2.grow g) (Post.from g.ext q3) _ (.bl false)
        | true =>
          rw [if_pos rfl]
          have q3 : Post B W σ env2 H2 ((l env2).bind fun c env => R.opt (match b.rd env, c.rd env with
            | some d, some e => f' d e
            | _, _ => none) env) _ := q3
          refine ⟨env2, rel2.grow g, (Post.from g.ext q3).seq.imp fun c env3 H3 rel3 x3 q4 z hz => ?_⟩
          have q4 : Post B W σ env3 H3 (R.opt (match b.rd env3, c.rd env3 with
            | some d, some e => f' d e
            | _, _ => none) env3) (fun d env' H' => ∀ v, RepE B σ env' H' d v → Q v H') := q4
          cases eb3 : b.rd env3 with
          | none => rw [eb3] at q4; exact False.elim q4
          | some e3 =>
            cases ec3 : c.rd env3 with
            | none => rw [eb3, ec3] at q4; exact False.elim q4
            | some c3 =>
              rw [eb3, ec3] at q4
              have q4 : Post B W σ env3 H3 (R.opt (f' e3 c3) env3) (fun d env' H' => ∀ v, RepE B σ env' H' d v → Q v H') := q4
              refine ⟨_, e3, c3, rel3.liveZ, rel3.rd (hw.mono ((g.ext (σ := σ) (env := env2)).trans x3)) eb3, rel3.rd hz ec3, ?_⟩
              cases ef : f' e3 c3 with
              | none => rw [ef] at q4; exact False.elim q4
              | some d' =>
                rw [ef] at q4
                exact ⟨d', rfl, fun u' H' g' r' => q4 H' (rel3.grow g') g'.ext u' r'⟩
      | _ => exact False.elim q3
section
variable {X : Cx} {G : Gd} {e a b c : Expr} {es : List Expr} {pos p : Pos}
theorem me_chain {op op' : CmpOp} {f f' : D → D → Option D} {m n l : M Arg} (ho : OpR X (compareOp op) (rD X.K (mw X G) f)) (ho' : OpR X (compareOp op') (rD X.K (mw X G) f')) (ha : MO X G a m) (hb : MO X G b n) (hc : MO X G c l)
    (hm : lastMarks [op, op'] [b, c] = false := by with_unfolding_all rfl) : ME X G (.Compare a [op, op'] [b, c] pos) (mChain f f' m n l) :=
  PEimp (pe_chain ho ho' ha hb hc hm) fun σ H Q h => chain_lift h
theorem mt_chain {op op' : CmpOp} {f f' : D → D → Option D} {m n l : M Arg} (ho : OpR X (compareOp op) (rD X.K (mw X G) f)) (ho' : OpR X (compareOp op') (rD X.K (mw X G) f')) (ha : MO X G a m) (hb : MO X G b n) (hc : MO X G c l)
    (hm : lastMarks [op, op'] [b, c] = false := by with_unfolding_all rfl) : MT X G (.Compare a [op, op'] [b, c] pos) (mIsT (mChain f f' m n l)) :=
  PTimp (pt_chain ho ho' ha hb hc hm) fun σ H Q ⟨env, rel, post⟩ => by
    refine chain_lift ⟨env, rel, post.seq.imp fun d env1 H1 rel1 _ q1 v hv => ?_⟩
    cases hv with
    | bl b => exact ⟨b, rfl, Post.ok rel1 q1⟩
    | _ => exact False.elim q1
end
end Mi
namespace Mi
open PySem PySem.Spec L2
open PyProof.Rows hiding St

/-! ### operations that make new objects -/
def okNew (K : PySem.W.Frag) (mg : Mw) (H : Hp) (Z : Addr → Prop) (c : Cell) (Q : VK) : Prop := ∀ p ho, H p = none → isMutO ho → CellAt K mg (upd H p ho) (fun b => Z b ∨ b = p) p c → Q (.ref p) (upd H p ho)
theorem okNew.of {B : Bd} {W : WX} {σ : St} {env env1 : Env'} {H H1 : Hp} {c : Cell} {Q : VK} (x : Ext σ env H σ env1 H1) (rel : Rel B σ env1 H1) (h : PostF B W σ env H (.ok c env1) fun p H' => Q (.ref p) H') : okNew B.K B.mg H1 (Zall B.z σ env1) c Q := fun p ho hp m ca => by
  have e1 : (fun b => Zall B.z σ env1 b ∨ b = p) = Zall (B.add p).z σ env1 := by
    funext b
    exact propext ⟨fun h => by rcases h with (h | h) | h; exact .inl (.inl h); exact .inr h; exact .inl (.inr h), fun h => by rcases h with (h | h) | h; exact .inl (.inl h); exact .inr h; exact .inl (.inr h)⟩
  rw [e1] at ca
  exact PostF.new x rel hp m ca h
section
variable (K : PySem.W.Frag) (mg : Mw)
def rN2 (f : D → D → Option Cell) : R2 := fun x y H Q => ∃ Z d e, Live H Z ∧ RepB K mg H Z d x ∧ RepB K mg H Z e y ∧ ∃ c, f d e = some c ∧ okNew K mg H Z c Q
def rNs (f : List D → Option Cell) : List V → Hp → VK → Prop := fun xs H Q => ∃ Z ds, Live H Z ∧ RepBs K mg H Z ds xs ∧ ∃ c, f ds = some c ∧ okNew K mg H Z c Q
def rNS (f : D → Option Int → Option Int → Option Cell) : V → Option Int → Option Int → Hp → VK → Prop := fun x lo hi H Q => ∃ Z d, Live H Z ∧ RepB K mg H Z d x ∧ ∃ c, f d lo hi = some c ∧ okNew K mg H Z c Q
end
def mBinF (f : D → D → Option Cell) (m n : M Arg) : M Cell := fun env => (m env).bind fun a env => (n env).bind fun b env =>
  R.opt (match a.rd env, b.rd env with
    | some d, some e => f d e
    | _, _ => none) env
theorem PostF.seq' {B : Bd} {W : WX} {σ : St} {env env1 : Env'} {H H1 : Hp} {α : Type} {r : R α} {f : α → Env' → R Cell} {k : Addr → Hp → Prop} (x : Ext σ env H σ env1 H1) (h : PostF B W σ env H (r.bind f) k) : Post B W σ env1 H1 r fun x env2 H2 => PostF B W σ env H (f x env2) k ∧ Ext σ env H σ env2 H2 := by
  cases r with
  | ok a e => exact fun H' rel ext => ⟨h, x.trans ext⟩
  | exc c fs e => exact fun cls od H' rel ext q => h cls od H' rel (x.trans ext) q
  | bad => exact h
theorem binF_lift {B : Bd} {W : WX} {f : D → D → Option Cell} {m n : M Arg} {σ : St} {H : Hp} {Q : VK} (h : liftF B W (mBinF f m n) σ H Q) : liftO B W m σ H fun x H1 => liftO B W n σ H1 fun y H2 => rN2 B.K B.mg f x y H2 Q := by
  obtain ⟨env, rel, post⟩ := h
  refine ⟨env, rel, (PostF.seq' Ext.refl post).imp fun a env1 H1 rel1 _ q1 v hv => ⟨env1, rel1, (PostF.seq' q1.2 q1.1).imp fun b env2 H2 rel2 x2 q2 w hw => ?_⟩⟩
  obtain ⟨q2, x12⟩ := q2
  cases ea : a.rd env2 with
  | none => rw [ea] at q2; exact False.elim q2
  | some d =>
    cases eb : b.rd env2 with
    | none => rw [ea, eb] at q2; exact False.elim q2
    | some e =>
      rw [ea, eb] at q2
      have q2 : PostF B W σ env H (R.opt (f d e) env2) _ := q2
      refine ⟨_, d, e, rel2.liveZ, rel2.rd (hv.mono x2) ea, rel2.rd hw eb, ?_⟩
      cases ef : f d e with
      | none => rw [ef] at q2; exact False.elim q2
      | some c =>
        rw [ef] at q2
        exact ⟨c, rfl, okNew.of x12 rel2 q2⟩
def mCallF (f : List D → Option Cell) (m : M (List Arg)) : M Cell := fun env => (m env).bind fun as env =>
  R.opt (match rds env as with
    | some ds => f ds
    | none => none) env
theorem callF_lift {B : Bd} {W : WX} {f : List D → Option Cell} {m : M (List Arg)} {σ : St} {H : Hp} {Q : VK} (h : liftF B W (mCallF f m) σ H Q) : liftA B W m σ H fun xs H1 => rNs B.K B.mg f xs H1 Q := by
  obtain ⟨env, rel, post⟩ := h
  refine ⟨env, rel, (PostF.seq' Ext.refl post).imp fun as env1 H1 rel1 _ q1 vs hv => ?_⟩
  obtain ⟨q1, x1⟩ := q1
  cases ea : rds env1 as with
  | none => rw [ea] at q1; exact False.elim q1
  | some ds =>
    rw [ea] at q1
    have q1 : PostF B W σ env H (R.opt (f ds) env1) _ := q1
    refine ⟨_, ds, rel1.liveZ, rel1.rds hv ea, ?_⟩
    cases ef : f ds with
    | none => rw [ef] at q1; exact False.elim q1
    | some c =>
      rw [ef] at q1
      exact ⟨c, rfl, okNew.of x1 rel1 q1⟩
def mSliceF (f : D → Option Int → Option Int → Option Cell) (m : M Arg) (l h : M (Option Int)) : M Cell := fun env => (m env).bind fun a env => (l env).bind fun lo env => (h env).bind fun hi env =>
  R.opt (match a.rd env with
    | some d => f d lo hi
    | none => none) env
section
variable {X : Cx} {G : Gd} {e a b c : Expr} {es : List Expr} {pos p : Pos}
theorem mf_bin {op : Operator} {f : D → D → Option Cell} {m n : M Arg} (ho : OpR X (binaryOp op) (rN2 X.K (mw X G) f)) (h1 : MO X G a m) (h2 : MO X G b n) : MF X G (.BinOp a op b pos) (mBinF f m n) :=
  PEimp (pe_op ho h1 h2) fun σ H Q h => binF_lift h
theorem mf_callB {id : String} {x : Str} {f : List D → Option Cell} {m : M (List Arg)} (hc : CallR X (.builtin id) (rNs X.K (mw X G) f)) (hg : Gl X x) (hm : X.mg x = none) (hv : bootBuiltins x = some (.builtin id)) (ha : MA X G (e :: es) m) (hn : x ≠ "__name__" := by decide) (hdb : (x == ("__debug__" : Str)) = false := by decide)
    (he : starEach (e :: es) X.env = (false, eval e X.env) :: starEach es X.env := by rfl) (hpl : (backTo pos (starEach es X.env)).any (·.1) = false := by rfl) : MF X G (.Call (.Name x p) (e :: es) [] pos) (mCallF f m) :=
  PEimp (pe_callB hc hg hm hv ha hn hdb he hpl) fun σ H Q h => callF_lift h
theorem mf_callTy {T : String} {x : Str} {f : List D → Option Cell} {m : M (List Arg)} (hc : CallR X (.type T) (rNs X.K (mw X G) f)) (hg : Gl X x) (hm : X.mg x = none) (hv : bootBuiltins x = some (.type T)) (ha : MA X G (e :: es) m) (hn : x ≠ "__name__" := by decide) (hdb : (x == ("__debug__" : Str)) = false := by decide)
    (he : starEach (e :: es) X.env = (false, eval e X.env) :: starEach es X.env := by rfl) (hpl : (backTo pos (starEach es X.env)).any (·.1) = false := by rfl) : MF X G (.Call (.Name x p) (e :: es) [] pos) (mCallF f m) :=
  PEimp (pe_callTy hc hg hm hv ha hn hdb he hpl) fun σ H Q h => callF_lift h
theorem mf_slice {f : D → Option Int → Option Int → Option Cell} {m : M Arg} {l h : M (Option Int)} {lo hi : Option Expr} {p2 : Pos} (hr : SlR X (rNS X.K (mw X G) f)) (he : MO X G e m) (hl : MP X G lo l) (hu : MP X G hi h) : MF X G (.Subscript e (.Slice lo hi none p2) pos) (mSliceF f m l h) :=
  PEimp (pe_slice hr he hl hu) fun σ H Q ⟨env, rel, post⟩ => ⟨env, rel, (PostF.seq' Ext.refl post).imp fun a env1 H1 rel1 x1 q1 v hv => ⟨env1, rel1, (PostF.seq' q1.2 q1.1).imp fun i env2 H2 rel2 x2 q2 => ⟨env2, rel2, (PostF.seq' q2.2 q2.1).imp fun j env3 H3 rel3 x3 q3 => by
    obtain ⟨q3, x13⟩ := q3
    cases ea : a.rd env3 with
    | none => rw [ea] at q3; exact False.elim q3
    | some d =>
      rw [ea] at q3
      have q3 : PostF (bd X G) G.W σ env H (R.opt (f d i j) env3) _ := q3
      refine ⟨_, d, rel3.liveZ, rel3.rd (hv.mono (x2.trans x3)) ea, ?_⟩
      cases ef : f d i j with
      | none => rw [ef] at q3; exact False.elim q3
      | some d' =>
        rw [ef] at q3
        exact ⟨d', rfl, okNew.of x13 rel3 q3⟩⟩⟩⟩
theorem okNew.lst {K : PySem.W.Frag} {mg : Mw} {H : Hp} {Z : Addr → Prop} {ds : List D} {vs : List V} {Q : VK} (k : okNew K mg H Z (.lst ds) Q) (r : Reps K mg H Z ds vs) {p : Addr} (hp : H p = none) : Q (.ref p) (upd H p (.lst vs)) := by
  refine k p _ hp trivial (.lst upd_same (r.mono fun a u e n => ?_))
  have ne := ne_of_none e hp
  exact ⟨by rw [upd_ne ne]; exact e, fun m q => by
    rcases q with q | q
    · exact m q
    · exact ne q⟩
theorem okNew.dct {K : PySem.W.Frag} {mg : Mw} {H : Hp} {Z : Addr → Prop} {ds : List (D × D)} {vs : List (Key × V)} {Q : VK} (k : okNew K mg H Z (.dct ds) Q) (r : RepKs K mg H Z ds vs) {p : Addr} (hp : H p = none) : Q (.ref p) (upd H p (.dK vs)) := by
  refine k p _ hp trivial (.dct upd_same (r.mono fun a u e n => ?_))
  have ne := ne_of_none e hp
  exact ⟨by rw [upd_ne ne]; exact e, fun m q => by
    rcases q with q | q
    · exact m q
    · exact ne q⟩
def fAdd : D → D → Option Cell
  | .lst xs, .lst ys => if xs.length + ys.length ≤ sizeLine then some (.lst (xs ++ ys)) else none
  | _, _ => none
theorem opn_add : OpR X (binaryOp .Add) (rN2 X.K (mw X G) fAdd) := by
  intro pins s σ H x y v u Q I rx ry h
  obtain ⟨Z, d, e, lv, hd, he, c, hf, k⟩ := h
  unfold fAdd at hf
  split at hf
  · split at hf
    · rename_i xs ys hz
      cases hf
      obtain ⟨a, vs, rfl, h1, r1⟩ := hd.lst'
      obtain ⟨b, ws, rfl, h2, r2⟩ := he.lst'
      exact op_catS pins s σ H _ _ v u Q I rx ry ⟨a, b, vs, ws, rfl, rfl, h1, h2, by rw [← r1.length, ← r2.length]; exact hz, fun p hp => k.lst (r1.append r2) hp⟩
    · cases hf
  · cases hf
/-- text * int, list * int -/
def repS (x : Str) (n : Int) : Str := if n < 1 then Str.empty else if (n == 1 || x.length == 0) = true then x else ⟨(List.replicate n.toNat x.cps).foldl (· ++ ·) #[]⟩
def dMul : D → D → Option D
  | .int i, .int j => if CMul i j then some (.int (i * j)) else none
  | .str x, .int n => if -1048576 ≤ n ∧ n ≤ 1048576 ∧ x.length * n.toNat ≤ 1048576 then some (.str (repS x n)) else none
  | _, _ => none
theorem op_repS : OpR X (binaryOp .Mult) (fun x y H Q => ∃ z n, x = .str z ∧ y = .int n ∧ -1048576 ≤ n ∧ n ≤ 1048576 ∧ z.length * n.toNat ≤ 1048576 ∧ Q (.str (repS z n)) H) := by
  intro pins s σ H x y v u Q I rx ry h
  obtain ⟨z, n, rfl, rfl, h1, h2, h3, q⟩ := h
  obtain ⟨t, rfl⟩ := rx
  obtain ⟨t', rfl⟩ := ry
  have hl : Builtin.Str.tooLong (z.length * n.toNat) = false := by
    unfold Builtin.Str.tooLong
    rw [sizeLine_eq]
    exact decide_eq_false (by omega)
  refine PySem.P.mul_str (by rw [decide_eq_false (by omega), decide_eq_false (by omega)] <;> rfl) (fun a b c => ?_) (fun _ _ => hl) ?_
  · have hn : n ≤ 1048576 := h2
    have hz : (z.length : Int) ≤ 1048576 := by
      have : 1 ≤ n.toNat := by omega
      have : z.length * 1 ≤ z.length * n.toNat := Nat.mul_le_mul_left _ this
      omega
    have d0 : (z.length : Int) * n ≤ 1048576 * 1048576 := Int.mul_le_mul hz hn (by omega) (by decide)
    have d1 : (z.length : Int) ≤ (2 ^ 63 - 1) / n := Int.le_ediv_of_mul_le (by omega) (by omega)
    omega
  · unfold repS at q
    split
    · rename_i hlt
      rw [if_pos hlt] at q
      exact ⟨by decide, .str Str.empty, H, I.tok _, ⟨_, rfl⟩, q⟩
    · rename_i hlt
      rw [if_neg hlt] at q
      split
      · rename_i h1'
        rw [if_pos h1'] at q
        exact ⟨.str z, H, I, ⟨_, rfl⟩, q⟩
      · rename_i h1'
        rw [if_neg h1'] at q
        exact ⟨PySem.fits_reps hl, .str ⟨(List.replicate n.toNat z.cps).foldl (· ++ ·) #[]⟩, H, I.tok _, ⟨_, rfl⟩, q⟩
theorem opr_mul : OpR X (binaryOp .Mult) (rD X.K (mw X G) dMul) := by
  intro pins s σ H x y v u Q I rx ry h
  obtain ⟨Z, d, e, lv, hd, he, c, hf, k⟩ := h
  unfold dMul at hf
  split at hf
  · split at hf
    · rename_i hc
      cases hf
      have e1 := hd.int
      have e2 := he.int
      subst e1 e2
      exact op_mul pins s σ H _ _ v u Q I rx ry ⟨_, _, rfl, rfl, hc, k _ H (Grow.refl H) (.int _)⟩
    · cases hf
  · split at hf
    · rename_i hc
      cases hf
      have e1 := hd.str
      have e2 := he.int
      subst e1 e2
      exact op_repS pins s σ H _ _ v u Q I rx ry ⟨_, _, rfl, rfl, hc.1, hc.2.1, hc.2.2, k _ H (Grow.refl H) (.str _)⟩
    · cases hf
  · cases hf
end
end Mi
namespace Mi
open PySem PySem.Spec L2
open PyProof.Rows hiding St

/-! ### xs.extend(a list, a tuple) -/
theorem list_extW (l : Addr) (items : Array Value) (n : Nat) (b : Addr) (items2 : Array Value) (n2 : Nat) (dd2 : Option Addr) (sl2 : Array (Option Value)) (hc0 : ¬(!items.isEmpty && Builtin.List.listTooLong (items.size + items2.size)) = true) (hc1 : items.size ≤ sizeLine) (hs2 : items.size + items2.size ≤ sizeLine + 1) :
    Meets (Builtin.«list.extend» ⟨[.ref l, .ref b], []⟩) (fun _ R s => s.heap.get? l = some { cls := .type "list", dict := none, data := .seq items n, slots := #[] } ∧ s.heap.get? b = some { cls := .type "list", dict := dd2, data := .seq items2 n2, slots := sl2 } ∧ R (.ok (.ret Value.none)) { s with heap := s.heap.update l (Obj.mapSeq fun x => x ++ items2), toks := s.toks }) :=
  .of_wp fun prog w A R s h => by
    obtain ⟨hp, g, d, tk, os⟩ := s; obtain ⟨hl, hb, h⟩ := h; have f1 := AutoSeq1.idx_int; have f2 := AutoSeq1.sub_tuple_tuple; have f3 := AutoSeq1.sub_list_list; have f4 := AutoSeq1.sub_tuple_list; have f5 := AutoSeq1.sub_list_tuple;
    have hz' : (items ++ items2).size ≤ sizeLine + 1 := by rw [Array.size_append]; exact hs2
    wp_walk using (wpAny_updateSeq hl rfl (hz := hc1) (_hz' := hz')), wpAny_loadPart' hl, wpAny_loadPart' hb; exact ⟨_, rfl, h⟩
theorem list_extTW (l : Addr) (items : Array Value) (n : Nat) (b : Addr) (items2 : Array Value) (n2 : Nat) (dd2 : Option Addr) (sl2 : Array (Option Value)) (hc0 : ¬(!items.isEmpty && Builtin.List.listTooLong (items.size + items2.size)) = true) (hc1 : items.size ≤ sizeLine) (hs2 : items.size + items2.size ≤ sizeLine + 1) :
    Meets (Builtin.«list.extend» ⟨[.ref l, .ref b], []⟩) (fun _ R s => s.heap.get? l = some { cls := .type "list", dict := none, data := .seq items n, slots := #[] } ∧ s.heap.get? b = some { cls := .type "tuple", dict := dd2, data := .seq items2 n2, slots := sl2 } ∧ R (.ok (.ret Value.none)) { s with heap := s.heap.update l (Obj.mapSeq fun x => x ++ items2), toks := s.toks }) :=
  .of_wp fun prog w A R s h => by
    obtain ⟨hp, g, d, tk, os⟩ := s; obtain ⟨hl, hb, h⟩ := h; have f1 := AutoSeq1.idx_int; have f2 := AutoSeq1.sub_tuple_tuple; have f3 := AutoSeq1.sub_list_list; have f4 := AutoSeq1.sub_tuple_list; have f5 := AutoSeq1.sub_list_tuple;
    have hz' : (items ++ items2).size ≤ sizeLine + 1 := by rw [Array.size_append]; exact hs2
    wp_walk using (wpAny_updateSeq hl rfl (hz := hc1) (_hz' := hz')), wpAny_loadPart' hl, wpAny_loadPart' hb; exact ⟨_, rfl, h⟩
def rExtS (K : PySem.W.Frag) : V → List V → Hp → VK → Prop := fun x vs H Q => ∃ l b xs zs, x = .ref l ∧ vs = [.ref b] ∧ H l = some (.lst xs) ∧ (SqL K H b zs ∨ SqT K H b zs) ∧ xs.length + zs.length ≤ sizeLine ∧ Q .non (upd H l (.lst (xs ++ zs)))
section
variable {X : Cx} {G : Gd} {e a b c : Expr} {es : List Expr} {pos p : Pos}
theorem mt_extS : MtR X "list.extend" (rExtS X.K) := by
  intro pins s σ H x vs v us Q I rx rv h
  obtain ⟨l, b, xs, zs, rfl, rfl, hH, hB, hz, q⟩ := h
  cases rx
  obtain ⟨u, rfl, ru⟩ := rv.one
  cases ru
  obtain ⟨z, its, n, r, hl, e⟩ := I.lstM hH
  have key : ∀ (its2 : List Value), Vals zs its2 → Inv X pins σ (upd H l (.lst (xs ++ zs))) { s with heap := s.heap.update l (Obj.mapSeq fun x => x ++ its2.toArray), toks := s.toks } := fun its2 r2 =>
    I.lset (its' := its ++ its2) hH e (by simp) (r.append r2) (by rw [List.length_append]; omega)
  rcases hB with hB | hB
  · obtain ⟨its2, r2, ⟨⟨cls2, dd2, data2, sl2⟩, n2, ho2, hc2, hdd, hd2⟩, _⟩ := I.list hB
    have hl2 := r2.length
    have hsz : its.toArray.size + its2.toArray.size ≤ sizeLine := by rw [List.size_toArray, List.size_toArray]; omega
    have hlong : ¬ (!its.toArray.isEmpty && Builtin.List.listTooLong (its.toArray.size + its2.toArray.size)) = true := by
      rw [notLongL hsz, Bool.and_false]
      exact Bool.false_ne_true
    simp only at hc2 hd2
    subst hc2 hd2
    exact call_meets F.slot_list_extend ⟨_, e, rfl⟩ F.entry_list_extend (F.args_list_extend_2 _ _) (list_extW l its.toArray n b its2.toArray _ dd2 sl2 hlong (by rw [List.size_toArray]; omega) (by omega)) ⟨e, ho2, ⟨.non, _, key its2 r2, rfl, q⟩⟩
  · obtain ⟨its2, r2, ⟨⟨cls2, dd2, data2, sl2⟩, ho2, hc2, n2, hd2⟩, _⟩ := I.tuple hB
    have hl2 := r2.length
    have hsz : its.toArray.size + its2.toArray.size ≤ sizeLine := by rw [List.size_toArray, List.size_toArray]; omega
    have hlong : ¬ (!its.toArray.isEmpty && Builtin.List.listTooLong (its.toArray.size + its2.toArray.size)) = true := by
      rw [notLongL hsz, Bool.and_false]
      exact Bool.false_ne_true
    simp only at hc2 hd2
    subst hc2 hd2
    exact call_meets F.slot_list_extend ⟨_, e, rfl⟩ F.entry_list_extend (F.args_list_extend_2 _ _) (list_extTW l its.toArray n b its2.toArray _ dd2 sl2 hlong (by rw [List.size_toArray]; omega) (by omega)) ⟨e, ho2, ⟨.non, _, key its2 r2, rfl, q⟩⟩
def seqOf : D → Option (List D)
  | .lst ds => some ds
  | .tup ds => some ds
  | _ => none
def cExt (c : Cell) (as : List D) : Option (D × Cell) := match c, as with
  | .lst ds, [d] => (seqOf d).bind fun es => if ds.length + es.length ≤ sizeLine then some (.non, .lst (ds ++ es)) else none
  | _, _ => none
theorem Rep.seq {K : PySem.W.Frag} {mg : Mw} {H : Hp} {Z : Addr → Prop} {d : D} {v : V} {es : List D} (h : Rep K mg H Z d v) (e : seqOf d = some es) : ∃ b zs, v = .ref b ∧ (SqL K H b zs ∨ SqT K H b zs) ∧ Reps K mg H Z es zs := by
  cases h with
  | lst h r => cases e; exact ⟨_, _, rfl, .inl h.sq, r⟩
  | tup h r => cases e; exact ⟨_, _, rfl, .inr h.sq, r⟩
  | _ => cases e
theorem ext_lift : ∀ x xs H Q, rMut X.K (mw X G) cExt x xs H Q → rExtS X.K x xs H Q := by
  intro x xs H Q ⟨Z, a, c, ds, d, c', ex, ca, lv, za, hds, hf, k⟩
  unfold cExt at hf
  split at hf
  · rename_i ds0 d0
    cases eq : seqOf d0 with
    | none => rw [eq] at hf; cases hf
    | some es =>
      rw [eq] at hf
      have hf : (if ds0.length + es.length ≤ sizeLine then some (D.non, Cell.lst (ds0 ++ es)) else none) = some (d, c') := hf
      split at hf
      · rename_i hz
        cases hf
        cases ca with
        | @lst _ vs h r =>
          cases hds with
          | cons h1 t =>
            cases t
            have g := fun o' => lift_gr (K := X.K) (mg := mw X G) (o' := o') za h trivial
            obtain ⟨b, zs, rfl, sq, rz⟩ := h1.seq eq
            exact ⟨a, b, vs, zs, ex, rfl, h, sq, by rw [← r.length, ← rz.length]; exact hz, k _ _ (.lst upd_same ((r.mono (g _)).append (rz.mono (g _)))) .non⟩
      · cases hf
  · cases hf
end
end Mi
namespace Mi
open PySem PySem.Spec L2
open PyProof.Rows hiding St

/-! ### dict comprehensions -/
noncomputable def compDL (w : Wat) (g : MG) (t : M Bool) (mk m : M D) (vs : List Nat) : List D → List (D × D) → M (List (D × D))
  | [], acc => fun env => if w.ok env then .ok acc env else .bad
  | d :: ds, acc => fun env => if w.ok env then (match g d env with
    | none => .bad
    | some e1 => (t e1).nox.bind fun b e2 => if b = true then (mk e2).nox.bind fun y e3 => (m e3).nox.bind fun z e4 => match keyOf y with | some k => compDL w g t mk m vs ds (putD acc k z) (mKill vs e4) | none => .bad else compDL w g t mk m vs ds acc (mKill vs e2)) else .bad
noncomputable def mDComp (mi : M Src) (g : MG) (t : M Bool) (mk m : M D) (vs : List Nat) : M Cell := fun env => (mi env).bind fun x env0 =>
  if noCel env0 vs = true ∧ x.1.length ≤ sizeLine then (compDL x.2 g t mk m vs x.1 [] (mKill vs env0)).bind fun acc envB => .ok (.dct acc) (restE env0 vs envB) else .bad
theorem dcomp_lift {B : Bd} {W : WX} {mi : M Src} {is vs : List Nat} {g : MG} {t : M Bool} {mk m : M D} {σ : St} {H : Hp} {Q : VK} (hs : ∀ i ∈ is, i ∈ vs) (h : liftF B W (mDComp mi g t mk m vs) σ H Q) :
    tDc (liftI B W mi) (exGp is B.K B.mg B.p B.kp g) (exT B.K B.mg B.p B.kp t) (exE B.K B.mg B.p B.kp mk) (exE B.K B.mg B.p B.kp m) vs σ H Q := by
  obtain ⟨env, rel, post⟩ := h
  refine ⟨env, rel, (PostF.seq post).imp fun x env0 H1 rel1 ext1 q J hJ Dd hD => ?_⟩
  obtain ⟨ds, w⟩ := x
  have q : PostF B W σ env H (if noCel env0 vs = true ∧ ds.length ≤ sizeLine then (compDL w g t mk m vs ds [] (mKill vs env0)).bind fun acc envB => .ok (.dct acc) (restE env0 vs envB) else .bad) fun p H' => Q (.ref p) H' := q
  split at q
  · rename_i hcz
    obtain ⟨hc, hz⟩ := hcz
    have relN : Rel (B.add Dd) σ env0 (upd H1 Dd (.dK [])) := rel1.addNew hD trivial
    obtain ⟨rb, xb⟩ := relN.wiped vs
    have xb' : Ext σ env0 H1 (L2.wipe σ vs) (mKill vs env0) (upd H1 Dd (.dK [])) := ((Grow.upd hD).gr _).trans xb
    have nz : ¬ B.z Dd := fun z => rel1.free hD (.inl z)
    have nf : ¬ Zof σ env0 Dd := fun z => rel1.free hD (.inr z)
    -- the invariant: at turn i
    let Inv' : Nat → Hp → Prop := fun i H2 => ∃ acc envB avs, Rel (B.add Dd) (L2.wipe σ vs) envB H2 ∧ Gr H1 (Zof (L2.wipe σ vs) (mKill vs env0)) H2 (Zof (L2.wipe σ vs) envB) ∧ Ext σ env0 H1 (L2.wipe σ vs) envB H2 ∧
      (∀ (j : Nat), j ∈ vs → ∀ o c, envB[j]? ≠ some (.cel o c)) ∧ acc.length ≤ i ∧ ¬ Zof (L2.wipe σ vs) envB Dd ∧
      H2 Dd = some (.dK avs) ∧ RepKs B.K B.mg H2 (Zall (B.add Dd).z (L2.wipe σ vs) envB) acc avs ∧
      PostF B W σ env H ((compDL w g t mk m vs (ds.drop i) acc envB).bind fun acc envB => .ok (.dct acc) (restE env0 vs envB)) fun p H' => Q (.ref p) H'
    have nocel : ∀ (e : Env') (j : Nat), j ∈ vs → ∀ o c, (mKill vs e)[j]? ≠ some (.cel o c) := fun e j hj o c h => by
      rw [kill_get, if_pos hj] at h
      split at h <;> cases h
    refine ⟨fun i k H2 => k + i = ds.length ∧ Inv' i H2, ⟨ds.length, rfl, [], mKill vs env0, [], rb, (Grow.upd hD).gr _, xb', nocel env0, Nat.le_refl _, ?_, upd_same, .nil, by rw [List.drop_zero]; exact q⟩, ?_⟩
    · rintro ⟨j, o, c, e1, e2⟩
      rw [kill_get] at e1
      split at e1
      · split at e1 <;> cases e1
      · rename_i hj
        rw [wipe_out hj] at e2
        exact nf ⟨j, o, c, e1, e2⟩
    rintro i k H2 ⟨hk, acc, envB, avs, rB, gB, xB, hkc, hai, nzB, hDa, hacc, post2⟩
    have gJ : Gr H1 (Zall B.z σ env0) H2 (Zall (B.add Dd).z (L2.wipe σ vs) envB) := fun a o h n => by
      obtain ⟨h1, h2⟩ := (Gr.all (z := B.z) xB) a o h n
      refine ⟨h1, fun m q => ?_⟩
      rcases q with (q | q) | q
      · exact h2 m (.inl q)
      · subst q; rw [hD] at h; cases h
      · exact h2 m (.inr q)
    have look : w.ok envB → J.stop ds.length H2 ∧ ∀ i d, ds[i]? = some d → J.go i H2 ∧ ∀ v H', J.yld i H2 v H' → Grow H2 H' ∧ Rep B.K B.mg H' (Zall (B.add Dd).z (L2.wipe σ vs) envB) d v := fun wo => by
      refine hJ.2 (B.add Dd).z B.p (L2.wipe σ vs) envB H2 rB gJ fun j o c e => ?_
      have e : w = some (j, o, c) := e
      rw [e] at wo
      have wo : envB[j]? = some (.cel o c) := wo
      exact ⟨o, wo, wipe_out fun hj => hkc j hj o c wo⟩
    cases k with
    | zero =>
      have hi : i = ds.length := by omega
      subst hi
      rw [List.drop_length] at post2
      have post2 : PostF B W σ env H ((if w.ok envB then R.ok acc envB else .bad).bind fun acc envB => .ok (.dct acc) (restE env0 vs envB)) fun p H' => Q (.ref p) H' := post2
      by_cases wo : w.ok envB
      case neg => rw [if_neg wo] at post2; exact False.elim post2
      rw [if_pos wo] at post2
      obtain ⟨st, _⟩ := look wo
      have post2 : PostF B W σ env H (.ok (.dct acc) (restE env0 vs envB)) _ := post2
      obtain ⟨rr, xr, zz⟩ := rel1.restored hc hD rB gB hkc
      refine .inl ⟨st, post2 Dd H2 (fresh_fr (B := B) ext1 hD) rr nz (fun z => nzB ((zz Dd).mp z)) (ext1.trans xr) (.dct hDa ?_)⟩
      have zy : Zall (B.add Dd).z σ (restE env0 vs envB) = Zall (B.add Dd).z (L2.wipe σ vs) envB := by
        funext a
        unfold Zall
        rw [propext (zz a)]
      rw [zy]
      exact hacc
    | succ k =>
      have hi : i < ds.length := by omega
      have hd : ds[i]? = some ds[i] := List.getElem?_eq_getElem hi
      rw [List.drop_eq_getElem_cons hi] at post2
      have post2 : PostF B W σ env H ((if w.ok envB then (match g ds[i] envB with
        | none => R.bad
        | some e1 => (t e1).nox.bind fun b e2 => if b = true then (mk e2).nox.bind fun y e3 => (m e3).nox.bind fun z e4 => match keyOf y with | some k => compDL w g t mk m vs (ds.drop (i + 1)) (putD acc k z) (mKill vs e4) | none => .bad else compDL w g t mk m vs (ds.drop (i + 1)) acc (mKill vs e2)) else .bad).bind fun acc envB => .ok (.dct acc) (restE env0 vs envB)) fun p H' => Q (.ref p) H' := post2
      by_cases wo : w.ok envB
      case neg => rw [if_neg wo] at post2; exact False.elim post2
      rw [if_pos wo] at post2
      obtain ⟨_, hgo⟩ := look wo
      obtain ⟨go, yl⟩ := hgo i ds[i] hd
      refine .inr ⟨go, Inv' (i + 1), fun H3 h => ⟨k, Nat.lt_succ_self k, by omega, h⟩, fun x H3 hy => ?_⟩
      obtain ⟨gr, rep⟩ := yl x H3 hy
      have post2 : PostF B W σ env H ((match g ds[i] envB with
        | none => R.bad
        | some e1 => (t e1).nox.bind fun b e2 => if b = true then (mk e2).nox.bind fun y e3 => (m e3).nox.bind fun z e4 => match keyOf y with | some k => compDL w g t mk m vs (ds.drop (i + 1)) (putD acc k z) (mKill vs e4) | none => .bad else compDL w g t mk m vs (ds.drop (i + 1)) acc (mKill vs e2)).bind fun acc envB => .ok (.dct acc) (restE env0 vs envB)) fun p H' => Q (.ref p) H' := post2
      cases eg : g ds[i] envB with
      | none => rw [eg] at post2; exact False.elim post2
      | some e1 =>
        rw [eg] at post2
        refine ⟨(B.add Dd).z, envB, ds[i], e1, rB.grow gr, rep, eg, fun σ2 rel2 x2 off => ?_⟩
        have hw : L2.wipe σ2 vs = L2.wipe σ vs := by
          rw [← wipe_wipe (σ := σ)]
          exact OffEq.wipe ⟨off.1, fun j hj => off.2 j fun q => hj (hs j q)⟩
        refine ⟨hw, (B.add Dd).z, e1, rel2, ?_⟩
        have bb : ∀ {α : Type} (r : R α) (f : α → Env' → R (List (D × D))) (h : List (D × D) → Env' → R Cell), ((r.nox.bind f).bind h) = r.nox.bind fun x e => (f x e).bind h := fun r f h => by
          cases r <;> rfl
        have post3 : PostF B W σ env H ((t e1).nox.bind fun b e2 => (if b = true then (mk e2).nox.bind fun y e3 => (m e3).nox.bind fun z e4 => match keyOf y with | some k => compDL w g t mk m vs (ds.drop (i + 1)) (putD acc k z) (mKill vs e4) | none => .bad else compDL w g t mk m vs (ds.drop (i + 1)) acc (mKill vs e2)).bind fun acc envB => .ok (.dct acc) (restE env0 vs envB)) fun p H' => Q (.ref p) H' := by
          rw [← bb]
          exact post2
        -- what is known at a later point of the turn
        have later : ∀ {e : Env'} {H4 : Hp}, Rel (B.add Dd) σ2 e H4 → Ext σ2 e1 H3 σ2 e H4 → (Rel (B.add Dd) (L2.wipe σ vs) (mKill vs e) H4 ∧ Gr H1 (Zof (L2.wipe σ vs) (mKill vs env0)) H4 (Zof (L2.wipe σ vs) (mKill vs e)) ∧ Ext σ env0 H1 (L2.wipe σ vs) (mKill vs e) H4 ∧
            ¬ Zof (L2.wipe σ vs) (mKill vs e) Dd ∧ H4 Dd = some (.dK avs) ∧ RepKs B.K B.mg H4 (Zall (B.add Dd).z (L2.wipe σ vs) (mKill vs e)) acc avs) := fun {e H4} rel4 x4 => by
          obtain ⟨rw4, xw4⟩ := rel4.wiped vs
          rw [hw] at rw4 xw4
          have xx : Ext (L2.wipe σ vs) envB H2 (L2.wipe σ vs) (mKill vs e) H4 := ((gr.gr _).trans x2).trans (x4.trans xw4)
          have d4 := xx Dd _ hDa (.inl nzB)
          exact ⟨rw4, gB.trans xx, xB.trans xx, d4.2 nzB, d4.1, RepKs.mono (Gr.all xx) hacc⟩
        refine (PostF.nox post3).imp fun b e2 H4 rel4 x4 post4 => ?_
        cases b with
        | false =>
          rw [if_neg Bool.false_ne_true]
          rw [if_neg Bool.false_ne_true] at post4
          obtain ⟨l1, l2, l3, l4, l5, l6⟩ := later rel4 x4
          exact ⟨acc, mKill vs e2, avs, l1, l2, l3, nocel e2, by omega, l4, l5, l6, post4⟩
        | true =>
          rw [if_pos rfl]
          rw [if_pos rfl, bb] at post4
          have post4 : PostF B W σ env H ((mk e2).nox.bind fun y e3 => ((m e3).nox.bind fun z e4 => match keyOf y with | some k => compDL w g t mk m vs (ds.drop (i + 1)) (putD acc k z) (mKill vs e4) | none => .bad).bind fun acc envB => .ok (.dct acc) (restE env0 vs envB)) fun p H' => Q (.ref p) H' := post4
          refine ⟨(B.add Dd).z, e2, rel4, (PostF.nox post4).imp fun y e3 H5 rel5 x5 post5 v hv => ?_⟩
          rw [bb] at post5
          refine ⟨(B.add Dd).z, e3, rel5, (PostF.nox post5).imp fun z e4 H6 rel6 x6 post6 u hu => ?_⟩
          cases ek : keyOf y with
          | none => rw [ek] at post6; exact False.elim post6
          | some k0 =>
            rw [ek] at post6
            obtain ⟨ev, _⟩ := keyOf_rep (.val hv) ek
            obtain ⟨l1, l2, l3, l4, l5, l6⟩ := later rel6 (x4.trans (x5.trans x6))
            have lenacc : acc.length = avs.length := RepKs.length hacc
            refine ⟨avs, k0, ev, l5, by omega, ?_⟩
            obtain ⟨rp, gp⟩ := l1.poke (o := .dK (putK avs k0 u)) (.inr rfl) l4 trivial
            have hv' : Rep B.K B.mg H6 (Zall (B.add Dd).z (L2.wipe σ vs) (mKill vs e4)) z u := by
              obtain ⟨_, xw⟩ := rel6.wiped vs
              rw [hw] at xw
              exact Rep.mono (Gr.all xw) hu
            have step : ∀ {Z Z' : Addr → Prop}, Gr H1 Z H6 Z' → Gr H1 Z (upd H6 Dd (.dK (putK avs k0 u))) Z' := fun {Z Z'} g a o h n => by
              have ne : a ≠ Dd := ne_of_none h hD
              obtain ⟨h1, h2⟩ := g a o h n
              exact ⟨by rw [upd_ne ne]; exact h1, h2⟩
            have hlen : (putD acc k0 z).length ≤ i + 1 := by
              unfold putD
              split
              · rw [List.length_map]; omega
              · simp; omega
            refine ⟨putD acc k0 z, mKill vs e4, putK avs k0 u, rp, step l2, step l3, nocel e4, hlen, l4, upd_same, ?_, post6⟩
            exact RepKs.put k0 (Rep.mono gp hv') (RepKs.mono gp l6)
  · exact False.elim q
section
variable {X : Cx} {G : Gd} {elt tg iter : Expr} {ifs : List Expr} {scope : Scope} {own : List (Str × Nat)} {pos : Pos} {mi : M Src} {is : List Nat} {g : MG} {t : M Bool} {mk m : M D} {kx : Expr}
/-- {k: v for tg in iter if ..} -/
theorem mf_dcomp (hc : X.calm = true) (hN : X.N.Nodup) (hi : MI X G tg iter mi) (ok : BlkOk X.N X.env.scope scope own) (his : ∀ i ∈ is, i ∈ own.map (·.2))
    (hg : ∀ (s : Shared) (H : Hp) (C : Addr) (cl : List (Str × Addr)) (fp : List Addr) (z : Addr → Prop), MTg (X.blk s H scope (compEnvC scope cl C X.env) fp) ⟨z, G.p, wNo, G.kp, G.ex⟩ tg is g)
    (ht : ∀ (s : Shared) (H : Hp) (C : Addr) (cl : List (Str × Addr)) (fp : List Addr) (z : Addr → Prop), MTs (X.blk s H scope (compEnvC scope cl C X.env) fp) ⟨z, G.p, wNo, G.kp, G.ex⟩ ifs t)
    (hk : ∀ (s : Shared) (H : Hp) (C : Addr) (cl : List (Str × Addr)) (fp : List Addr) (z : Addr → Prop), ME (X.blk s H scope (compEnvC scope cl C X.env) fp) ⟨z, G.p, wNo, G.kp, G.ex⟩ kx mk)
    (he : ∀ (s : Shared) (H : Hp) (C : Addr) (cl : List (Str × Addr)) (fp : List Addr) (z : Addr → Prop), ME (X.blk s H scope (compEnvC scope cl C X.env) fp) ⟨z, G.p, wNo, G.kp, G.ex⟩ elt m)
    (hs : ∀ x, foldedSetIterable iter X.env x = pure x := by intro _; rfl) : MF X G (.DictComp kx elt [⟨tg, iter, ifs, 0⟩] scope pos) (mDComp mi g t mk m (own.map (·.2))) :=
  PEimp (pe_dc hc hN hi ok (g := exGp is X.K (mw X G) G.p G.kp g) (tt := exT X.K (mw X G) G.p G.kp t) (tk := exE X.K (mw X G) G.p G.kp mk) (tv := exE X.K (mw X G) G.p G.kp m)
    (fun s H C cl fp => ⟨fun pins s' σ H v u Q I r ⟨z, q⟩ => (hg s _ C cl fp z).run pins s' σ H v u Q I r q⟩)
    (fun s H C cl fp => ⟨fun pins s' σ H Q I ⟨z, q⟩ => (ht s _ C cl fp z).run pins s' σ H Q I q⟩)
    (fun s H C cl fp => ⟨fun pins s' σ H Q I ⟨z, q⟩ => (hk s _ C cl fp z).run pins s' σ H Q I q⟩)
    (fun s H C cl fp => ⟨fun pins s' σ H Q I ⟨z, q⟩ => (he s _ C cl fp z).run pins s' σ H Q I q⟩) hs) fun σ H Q h => dcomp_lift his h
end
end Mi
namespace Mi
open PySem PySem.Spec L2
open PyProof.Rows hiding St
open PySem.W (dataLe AllAlike Sortable EachIs)

/-! ### sorted -/
noncomputable def pyOf (d : D) : PyData := (toPy d).getD .none
noncomputable def leD : D → D → Bool := dataLe false pyOf
def sortOk (ds : List D) : Prop := (∀ d ∈ ds, (toPy d).isSome ∧ (pyOf d).depth ≤ 60) ∧ AllAlike (ds.map pyOf) ∧ Sortable (ds.map pyOf)
noncomputable instance (ds : List D) : Decidable (sortOk ds) := Classical.propDecidable _
noncomputable def sortD (ds : List D) : List D := ds.mergeSort leD
def leS (a b : Str) : Bool := !decide (b.cps.toList < a.cps.toList)
noncomputable def dSortedL (ds : List D) : Option Cell := if sortOk ds ∧ ds.length ≤ sizeLine then some (.lst (sortD ds)) else none
def keysS (kvs : List (D × D)) : Option (List Str) := (kvs.map (·.1)).mapM fun d => match d with | .str x => some x | _ => none
noncomputable def dSorted : List D → Option Cell
  | [.lst ds] => dSortedL ds
  | [.dct kvs] => match keysS kvs with
    | some ks => if ks.length < 64 then some (.lst ((ks.mergeSort leS).map .str)) else none
    | none => none
  | _ => none
section
variable {X : Cx} {G : Gd} {e a b c : Expr} {es : List Expr} {pos p : Pos}
theorem leS_total (a b : Str) : (leS a b || leS b a) = true := by
  unfold leS
  by_cases h : b.cps.toList < a.cps.toList
  · have : ¬ a.cps.toList < b.cps.toList := fun h' => List.lt_irrefl _ (List.lt_trans h h')
    rw [decide_eq_true h, decide_eq_false this]
    rfl
  · rw [decide_eq_false h]
    rfl
theorem leS_trans (a b c : Str) (h1 : leS a b = true) (h2 : leS b c = true) : leS a c = true := by
  unfold leS at *
  simp only [Bool.not_eq_true', decide_eq_false_iff_not] at *
  exact fun h => by
    have h1' : a.cps.toList ≤ b.cps.toList := List.not_lt.mp h1
    have h2' : b.cps.toList ≤ c.cps.toList := List.not_lt.mp h2
    exact List.not_lt.mpr (List.le_trans h1' h2') h
theorem leS_antisymm {a b : Str} (h1 : leS a b = true) (h2 : leS b a = true) : a = b := by
  unfold leS at *
  simp only [Bool.not_eq_true', decide_eq_false_iff_not] at *
  have e := List.le_antisymm (List.not_lt.mp h1) (List.not_lt.mp h2)
  cases a; cases b
  simp only [Str.mk.injEq]
  exact Array.toList_inj.mp e
theorem risingS_pw : ∀ (p : Str) (l : List Str), risingS p l = true → (p :: l).Pairwise fun a b => leS a b = true
  | p, [], _ => by simp
  | p, x :: r, h => by
    unfold risingS at h
    rw [Bool.and_eq_true, ltCps_eq] at h
    have ih := risingS_pw x r h.2
    refine List.pairwise_cons.mpr ⟨fun y hy => ?_, ih⟩
    have h1 : leS p x = true := h.1
    rcases List.mem_cons.mp hy with rfl | hy
    · exact h1
    · exact leS_trans _ _ _ h1 (List.rel_of_pairwise_cons ih hy)
theorem sortedS_eq {ys ks : List Str} (hp : ys.Perm ks) (hs : sortedS ys = true) : ys = ks.mergeSort leS := by
  have h1 : ys.Pairwise fun a b => leS a b = true := by
    cases ys with
    | nil => exact .nil
    | cons x r => exact risingS_pw x r hs
  have h2 : (ks.mergeSort leS).Pairwise fun a b => leS a b = true := List.pairwise_mergeSort leS_trans leS_total ks
  exact List.Perm.eq_of_pairwise (fun a b _ _ => leS_antisymm) h1 h2 (hp.trans (List.mergeSort_perm ks leS).symm)
theorem keysS_eq {K : PySem.W.Frag} {mg : Mw} {H : Hp} {Z : Addr → Prop} : ∀ {kvs : List (D × D)} {kws : List (Key × V)} {ks : List Str}, RepKs K mg H Z kvs kws → keysS kvs = some ks → kws.map (·.1) = ks.map Sum.inr ∧ kvs.map (·.1) = ks.map D.str
  | _, _, ks, .nil, e => by
    cases e; exact ⟨rfl, rfl⟩
  | _, _, ks, .cons (r := r) (k := k) h t, e => by
    cases k with
    | inl i => cases e
    | inr x =>
      have e : (keysS r).bind (fun zs => some (x :: zs)) = some ks := by
        unfold keysS at e ⊢
        rw [List.map_cons, List.mapM_cons] at e
        exact e
      cases q : keysS r with
      | none => rw [q] at e; cases e
      | some zs =>
        rw [q] at e
        cases e
        obtain ⟨h1, h2⟩ := keysS_eq t q
        exact ⟨by rw [List.map_cons, List.map_cons, h1], by rw [List.map_cons, List.map_cons, h2]; rfl⟩
theorem toPys_some : ∀ {ds : List D}, (∀ d ∈ ds, (toPy d).isSome) → toPys ds = some (ds.map pyOf)
  | [], _ => by rw [toPys]; rfl
  | d :: ds, h => by
    rw [toPys, toPys_some fun e he => h e (List.mem_cons_of_mem _ he)]
    have h0 := h d List.mem_cons_self
    cases q : toPy d with
    | none => rw [q] at h0; cases h0
    | some p => simp [pyOf, q]
theorem zip_each {K : PySem.W.Frag} {mg : Mw} {H : Hp} {Z : Addr → Prop} : ∀ {ds : List D} {vs : List V} {us : List Value}, Reps K mg H Z ds vs → Vals vs us → EachIs (fun u (b : D × V) => RelV b.2 u ∧ Rep K mg H Z b.1 b.2) us (ds.zip vs)
  | _, _, _, .nil, .nil => .nil
  | _, _, _, .cons h t, .cons r s => .cons ⟨r, h⟩ (zip_each t s)
theorem each_out {K : PySem.W.Frag} {mg : Mw} {H : Hp} {Z : Addr → Prop} : ∀ {us : List Value} {bs : List (D × V)}, EachIs (fun u (b : D × V) => RelV b.2 u ∧ Rep K mg H Z b.1 b.2) us bs → Reps K mg H Z (bs.map (·.1)) (bs.map (·.2)) ∧ Vals (bs.map (·.2)) us
  | _, _, .nil => ⟨.nil, .nil⟩
  | _, _, .cons h t => ⟨.cons h.2 (each_out t).1, .cons h.1 (each_out t).2⟩
theorem cr_sorted' (hc : X.calm = true) (hu : X.A.units + 64 < cLine) : CallR X (.builtin "sorted") (rNs X.K (mw X G) dSorted) := by
  intro pins s σ H xs us Q I r h
  obtain ⟨Z, ds, lv, hd, c, hf, k⟩ := h
  unfold dSorted at hf
  split at hf
  · rename_i es
    unfold dSortedL at hf
    split at hf
    · rename_i hok
      cases hf
      obtain ⟨⟨h1, h2, h3⟩, hz⟩ := hok
      obtain ⟨x, rfl, hx⟩ := hd.one
      obtain ⟨a, vs, rfl, hq, rv⟩ := hx.lst'
      obtain ⟨u, rfl, ru⟩ := vals1 r
      cases ru
      obtain ⟨its, rits, p1, _⟩ := I.list hq
      have ez := zip_each rv rits
      have hl : es.length = vs.length := rv.length
      have hm1 : (es.zip vs).map (·.1) = es := by rw [List.map_fst_zip]; omega
      have er : EachIs (fun v (b : D × V) => ∃ as, Reads s.heap v (pyOf b.1) as) its (es.zip vs) := by
        have aux : ∀ {us : List Value} {bs : List (D × V)}, EachIs (fun u (b : D × V) => RelV b.2 u ∧ Rep X.K (mw X G) H Z b.1 b.2) us bs → (∀ b ∈ bs, (toPy b.1).isSome) → EachIs (fun v (b : D × V) => ∃ as, Reads s.heap v (pyOf b.1) as) us bs := by
          intro us bs e
          induction e with
          | nil => exact fun _ => .nil
          | @cons u b us bs h t ih =>
            intro hs
            refine .cons ?_ (ih fun b hb => hs b (List.mem_cons_of_mem _ hb))
            have h0 := hs b List.mem_cons_self
            cases q : toPy b.1 with
            | none => rw [q] at h0; cases h0
            | some py =>
              have : pyOf b.1 = py := by simp [pyOf, q]
              rw [this]
              exact Dp.reads I py b.2 u (h.2.dp q) h.1
        exact aux ez fun b hb => (h1 b.1 (by rw [← hm1]; exact List.mem_map_of_mem hb)).1
      have hmm : (es.zip vs).map (fun b => pyOf b.1) = es.map pyOf := by
        rw [← hm1, List.map_map, hm1]; rfl
      refine PySem.W.sorted_data (enc := fun b : D × V => pyOf b.1) p1.isList ez er (by rw [hmm]; exact h2) (by rw [hmm]; exact h3) (by rw [List.length_zip, ← hl, Nat.min_self]; exact hz) (fun b hb => ?_) fun out ho eo => ?_
      · have := (h1 b.1 (by rw [← hm1]; exact List.mem_map_of_mem hb)).2
        show X.A.units + 2 + (pyOf b.1).depth < cLine
        omega
      · obtain ⟨rr, rvv⟩ := each_out eo
        have hres : ((es.zip vs).mergeSort (dataLe false fun b => pyOf b.1)).map (·.1) = sortD es := by
          have := List.map_mergeSort (r := dataLe false fun b : D × V => pyOf b.1) (s := leD) (f := fun b : D × V => b.1) (l := es.zip vs) (fun a _ b _ => rfl)
          rw [this, hm1]
          rfl
        rw [hres] at rr
        obtain ⟨ep, he'⟩ := PyProof.Rows.sortedAll_at s.heap its out.toArray
        have hlen : (((es.zip vs).mergeSort (dataLe false fun b => pyOf b.1)).map (·.2)).length ≤ sizeLine := by
          rw [List.length_map, List.length_mergeSort, List.length_zip, ← hl, Nat.min_self]; exact hz
        exact ⟨.ref _, _, I.laid (t' := s.toks) (o := .lst (((es.zip vs).mergeSort (dataLe false fun b => pyOf b.1)).map (·.2))) (fun _ _ => PyProof.Rows.sortedAll_old) (Nat.le_succ _) ⟨hlen, out, ep, rvv, he'⟩, rfl, k.lst rr (I.hok.fresh (Nat.le_succ _))⟩
    · cases hf
  · rename_i kvs
    cases ek : keysS kvs with
    | none => simp only [ek] at hf; cases hf
    | some ks =>
      simp only [ek] at hf
      split at hf
      · rename_i h64
        cases hf
        obtain ⟨x, rfl, hx⟩ := hd.one
        obtain ⟨a, kws, rfl, hq, rk⟩ := hx.dct'
        obtain ⟨e1, e2⟩ := keysS_eq rk ek
        refine call_sortedD hc pins s σ H _ us Q I r ⟨a, kws, ks, rfl, hq, e1, h64, fun ys p hp hs hn => ?_⟩
        have := sortedS_eq hp hs
        subst this
        refine k.lst (vs := (ks.mergeSort leS).map V.str) ?_ hn
        generalize ks.mergeSort leS = l
        induction l with
        | nil => exact .nil
        | cons x r ih => exact .cons (.str x) ih
      · cases hf
  · cases hf
end
end Mi
namespace Mi
open PySem PySem.Spec L2
open PyProof.Rows hiding St

section
variable {X : Cx} {G : Gd} {e a b c : Expr} {es : List Expr} {pos p : Pos}
/-! ### name op= e -/
def mAug (i : Nat) (f : D → D → Option D) (m : M D) : MS := fun env => (mVal i env).so fun d0 env => (m env).so fun d env => So.optE ((f d0 d).map fun r => env.set i (.val r))
theorem mst_aug {i : Nat} {x : Str} {op : Operator} {f : D → D → Option D} {m : M D} {pos' : Pos} (hN : X.N.Nodup) (hi : X.N[i]? = some x) (hx : Loc X.env.scope x) (he : ME X G e m) (ho : PIp X op (rD X.K (mw X G) f))
    (hf : X.fn x = true ∨ X.env.scope.names.lookup x = some .local := by first | exact .inl rfl | exact .inr rfl | assumption) : MSt X G (.AugAssign (.Name x pos') op e pos) (mAug i f m) :=
  PSimp (ps_aug hN hi hx he ho hf) fun Dn σ H ⟨env, rel, post⟩ => by
    have post := post.so
    obtain ⟨d0, hd0, q0⟩ := Post.opt rel post
    have hs : env[i]? = some (.val d0) := by
      unfold slotV at hd0
      split at hd0
      · injection hd0 with hd0
        subst hd0
        assumption
      · cases hd0
    obtain ⟨v0, h0, r0⟩ := rel.val i d0 hs
    refine ⟨v0, h0, env, rel, q0.so.imp fun d env1 H1 rel1 x1 q1 v hv => ?_⟩
    cases ef : f d0 d with
    | none => rw [ef] at q1; exact False.elim q1
    | some r =>
      rw [ef] at q1
      exact ⟨_, d0, d, rel1.liveZ, .val (RepE.mono x1 r0), .val hv, r, ef, fun w H' g rw' => q1 (σ.set i (some w)) H' ((rel1.grow g).setVal i rw') ((g.ext (σ := σ) (env := env1)).trans (Ext.setVal i))⟩
def dAddI : D → D → Option D
  | .int i, .int j => some (.int (i + j))
  | _, _ => none
theorem ipr_add : PIp X .Add (rD X.K (mw X G) dAddI) := by
  intro pins s σ H x y v u Q I rx ry h
  obtain ⟨Z, d, e, lv, hd, he, d', hf, k⟩ := h
  unfold dAddI at hf
  split at hf
  · cases hf
    have e1 := hd.int
    have e2 := he.int
    subst e1 e2
    exact iop_add pins s σ H _ _ v u Q I rx ry ⟨_, _, rfl, rfl, k _ H (Grow.refl H) (.int _)⟩
  · cases hf
theorem ipr_sub : PIp X .Sub (rD X.K (mw X G) dSub) := by
  intro pins s σ H x y v u Q I rx ry h
  obtain ⟨Z, d, e, lv, hd, he, d', hf, k⟩ := h
  unfold dSub at hf
  split at hf
  · cases hf
    have e1 := hd.int
    have e2 := he.int
    subst e1 e2
    exact iop_sub pins s σ H _ _ v u Q I rx ry ⟨_, _, rfl, rfl, k _ H (Grow.refl H) (.int _)⟩
  · cases hf
/-! ### d[k] = v, {} -/
def cSetD (c : Cell) (k d : D) : Option Cell := match c with
  | .dct kvs => (keyOf k).bind fun j => if kvs.length < sizeLine then some (.dct (putD kvs j d)) else none
  | _ => none
theorem setD_lift : ∀ x k v H Q, rSet X.K (mw X G) cSetD x k v H Q → rSetD x k v H Q := by
  intro x kk v H Q ⟨Z, a, c, dk, d, c', ex, ca, lv, za, hk, hd, hf, k⟩
  unfold cSetD at hf
  split at hf
  · rename_i kvs
    cases ek : keyOf dk with
    | none => rw [ek] at hf; cases hf
    | some j =>
      rw [ek] at hf
      have hf : (if kvs.length < sizeLine then some (Cell.dct (putD kvs j d)) else none) = some c' := hf
      split at hf
      · rename_i hz
        cases hf
        cases ca with
        | @dct _ kws h r =>
          obtain ⟨ekk, _⟩ := keyOf_rep (.val hk) ek
          subst ekk
          have g := fun o' => lift_gr (K := X.K) (mg := mw X G) (o' := o') za h trivial
          exact ⟨a, _, ex, DPut.k h (by rw [← r.length]; exact hz), k _ (.dct upd_same ((r.mono (g _)).put j (hd.mono (g _))))⟩
      · cases hf
  · cases hf
/-- both -/
def cSetX (c : Cell) (k d : D) : Option Cell := match c with
  | .lst _ => cSetL c k d
  | _ => cSetD c k d
theorem cSetL_dct {kvs : List (D × D)} {k d : D} : cSetL (.dct kvs) k d = none := by cases k <;> rfl
theorem set_any (hu : X.A.units + 1 < cLine) : PSet X (fun x k v H Q => rSetL x k v H Q ∨ rSetD x k v H Q) := by
  intro pins s σ H o i v ov iv u Q I ro ri rv h
  rcases h with h | h
  · exact set_list pins s σ H o i v ov iv u Q I ro ri rv h
  · exact set_dict hu pins s σ H o i v ov iv u Q I ro ri rv h
theorem setX_lift : ∀ x k v H Q, rSet X.K (mw X G) cSetX x k v H Q → (rSetL x k v H Q ∨ rSetD x k v H Q) := by
  intro x kk v H Q ⟨Z, a, c, dk, d, c', ex, ca, lv, za, hk, hd, hf, k⟩
  cases c with
  | lst ds => exact .inl (setL_lift (X := X) _ _ _ _ _ ⟨Z, a, _, dk, d, c', ex, ca, lv, za, hk, hd, hf, k⟩)
  | dct ds => exact .inr (setD_lift (X := X) _ _ _ _ _ ⟨Z, a, _, dk, d, c', ex, ca, lv, za, hk, hd, hf, k⟩)
  | ins C fs => cases hf
def mNewD : M Cell := fun env => .ok (.dct []) env
theorem mf_dict0 : MF X G (.Dict [] [] pos) mNewD := PEimp pe_dnewK fun σ H Q ⟨env, rel, post⟩ => fun p hp => by
  exact PostF.new (o := .dK []) Ext.refl rel hp trivial (.dct upd_same .nil) post
/-! ### d[k] -/
def dIxD : D → D → Option D
  | .dct kvs, k => (keyOf k).bind fun j => findD kvs j
  | .lst ds, k => dIx (.lst ds) k
  | .tup ds, k => dIx (.tup ds) k
  | .str ds, k => dIx (.str ds) k
  | _, _ => none
theorem ixr_dict (hu : X.A.units + 1 < cLine) : IxR X (rD X.K (mw X G) dIxD) := by
  intro value slice pins s σ H x y v u Q I rx ry h hs
  obtain ⟨Z, d, e, lv, hd, he, d', hf, k⟩ := h
  cases d with
  | dct kvs =>
    cases ek : keyOf e with
    | none => simp only [dIxD, ek] at hf; cases hf
    | some j =>
      have hf : findD kvs j = some d' := by
        have hf : (keyOf e).bind (fun j => findD kvs j) = some d' := hf
        rw [ek] at hf
        exact hf
      obtain ⟨ekk, _⟩ := keyOf_rep he ek
      subst ekk
      obtain ⟨a, kws, rfl, h1, r1⟩ := hd.dct'
      obtain ⟨w, hw, rw'⟩ := (r1.find j).1 d' hf
      have g : DGet H a (kV j) (some w) := hw ▸ DGet.k' h1
      cases rx
      have hT := dict_typeIs I g
      unfold subscriptTail
      refine wpAny_bind ?_
      rw [getitemInPython_of_ne hT.not_modules]
      refine wpAny_bind (wpAny_specialOf hT PySem.F.slot_dict_getitem.lookup ?_)
      have fin : wpAny (model X.prog X.w) X.A (subscripted slice false (.ref a) u) (fun r s₃ => wpAny (model X.prog X.w) X.A (letTemporaryGo value (.ref a) r >>= fun _ => pure r) (EP X pins σ Q) X.xe s₃) X.xe s := by
        rw [hs]
        exact wpAny_operating (d_getItem hu I g ry fun w' s' I' r' => wpAny_bind (wpAny_letTemporaryGo (wpAny_pure ⟨w, H, I', r', k w H (Grow.refl H) rw'⟩)))
      exact wpAny_pure (wpAny_bind fin)
  | lst ds => exact ixr_seq value slice pins s σ H x y v u Q I rx ry ⟨Z, _, e, lv, hd, he, d', hf, k⟩ hs
  | tup ds => exact ixr_seq value slice pins s σ H x y v u Q I rx ry ⟨Z, _, e, lv, hd, he, d', hf, k⟩ hs
  | str ds => exact ixr_seq value slice pins s σ H x y v u Q I rx ry ⟨Z, _, e, lv, hd, he, d', hf, k⟩ hs
  | _ => cases hf
end
end Mi
/-! the class of a caught exception, with a dict of its own or not (after HandS.ExcIs) -/
namespace PySem.W
open PySem PySem.Spec PySem.Calls PyProof.Rows
section
variable {prog : Program} {w : World} {A : Around} {E : Value → Shared → Prop} {s : Shared} {K : Frag} {x D : Addr} {ox : Obj}
theorem miFindObj_data {od : Option Obj} {C : Addr} {name : Str} {a g : Value} (hc : (clsIn K C).isSome = true) (ha : findIn K (.ref C) name = some (some a)) (hg : specialIn K a "__get__" = some (some g)) (ht : takesIn K a = some true) : findObj K C od name = some (.bind g a) := by
  obtain ⟨cd, hc⟩ := Option.isSome_iff_exists.mp hc
  unfold findObj
  rw [hc, Option.bind_some, ha, Option.bind_some]
  simp [hg, ht]
theorem mi_classE {od : Option Obj} {Q : Option Value → Shared → Prop} (hga : findIn K (.ref D) "__getattribute__" = some (some (.builtin "BaseException.__getattribute__"))) (hgt : findIn K (.ref D) "__getattr__" = some none) (hsub : subIn K (.ref D) (.type "BaseException") = some true)
    (hdct : hasDictIn K D = true) (ha : findIn K (.ref D) "__class__" = some (some (.builtin "object.__class__")))
    (hn : specialIn K (.builtin "object.__class__") "__get__" = some (some (.builtin "getset_descriptor.__get__"))) (htk : takesIn K (.builtin "object.__class__") = some true) (hm : mroIn K D (.type "object") = some true)
    (X : K.In s.heap) (I : InstAt s.heap x ox D od) (h : Q (some (.ref D)) { s with toks := s.toks + 1 }) : wpAny (model prog w) A (getAttr? (.ref x) "__class__") Q E s := by
  have hf : findObj K D od "__class__" = some (.bind (.builtin "getset_descriptor.__get__") (.builtin "object.__class__")) := miFindObj_data (by obtain ⟨cd, hc, _⟩ := any_some hdct; rw [hc]; rfl) ha hn htk
  obtain ⟨hp, g, d, t, os⟩ := s
  have L0 := I.type (M := model prog w)
  have L1 := looks_findIn (M := model prog w) X hga
  have L2 := looks_findIn (M := model prog w) X hgt
  have L3 := looks_find (M := model prog w) X I hf
  have sub : Looks (model prog w) hp (isInstance (.ref x) (.type "BaseException")) true := L0.andThen (looks_subIn X hsub)
  have hx0 : (false && onTheHeap (Value.builtin "BaseException.__getattribute__")) = false := rfl
  have hx2 : (Value.builtin "BaseException.__getattribute__" == Value.builtin "object.__getattribute__") = false := by decide +kernel
  have hx1 : (onTheHeap (Value.ref D) && Value.builtin "BaseException.__getattribute__" == Value.builtin "object.__getattribute__") = false := by rw [hx2]; rfl
  unfold getAttr? getAttrBy? getAttrBy
  refine wpAny_bind (wpAny_mkText (wpAny_bind (wpAny_attempt (wpAny_holding (wpAny_bind (L0.at (wpAny_bind (L1.at ?_))))))))
  show wpAny _ _ (if (onTheHeap (Value.ref D) && Value.builtin "BaseException.__getattribute__" == Value.builtin "object.__getattribute__") = true then _ else _) _ _ _
  rw [hx1, if_neg Bool.false_ne_true]
  unfold getAttrByItsOwn hookBefore
  refine wpAny_bind ?_
  rw [if_pos (show onTheHeap (Value.ref D) = true from rfl)]
  refine L2.at ?_
  refine wpAny_bind (wpAny_attempt (wpAny_holding ?_))
  unfold callGetattribute
  rw [hx0, if_neg Bool.false_ne_true]
  unfold boundAndCalled
  rw [PySem.F.excAttr_ValueError.ga.bind (.ref x)]
  refine wpAny_bind (wpAny_pure ?_)
  show wpAny _ _ (call (.builtin "BaseException.__getattribute__") [.ref x, .str "__class__" t]) _ _ _
  refine wpAny_call (codeAny_call_builtin PySem.F.excAttr_ValueError.ga.plain PySem.F.entry_bexc_ga ?_)
  refine @check_slot (model prog w) _ _ ⟨hp, g, d, t + 1, os⟩ "BaseException.__getattribute__" "BaseException" "__getattribute__" (.ref x) [.str "__class__" t] [] _ (by decide +kernel) (by decide +kernel) sub (PySem.F.args_bexc_ga (.ref x) (.str "__class__" t)) ?_
  unfold Builtin.«object.__getattribute__»
  refine wpAny_bind (wpAny_of_eq (a := ((Value.ref x : Value), [Value.str "__class__" t])) (by first | rfl | (simp only [slotArgs]; rfl)) ?_)
  refine wpAny_bind (wpAny_pure (wpAny_bind (L0.at (wpAny_bind (L3.at ?_)))))
  show wpAny _ _ (holding [Value.builtin "object.__class__"] (call (.builtin "getset_descriptor.__get__") [.builtin "object.__class__", .ref x, .ref D]) >>= ret) _ _ _
  refine wpAny_bind (wpAny_holding (wpAny_call (class_get (s := ⟨hp, g, d, t + 1, os⟩) (ox := ox) (od := od) X I hm ?_)))
  refine wpAny_pure ?_
  show wpAny _ _ (handedOut (.ref D)) _ _ _
  rw [handedOut_of (v := .ref D) rfl]
  first
    | exact wpAny_pure (wpAny_pure h)
    | exact wpAny_pure h
    | exact wpAny_pure (wpAny_bind (wpAny_pure (wpAny_pure h)))
theorem mi_kitx_exc {od : Option Obj} (hga : findIn K (.ref D) "__getattribute__" = some (some (.builtin "BaseException.__getattribute__"))) (hgt : findIn K (.ref D) "__getattr__" = some none) (hsub : subIn K (.ref D) (.type "BaseException") = some true) (hdct : hasDictIn K D = true) (ha : findIn K (.ref D) "__class__" = some (some (.builtin "object.__class__")))
    (hn : specialIn K (.builtin "object.__class__") "__get__" = some (some (.builtin "getset_descriptor.__get__"))) (htk : takesIn K (.builtin "object.__class__") = some true) (hm : mroIn K D (.type "object") = some true) :
    KitX K (.ref x) (.ref D) (fun h => InstAt h x ox D od) where
  ty := fun _ _ _ I => I.type
  it := fun _ _ X _ => by
    obtain ⟨cdD, hcD, _⟩ := any_some hdct
    unfold clsIn at hcD
    split at hcD
    · rename_i c' d' cd' sl' ho
      intro A' Q' E' s' k q
      unfold isType loadHead
      exact wpAny_bind (wpAny_loadPart (k _ _ (X _ _ ho)) (wpAny_pure q))
    · cases hcD
  ne := fun h tp dd its n sl X htp => by
    obtain ⟨cdD, hcD, _⟩ := any_some hdct
    refine Bool.eq_false_iff.mpr fun q => ?_
    have e : D = tp := Value.ref.inj (beq_iff_eq.mp q)
    subst e
    unfold clsIn at hcD
    split at hcD
    · rename_i c' d' cd' sl' ho
      have z := (X _ _ ho).symm.trans htp
      cases z
    · cases hcD
  ca := fun X I k => mi_classE hga hgt hsub hdct ha hn htk hm X I k
end
end PySem.W
namespace Mi
open PySem PySem.Spec L2
open PyProof.Rows hiding St

/-! ### exceptions -/
def mRaise (c : Str) : MS := fun env => .exc c [] env
section
variable {X : Cx} {G : Gd} {e a b c : Expr} {es : List Expr} {pos p : Pos}
/-- raise C('word'), C without own __init__ -/
theorem mst_raise {bmB : List Value} {newId initId : String} {B : String} {C : Addr} {x m : Str} {j : Nat} {p p2 pos pos' : Pos} (hc : X.calm = true) (tk : Takes X G.W) (F : ExcBaseFacts B newId initId bmB) (q : PySem.W.excIn X.K C bmB newId = true) (gC : X.mg x = some (.ref C)) (kC : PySem.W.keepIn X.K (.ref C) = true) (r : Raises X (.ref C)) (hg : Gl X x)
    (hdb : (x == ("__debug__" : Str)) = false := by decide) : MSt X G (.Raise (some (.Call (.Name x p) [.Constant (.str m) j p2] [] pos)) none pos') (mRaise x) :=
  PSimp (ps_raise hc tk (pmk_own F q gC kC r hg hdb)) fun Dn σ H ⟨env, rel, post⟩ => post (.ref C) none σ H rel Ext.refl ⟨⟨C, rfl, gC⟩, .inl ⟨rfl, rfl⟩⟩
/-! the slots that may be left by a suite -/
mutual
def D.noX : D → Bool
  | .exo => false
  | .tup xs => noXs xs
  | .lst xs => noXs xs
  | .dct kvs => noXk kvs
  | .ins _ fs => noXf fs
  | _ => true
def noXs : List D → Bool
  | [] => true
  | d :: ds => d.noX && noXs ds
def noXk : List (D × D) → Bool
  | [] => true
  | (_, d) :: r => d.noX && noXk r
def noXf : List (Str × D) → Bool
  | [] => true
  | (_, d) :: r => d.noX && noXf r
end
def Cell.noX : Cell → Bool
  | .lst xs => noXs xs
  | .dct kvs => noXk kvs
  | .ins _ fs => noXf fs
section
variable {K : PySem.W.Frag} {mg mg2 : Mw} {H : Hp} {Z : Addr → Prop}
mutual
theorem Rep.upX (hm : mg2.m = mg.m) (hx : mg.ex = none) : ∀ {d : D} {v : V}, Rep K mg H Z d v → Rep K mg2 H Z d v
  | _, _, .non => .non
  | _, _, .bl b => .bl b
  | _, _, .int i => .int i
  | _, _, .str x => .str x
  | _, _, .tup h r => .tup h (Reps.upX hm hx r)
  | _, _, .lst h r => .lst h (Reps.upX hm hx r)
  | _, _, .dct h r => .dct h (RepKs.upX hm hx r)
  | _, _, .ins n m h r => .ins n (hm ▸ m) h (RepFs.upX hm hx r)
  | _, _, .exo h => by rw [hx] at h; cases h
theorem Reps.upX (hm : mg2.m = mg.m) (hx : mg.ex = none) : ∀ {ds : List D} {vs : List V}, Reps K mg H Z ds vs → Reps K mg2 H Z ds vs
  | _, _, .nil => .nil
  | _, _, .cons h r => .cons (Rep.upX hm hx h) (Reps.upX hm hx r)
theorem RepKs.upX (hm : mg2.m = mg.m) (hx : mg.ex = none) : ∀ {ds : List (D × D)} {vs : List (Key × V)}, RepKs K mg H Z ds vs → RepKs K mg2 H Z ds vs
  | _, _, .nil => .nil
  | _, _, .cons h r => .cons (Rep.upX hm hx h) (RepKs.upX hm hx r)
theorem RepFs.upX (hm : mg2.m = mg.m) (hx : mg.ex = none) : ∀ {ds : List (Str × D)} {vs : List (Str × V)}, RepFs K mg H Z ds vs → RepFs K mg2 H Z ds vs
  | _, _, .nil => .nil
  | _, _, .cons h r => .cons (Rep.upX hm hx h) (RepFs.upX hm hx r)
end
mutual
theorem Rep.dnX (hm : mg2.m = mg.m) : ∀ {d : D} {v : V}, Rep K mg H Z d v → d.noX = true → Rep K mg2 H Z d v
  | _, _, .non, _ => .non
  | _, _, .bl b, _ => .bl b
  | _, _, .int i, _ => .int i
  | _, _, .str x, _ => .str x
  | _, _, .tup h r, n => .tup h (Reps.dnX hm r (by simpa [D.noX] using n))
  | _, _, .lst h r, n => .lst h (Reps.dnX hm r (by simpa [D.noX] using n))
  | _, _, .dct h r, n => .dct h (RepKs.dnX hm r (by simpa [D.noX] using n))
  | _, _, .ins n m h r, q => .ins n (hm ▸ m) h (RepFs.dnX hm r (by simpa [D.noX] using q))
  | _, _, .exo h, n => by simp [D.noX] at n
theorem Reps.dnX (hm : mg2.m = mg.m) : ∀ {ds : List D} {vs : List V}, Reps K mg H Z ds vs → noXs ds = true → Reps K mg2 H Z ds vs
  | _, _, .nil, _ => .nil
  | _, _, .cons h r, n => by
    have n := Bool.and_eq_true_iff.mp (by simpa only [noXs] using n)
    exact .cons (Rep.dnX hm h n.1) (Reps.dnX hm r n.2)
theorem RepKs.dnX (hm : mg2.m = mg.m) : ∀ {ds : List (D × D)} {vs : List (Key × V)}, RepKs K mg H Z ds vs → noXk ds = true → RepKs K mg2 H Z ds vs
  | _, _, .nil, _ => .nil
  | _, _, .cons h r, n => by
    have n := Bool.and_eq_true_iff.mp (by simpa only [noXk] using n)
    exact .cons (Rep.dnX hm h n.1) (RepKs.dnX hm r n.2)
theorem RepFs.dnX (hm : mg2.m = mg.m) : ∀ {ds : List (Str × D)} {vs : List (Str × V)}, RepFs K mg H Z ds vs → noXf ds = true → RepFs K mg2 H Z ds vs
  | _, _, .nil, _ => .nil
  | _, _, .cons h r, n => by
    have n := Bool.and_eq_true_iff.mp (by simpa only [noXf] using n)
    exact .cons (Rep.dnX hm h n.1) (RepFs.dnX hm r n.2)
end
theorem CellAt.upX (hm : mg2.m = mg.m) (hx : mg.ex = none) {a : Addr} {c : Cell} (h : CellAt K mg H Z a c) : CellAt K mg2 H Z a c := by
  cases h with
  | lst h r => exact .lst h (r.upX hm hx)
  | dct h r => exact .dct h (r.upX hm hx)
  | ins m h r => exact .ins (hm ▸ m) h (r.upX hm hx)
theorem CellAt.dnX (hm : mg2.m = mg.m) {a : Addr} {c : Cell} (h : CellAt K mg H Z a c) (n : c.noX = true) : CellAt K mg2 H Z a c := by
  cases h with
  | lst h r => exact .lst h (r.dnX hm n)
  | dct h r => exact .dct h (r.dnX hm n)
  | ins m h r => exact .ins (hm ▸ m) h (r.dnX hm n)
end
/-- what is left of the slots behind a suite -/
def outX : Env' → Option Env'
  | [] => some []
  | .emp :: r => (outX r).map (.emp :: ·)
  | .val d :: r => (outX r).map ((if d.noX = true then .val d else .emp) :: ·)
  | .cel o c :: r => if c.noX = true then (outX r).map (.cel o c :: ·) else none
theorem outX_get : ∀ {e e' : Env'}, outX e = some e' → e'.length = e.length ∧ ∀ (i : Nat) (s : Slot), e'[i]? = some s → s = .emp ∨ (∃ d, s = .val d ∧ d.noX = true ∧ e[i]? = some s) ∨ ∃ o c, s = .cel o c ∧ c.noX = true ∧ e[i]? = some s
  | [], e', h => by
    cases h; exact ⟨rfl, fun i s e => by simp at e⟩
  | .emp :: r, e', h => by
    have h : (outX r).map (.emp :: ·) = some e' := h
    cases q : outX r with
    | none => rw [q] at h; cases h
    | some r' =>
      rw [q] at h; cases h
      obtain ⟨h1, h2⟩ := outX_get q
      refine ⟨congrArg (· + 1) h1, fun i s e => ?_⟩
      cases i with
      | zero => cases e; exact .inl rfl
      | succ i => exact h2 i s e
  | .val d :: r, e', h => by
    have h : (outX r).map ((if d.noX = true then .val d else .emp) :: ·) = some e' := h
    cases q : outX r with
    | none => rw [q] at h; cases h
    | some r' =>
      rw [q] at h; cases h
      obtain ⟨h1, h2⟩ := outX_get q
      refine ⟨congrArg (· + 1) h1, fun i s e => ?_⟩
      cases i with
      | zero =>
        cases e
        by_cases n : d.noX = true
        · rw [if_pos n]; exact .inr (.inl ⟨d, rfl, n, rfl⟩)
        · rw [if_neg n]; exact .inl rfl
      | succ i => exact h2 i s e
  | .cel o c :: r, e', h => by
    have h : (if c.noX = true then (outX r).map (.cel o c :: ·) else none) = some e' := h
    split at h
    · rename_i n
      cases q : outX r with
      | none => rw [q] at h; cases h
      | some r' =>
        rw [q] at h; cases h
        obtain ⟨h1, h2⟩ := outX_get q
        refine ⟨congrArg (· + 1) h1, fun i s e => ?_⟩
        cases i with
        | zero => cases e; exact .inr (.inr ⟨o, c, rfl, n, rfl⟩)
        | succ i => exact h2 i s e
    · cases h
theorem outX_cel : ∀ {e e' : Env'}, outX e = some e' → ∀ (i : Nat) (o : Bool) (c : Cell), e[i]? = some (.cel o c) → e'[i]? = some (.cel o c)
  | [], e', h, i, o, c, g => by simp at g
  | .emp :: r, e', h, i, o, c, g => by
    have h : (outX r).map (.emp :: ·) = some e' := h
    cases q : outX r with
    | none => rw [q] at h; cases h
    | some r' =>
      rw [q] at h; cases h
      cases i with
      | zero => cases g
      | succ i => exact outX_cel q i o c g
  | .val d :: r, e', h, i, o, c, g => by
    have h : (outX r).map ((if d.noX = true then .val d else .emp) :: ·) = some e' := h
    cases q : outX r with
    | none => rw [q] at h; cases h
    | some r' =>
      rw [q] at h; cases h
      cases i with
      | zero => cases g
      | succ i => exact outX_cel q i o c g
  | .cel o' c' :: r, e', h, i, o, c, g => by
    have h : (if c'.noX = true then (outX r).map (.cel o' c' :: ·) else none) = some e' := h
    split at h
    · cases q : outX r with
      | none => rw [q] at h; cases h
      | some r' =>
        rw [q] at h; cases h
        cases i with
        | zero => exact g
        | succ i => exact outX_cel q i o c g
    · cases h
section
variable {K : PySem.W.Frag} {mg mg2 : Mw} {z : Addr → Prop} {p : Nat → Option Addr} {kp kp2 : Addr → Option HO} {σ : St} {e e' : Env'} {H : Hp}
theorem Rel.inX (r : Rel ⟨K, mg, z, p, kp⟩ σ e H) (hm : mg2.m = mg.m) (hx : mg.ex = none) (hk : ∀ a o, kp2 a = some o → H a = some o ∧ ¬ isMutO o) : Rel ⟨K, mg2, z, p, kp2⟩ σ e H :=
  ⟨r.len, fun i d h => (by obtain ⟨v, h1, h2⟩ := r.val i d h; exact ⟨v, h1, Rep.upX hm hx h2⟩), fun i o c h => (by obtain ⟨a, h1, h2, h3⟩ := r.chg i o c h; exact ⟨a, h1, h2.upX hm hx, h3⟩), r.dist, r.z0, r.pz, hk⟩
theorem Rel.outX (r : Rel ⟨K, mg2, z, p, kp2⟩ σ e H) (ho : Mi.outX e = some e') (hm : mg.m = mg2.m) (hk : ∀ a o, kp a = some o → H a = some o ∧ ¬ isMutO o) : Rel ⟨K, mg, z, p, kp⟩ σ e' H ∧ ∀ a, Zof σ e' a ↔ Zof σ e a := by
  obtain ⟨hl, hg⟩ := outX_get ho
  have zz : ∀ a, Zof σ e' a ↔ Zof σ e a := fun a => by
    constructor
    · rintro ⟨i, o, c, e1, e2⟩
      rcases hg i _ e1 with q | ⟨d, q, _⟩ | ⟨o', c', q, _, q2⟩
      · cases q
      · cases q
      · exact ⟨i, o, c, q2, e2⟩
    · rintro ⟨i, o, c, e1, e2⟩
      exact ⟨i, o, c, outX_cel ho i o c e1, e2⟩
  have zy : Zall z σ e' = Zall z σ e := by
    funext a
    unfold Zall
    rw [propext (zz a)]
  refine ⟨⟨hl.trans r.len, fun i d h => ?_, fun i o c h => ?_, fun i j o o' c c' a h1 h2 h3 h4 => ?_, r.z0, r.pz, hk⟩, zz⟩
  · rcases hg i _ h with q | ⟨d', q, n, q2⟩ | ⟨o', c', q, _⟩
    · cases q
    · cases q
      obtain ⟨v, h1, h2⟩ := r.val i d q2
      exact ⟨v, h1, by show Rep _ _ _ (Zall z _ _) _ _; rw [zy]; exact Rep.dnX hm h2 n⟩
    · cases q
  · rcases hg i _ h with q | ⟨d', q, n, q2⟩ | ⟨o', c', q, n, q2⟩
    · cases q
    · cases q
    · cases q
      obtain ⟨a, h1, h2, h3⟩ := r.chg i o c q2
      exact ⟨a, h1, by show CellAt _ _ _ (Zall z _ _) _ _; rw [zy]; exact h2.dnX hm n, h3⟩
  · rcases hg i _ h1 with q | ⟨d', q, _⟩ | ⟨o1, c1, q, _, q2⟩
    · cases q
    · cases q
    · rcases hg j _ h2 with q' | ⟨d', q', _⟩ | ⟨o2, c2, q', _, q3⟩
      · cases q'
      · cases q'
      · exact r.dist i j o o' c c' a q2 q3 h3 h4
theorem Rel.setEmp {B : Bd} (r : Rel B σ e H) (i : Nat) (v : Option V) : Rel B (σ.set i v) (e.set i .emp) H ∧ Ext σ e H (σ.set i v) (e.set i .emp) H := by
  have sub : ∀ a, Zof (σ.set i v) (e.set i .emp) a → Zof σ e a := fun a h => h.unset fun _ _ z => by cases z
  have x : Ext σ e H (σ.set i v) (e.set i .emp) H := Gr.sub sub
  have g : Gr H (Zall B.z σ e) H (Zall B.z (σ.set i v) (e.set i .emp)) := Gr.all x
  refine ⟨⟨by simpa using r.len, fun j d h => ?_, fun j o c h => ?_, fun j k o o' c c' a h1 h2 h3 h4 => ?_, r.z0, r.pz, r.kp⟩, x⟩
  · rcases set_get h with ⟨rfl, q', hl⟩ | ⟨ne, h⟩
    · cases q'
    · obtain ⟨w, h1, h2⟩ := r.val j d h
      exact ⟨w, by rw [get_set_ne ne]; exact h1, Rep.mono g h2⟩
  · rcases set_get h with ⟨_, q', _⟩ | ⟨ne, h⟩
    · cases q'
    · obtain ⟨a, h1, h2, h3⟩ := r.chg j o c h
      exact ⟨a, by rw [get_set_ne ne]; exact h1, h2.mono g (fun _ e => e), h3⟩
  · rcases set_get h1 with ⟨_, q', _⟩ | ⟨ne, h1⟩
    · cases q'
    · rcases set_get h2 with ⟨_, q', _⟩ | ⟨ne2, h2⟩
      · cases q'
      · rw [get_set_ne ne] at h3
        rw [get_set_ne ne2] at h4
        exact r.dist j k o o' c c' a h1 h2 h3 h4
end
/-! flat fields -/
def vFlat : D → Option V
  | .non => some .non
  | .bl b => some (.bl b)
  | .int i => some (.int i)
  | .str x => some (.str x)
  | _ => none
def flatFs : List (Str × D) → Option (List (Str × V))
  | [] => some []
  | (k, d) :: r => match vFlat d, flatFs r with
    | some v, some s => some ((k, v) :: s)
    | _, _ => none
theorem vFlat_rep {K : PySem.W.Frag} {mg : Mw} {H : Hp} {Z : Addr → Prop} {d : D} {v w : V} (h : Rep K mg H Z d v) (e : vFlat d = some w) : v = w := by
  cases h <;> first | (cases e; rfl) | cases e
theorem rep_vFlat {K : PySem.W.Frag} {mg : Mw} {H : Hp} {Z : Addr → Prop} {d : D} {w : V} (e : vFlat d = some w) : Rep K mg H Z d w := by
  cases d <;> first | (cases e; first | exact .non | exact .bl _ | exact .int _ | exact .str _) | cases e
theorem flatFs_rep {K : PySem.W.Frag} {mg : Mw} {H : Hp} {Z : Addr → Prop} : ∀ {fs : List (Str × D)} {fvs gs : List (Str × V)}, RepFs K mg H Z fs fvs → flatFs fs = some gs → fvs = gs
  | _, _, _, .nil, e => by cases e; rfl
  | _, _, gs, .cons (d := d) (r := r) (k := k) h t, e => by
    unfold flatFs at e
    split at e
    · rename_i v s e1 e2
      cases e
      rw [vFlat_rep h e1, flatFs_rep t e2]
    · cases e
def kpX (d : Option Addr) (fvs : List (Str × V)) : Addr → Option HO := fun a => if d = some a then some (.xd fvs) else none
def So.outX (i : Nat) : So → So
  | .nx e => (match Mi.outX (e.set i .emp) with | some e' => .nx e' | none => .bad)
  | .bk e => (match Mi.outX (e.set i .emp) with | some e' => .bk e' | none => .bad)
  | .ct e => (match Mi.outX (e.set i .emp) with | some e' => .ct e' | none => .bad)
  | .ret d e => if d.noX = true then (match Mi.outX (e.set i .emp) with | some e' => .ret d e' | none => .bad) else .bad
  | _ => .bad
/-- try: mb; except .. as i: sm (of the class and the fields) -/
def mTry (mb : MS) (cat : Str → Option Bool) (i : Nat) (sm : Str → List (Str × D) → MS) : MS := fun env => match mb env with
  | .exc c fs e => (match flatFs fs, cat c with
    | some _, some true => (sm c fs (e.set i (.val .exo))).outX i
    | some _, some false => .exc c fs e
    | _, _ => .bad)
  | r => r
theorem mst_try {x n : Str} {cv : Value} {i : Nat} {body suite : List Stmt} {b₀ : Stmt} {np pos pos' : Pos} {mb : MS} {cat : Str → Option Bool} {sm : Str → List (Str × D) → MS}
    (hs : X.stack = X.env :: X.outer) (hf : X.env.frame = some X.env.locals) (hN : X.N.Nodup) (hi : X.N[i]? = some n) (hln : X.env.kindOf n = some .local) (hc : Names X x cv) (tk : Takes X G.W) (hx : G.ex = none)
    (hcat : ∀ c b, cat c = some b → ∀ ca, X.mg c = some (.ref ca) → PySem.W.exmOne X.K (.ref ca) cv = some b)
    (hb : ∀ (W : WX) (pn : List (Addr × Obj)) (xe : Value → Shared → Prop), Takes (X.tr pn xe) W → PassesOwn (model X.prog X.w) X.A X.env xe → MSs (X.tr pn xe) ⟨G.z, G.p, W, G.kp, G.ex⟩ body mb)
    (hsu : ∀ (c : Str) (fs : List (Str × D)) (fvs : List (Str × V)) (a ca : Addr) (d : Option Addr) (oe : Obj) (pn : List (Addr × Obj)), cat c = some true → X.mg c = some (.ref ca) → flatFs fs = some fvs → (d = none → fs = []) → Zc (.ref ca) d oe → (∃ vs, oe.data = .fields vs) →
      MSs (X.suite a ((a, oe) :: pn)) ⟨G.z, G.p, wNo, kpX d fvs, some a⟩ (b₀ :: suite) (sm c fs)) :
    MSt X G (.Try body [.ExceptHandler (some (.Name x np)) (some n) (b₀ :: suite) pos'] [] [] pos) (mTry mb cat i sm) := by
  let ts : Addr → Value → Option Addr → TS := fun a cls d => fun Dn σ H => ∃ c fs fvs ca, cls = .ref ca ∧ cat c = some true ∧ X.mg c = some (.ref ca) ∧ flatFs fs = some fvs ∧ (d = none → fs = []) ∧ liftS ⟨X.K, ⟨X.mg, X.prog, X.w, some a⟩, G.z, G.p, kpX d fvs⟩ wNo (sm c fs) Dn σ H
  have base := ps_try_as (np := np) (pos := pos) (pos' := pos') (Wout := G.W) (tb := fun W => liftS (bd X G) W mb) (ts := ts) hs hf hN hi hln hc tk (fun W pn xe h1 h2 => hb W pn xe h1 h2)
    (fun a oe cls d pn hz hfl => ⟨fun pins s σ H D I ⟨c, fs, fvs, ca, e1, e2, e3, e4, e5, q⟩ => by
      subst e1
      exact (hsu c fs fvs a ca d oe pn e2 e3 e4 e5 hz hfl).run pins s σ H D I q⟩)
  refine PSimp base fun Dn σ H ⟨env, rel, post⟩ => ⟨env, rel, ?_⟩
  unfold mTry at post
  cases em : mb env with
  | nx e => rw [em] at post; exact post
  | bk e => rw [em] at post; exact post
  | ct e => rw [em] at post; exact post
  | ret d e => rw [em] at post; exact post
  | rnew d e => rw [em] at post; exact post
  | bad => rw [em] at post; exact post
  | exc c fs e =>
    rw [em] at post
    intro cls od σ' H' r' x' hex
    obtain ⟨⟨ca, rfl, hca⟩, hfs⟩ := id hex
    cases efs : flatFs fs with
    | none => simp only [efs] at post; exact False.elim post
    | some fvs =>
      cases ec : cat c with
      | none => simp only [efs, ec] at post; exact False.elim post
      | some b =>
        refine ⟨b, hcat c b ec ca hca, fun hb a ha => ?_, fun hb => ?_⟩
        · subst hb
          simp only [efs, ec] at post
          have hd : (od = none → fs = []) ∧ ∀ a o, kpX od fvs a = some o → H' a = some o ∧ ¬ isMutO o := by
            rcases hfs with ⟨h1, h2⟩ | ⟨d, gs, h1, h2, h3⟩
            · subst h1 h2
              refine ⟨fun _ => rfl, fun a o h => ?_⟩
              unfold kpX at h
              rw [if_neg (by intro z; cases z)] at h
              cases h
            · have := flatFs_rep h3 efs
              subst this
              subst h1
              refine ⟨fun z => (by cases z), fun a o h => ?_⟩
              unfold kpX at h
              split at h
              · rename_i e
                cases e
                cases h
                exact ⟨h2, fun z => z⟩
              · cases h
          have r2 : Rel ⟨X.K, ⟨X.mg, X.prog, X.w, some a⟩, G.z, G.p, kpX od fvs⟩ σ' e H' := Rel.inX (mg := mw X G) (kp := G.kp) r' rfl hx hd.2
          have r3 := r2.setVal i (d := .exo) (v := .ref a) (.exo rfl)
          have x3 : Ext σ' e H' (σ'.set i (some (.ref a))) (e.set i (.val .exo)) H' := Ext.setVal i
          refine ⟨c, fs, fvs, ca, rfl, ec, hca, efs, hd.1, _, r3, ?_⟩
          -- the ends of the suite
          have fin : ∀ {e2 e3 : Env'} {σ2 : St} {H2 : Hp}, Mi.outX (e2.set i .emp) = some e3 → Rel ⟨X.K, ⟨X.mg, X.prog, X.w, some a⟩, G.z, G.p, kpX od fvs⟩ σ2 e2 H2 → Ext (σ'.set i (some (.ref a))) (e.set i (.val .exo)) H' σ2 e2 H2 →
              ∀ v, Rel (bd X G) (σ2.set i v) e3 H2 ∧ Ext σ env H (σ2.set i v) e3 H2 ∧ Gr H2 (Zall G.z σ2 e2) H2 (Zall G.z (σ2.set i v) e3) := fun {e2 e3 σ2 H2} ho rr xx v => by
            obtain ⟨q1, q2⟩ := rr.setEmp i v
            have xt := (x3.trans xx)
            obtain ⟨q3, q4⟩ := q1.outX (mg := mw X G) (kp := G.kp) ho rfl (fun a o h => Gr.kp xt (r'.kp a o h))
            have x5 : Ext (σ2.set i v) (e2.set i .emp) H2 (σ2.set i v) e3 H2 := Gr.sub fun a h => (q4 a).mp h
            exact ⟨q3, x'.trans (xt.trans (q2.trans x5)), Gr.all (q2.trans x5)⟩
          cases es : sm c fs (e.set i (.val .exo)) with
          | nx e2 =>
            rw [es] at post
            have post : PostS (bd X G) G.W σ env H (match Mi.outX (e2.set i .emp) with | some e' => .nx e' | none => .bad) Dn := post
            cases eo : Mi.outX (e2.set i .emp) with
            | none => rw [eo] at post; exact False.elim post
            | some e3 =>
              rw [eo] at post
              exact fun σ2 H2 rr xx => post _ _ (fin eo rr xx none).1 (fin eo rr xx none).2.1
          | bk e2 =>
            rw [es] at post
            have post : PostS (bd X G) G.W σ env H (match Mi.outX (e2.set i .emp) with | some e' => .bk e' | none => .bad) Dn := post
            cases eo : Mi.outX (e2.set i .emp) with
            | none => rw [eo] at post; exact False.elim post
            | some e3 =>
              rw [eo] at post
              exact fun σ2 H2 rr xx => post _ _ (fin eo rr xx none).1 (fin eo rr xx none).2.1
          | ct e2 =>
            rw [es] at post
            have post : PostS (bd X G) G.W σ env H (match Mi.outX (e2.set i .emp) with | some e' => .ct e' | none => .bad) Dn := post
            cases eo : Mi.outX (e2.set i .emp) with
            | none => rw [eo] at post; exact False.elim post
            | some e3 =>
              rw [eo] at post
              exact fun σ2 H2 rr xx => post _ _ (fin eo rr xx none).1 (fin eo rr xx none).2.1
          | ret d2 e2 =>
            rw [es] at post
            have post : PostS (bd X G) G.W σ env H (if d2.noX = true then (match Mi.outX (e2.set i .emp) with | some e' => .ret d2 e' | none => .bad) else .bad) Dn := post
            split at post
            · rename_i hn
              cases eo : Mi.outX (e2.set i .emp) with
              | none => rw [eo] at post; exact False.elim post
              | some e3 =>
                rw [eo] at post
                exact fun v σ2 H2 rr xx hv => post v _ _ (fin eo rr xx none).1 (fin eo rr xx none).2.1 (Rep.mono (fin eo rr xx none).2.2 (Rep.dnX (mg := ⟨X.mg, X.prog, X.w, some a⟩) (mg2 := mw X G) rfl hv hn))
            · exact False.elim post
          | rnew d2 e2 => rw [es] at post; exact False.elim post
          | exc c2 f2 e2 => rw [es] at post; exact False.elim post
          | bad => rw [es] at post; exact False.elim post
        · subst hb
          simp only [efs, ec] at post
          exact post (.ref ca) od σ' H' r' x' hex
/-! in a suite: isinstance(e, C), e.f -/
def mIsE (i : Nat) (b : Bool) : M D := fun env => match env[i]? with
  | some (.val .exo) => .ok (.bl b) env
  | _ => .bad
def mXf (i : Nat) (fs : List (Str × D)) (f : Str) : M D := fun env => match env[i]?, fs.lookup f with
  | some (.val .exo), some d => .ok d env
  | _, _ => .bad
def rIsE2 (K : PySem.W.Frag) (D a : Addr) (d : Option Addr) : List V → Hp → VK → Prop := fun xs H Q => ∃ (c : V) (cv : Value) (b : Bool), xs = [.ref a, c] ∧ (∀ u, RelV c u → u = cv) ∧ PySem.W.kitOne K (.ref D) cv = some b ∧ (∀ dd, d = some dd → ∃ fvs, H dd = some (.xd fvs)) ∧ Q (.bl b) H
theorem call_isE2 {a D : Addr} {d : Option Addr} {oe : Obj} {pn : List (Addr × Obj)} (C : ExcC X.K D) (hz : Zc (.ref D) d oe) (hf : ∃ vs, oe.data = .fields vs) : CallR (X.suite a ((a, oe) :: pn)) (.builtin "isinstance") (rIsE2 X.K D a d) := by
  intro pins s σ H xs us Q I r h
  obtain ⟨c, cv, b, rfl, hcv, e, hdd, q⟩ := h
  cases r with
  | cons rx rr =>
    cases rr with
    | cons rt rr =>
      cases rr
      cases rx
      have ec := hcv _ rt
      subst ec
      obtain ⟨hget, _⟩ := I.pin (a, oe) (List.mem_append.mpr (.inl List.mem_cons_self))
      obtain ⟨vs, hv⟩ := hf
      have J : ∃ od, PySem.W.InstAt s.heap a oe D od := by
        obtain ⟨oc, od, oda, osl⟩ := oe
        obtain ⟨h1, h2⟩ := hz
        dsimp only at h1 h2 hv
        subst h1 h2 hv
        cases od with
        | none => exact ⟨none, hget, rfl, rfl, trivial⟩
        | some dd =>
          obtain ⟨fvs, hx⟩ := hdd dd rfl
          have hx : ObjOk X.prog X.w H s.heap dd (.xd fvs) := I.hok dd _ hx
          obtain ⟨mA, hns, hr⟩ := hx
          obtain ⟨od, ho, hl⟩ := lookIn_ns hns
          exact ⟨some od, hget, rfl, rfl, ho⟩
      obtain ⟨od, J⟩ := J
      exact PySem.W.kia_one (PySem.W.mi_kitx_exc C.hg C.hk C.hs C.hd C.ha C.hn C.ht C.hm) I.kIn J e (fun z => nomatch z) fun tk => ⟨.bl b, H, I.kept (t' := tk) fun _ _ z => z, rfl, q⟩
theorem me_isE {i : Nat} {x : Str} {p2 : Pos} {a0 ca cC : Addr} {d : Option Addr} {oe : Obj} {pn : List (Addr × Obj)} {fvs : List (Str × V)} {b : Bool} (C : ExcC X.K ca) (hz : Zc (.ref ca) d oe) (hf : ∃ vs, oe.data = .fields vs) (hkp : G.kp = kpX d fvs) (hex : G.ex = some a0)
    (hg : Gl X "isinstance") (hm : X.mg "isinstance" = none) (he : PE (X.suite a0 ((a0, oe) :: pn)) a (tVar i)) (hgT : Gl X x) (hmT : X.mg x = some (.ref cC)) (hk : PySem.W.kitOne X.K (.ref ca) (.ref cC) = some b) (hdT : (x == ("__debug__" : Str)) = false := by decide)
    (h1 : starEach (a :: [.Name x p2]) X.env = (false, eval a X.env) :: starEach [.Name x p2] X.env := by rfl) (h2 : starEach (.Name x p2 :: []) X.env = (false, eval (.Name x p2) X.env) :: starEach [] X.env := by rfl)
    (hpl : (backTo pos (starEach [.Name x p2] X.env)).any (·.1) = false := by rfl) : ME (X.suite a0 ((a0, oe) :: pn)) G (.Call (.Name "isinstance" p) [a, .Name x p2] [] pos) (mIsE i b) := by
  refine PEimp (pe_callB (X := X.suite a0 ((a0, oe) :: pn)) (call_isE2 C hz hf) hg hm (by decide +kernel) (pa_cons he (pa_cons (pe_glob (v := .ref cC) hgT hmT rfl hdT) pa_nil h2) h1) (by decide) (by decide) h1 hpl) fun σ H Q ⟨env, rel, post⟩ => ?_
  unfold mIsE at post
  split at post
  · rename_i hi
    obtain ⟨v, hv, r⟩ := rel.val i .exo hi
    cases r with
    | exo h =>
      rw [show (bd (X.suite a0 ((a0, oe) :: pn)) G).mg.ex = G.ex from rfl, hex] at h
      cases h
      refine ⟨_, hv, .ref cC, .ref cC, b, rfl, fun u r => r, hk, fun dd e => ⟨fvs, ?_⟩, Post.ok rel post _ (.bl b)⟩
      subst e
      exact (rel.kp dd (.xd fvs) (by show G.kp dd = _; rw [hkp]; unfold kpX; rw [if_pos rfl])).1
  · exact False.elim post
theorem me_xf {i : Nat} {f : Str} {a0 ca : Addr} {d : Option Addr} {oe : Obj} {pn : List (Addr × Obj)} {fs : List (Str × D)} {fvs : List (Str × V)} (T : XfC X.K ca) (hno : PySem.W.findIn X.K (.ref ca) f = some none) (hz : Zc (.ref ca) d oe) (hf : ∃ vs, oe.data = .fields vs) (hkp : G.kp = kpX d fvs) (hex : G.ex = some a0)
    (hfl : flatFs fs = some fvs) (hd : d = none → fs = []) (he : PE (X.suite a0 ((a0, oe) :: pn)) e (tVar i)) (hb : attributeBase e f X.env (eval e X.env) = eval e X.env := by rfl) :
    ME (X.suite a0 ((a0, oe) :: pn)) G (.Attribute e f pos) (mXf i fs f) := by
  refine PEimp (pe_xf T hno hz hf he hb) fun σ H Q ⟨env, rel, post⟩ => ?_
  unfold mXf at post
  split at post
  · rename_i df hi hl
    obtain ⟨v, hv, r⟩ := rel.val i .exo hi
    cases r with
    | exo h =>
      rw [show (bd (X.suite a0 ((a0, oe) :: pn)) G).mg.ex = G.ex from rfl, hex] at h
      cases h
      have look : ∀ {fs : List (Str × D)} {fvs : List (Str × V)}, flatFs fs = some fvs → ∀ {df}, fs.lookup f = some df → ∃ w, fvs.lookup f = some w ∧ vFlat df = some w := by
        intro fs
        induction fs with
        | nil => intro fvs _ df h; cases h
        | cons q fs ih =>
          obtain ⟨k, dk⟩ := q
          intro fvs h df hl
          unfold flatFs at h
          split at h
          · rename_i v s e1 e2
            cases h
            rw [List.lookup_cons] at hl ⊢
            cases hk : f == k with
            | true =>
              rw [hk] at hl
              cases hl
              exact ⟨v, rfl, e1⟩
            | false =>
              rw [hk] at hl
              exact ih e2 hl
          · cases h
      obtain ⟨w, hw, hw2⟩ := look hfl hl
      cases d with
      | none => rw [hd rfl] at hl; cases hl
      | some dd =>
        exact ⟨_, hv, rfl, rfl, dd, fvs, w, rfl, (rel.kp dd (.xd fvs) (by show G.kp dd = _; rw [hkp]; unfold kpX; rw [if_pos rfl])).1, hw, Post.ok rel post w (rep_vFlat hw2)⟩
  · exact False.elim post
theorem me_never {m : M D} : ME X G e (fun _ => .bad) := ⟨fun pins s σ H Q I ⟨env, rel, post⟩ => False.elim post⟩
end
end Mi
namespace Mi
open PySem PySem.Spec L2
open PyProof.Rows hiding St

/-! ### a, b, .. = e1, e2, ..: values and new objects -/
inductive AX where
  | v (d : D) | n (c : Cell)
def Bd.addL (B : Bd) (ns : List Addr) : Bd := { B with z := fun b => B.z b ∨ b ∈ ns }
inductive ArgsX (K : PySem.W.Frag) (mg : Mw) (H : Hp) (Z : Addr → Prop) : List AX → List V → List Addr → Prop
  | nil : ArgsX K mg H Z [] [] []
  | v {d : D} {v : V} {as : List AX} {vs : List V} {ns : List Addr} : Rep K mg H Z d v → ArgsX K mg H Z as vs ns → ArgsX K mg H Z (.v d :: as) (v :: vs) ns
  | n {c : Cell} {p : Addr} {as : List AX} {vs : List V} {ns : List Addr} : CellAt K mg H Z p c → p ∉ ns → ArgsX K mg H Z as vs ns → ArgsX K mg H Z (.n c :: as) (.ref p :: vs) (p :: ns)
theorem ArgsX.mono {K : PySem.W.Frag} {mg : Mw} {H H' : Hp} {Z Z' : Addr → Prop} (g : Gr H Z H' Z') : ∀ {as : List AX} {vs : List V} {ns : List Addr}, ArgsX K mg H Z as vs ns → (∀ p ∈ ns, ∀ o, H p = some o → H' p = some o) → ArgsX K mg H' Z' as vs ns
  | _, _, _, .nil, _ => .nil
  | _, _, _, .v r t, k => .v (r.mono g) (ArgsX.mono g t k)
  | _, _, _, .n c hn t, k => .n (c.mono g (k _ List.mem_cons_self)) hn (ArgsX.mono g t fun p hp => k p (List.mem_cons_of_mem _ hp))
structure Fresh (B : Bd) (σ0 : St) (env0 : Env') (H0 : Hp) (σ : St) (e : Env') (ns : List Addr) : Prop where
  fr : ∀ a ∈ ns, ∀ o, H0 a = some o → Zof σ0 env0 a
  nz : ∀ a ∈ ns, ¬ B.z a
  nf : ∀ a ∈ ns, ¬ Zof σ e a
def PostX (B : Bd) (W : WX) (σ : St) (env : Env') (H : Hp) (r : R (List AX)) (k : List V → Hp → Prop) : Prop := match r with
  | .ok as e => ∀ vs ns H', Fresh B σ env H σ e ns → Rel (B.addL ns) σ e H' → Ext σ env H σ e H' → ArgsX B.K B.mg H' (Zall (B.addL ns).z σ e) as vs ns → k vs H'
  | .exc c fs e => ∀ cls od H', Rel B σ e H' → Ext σ env H σ e H' → ExcAt B.K B.mg H' (Zall B.z σ e) c fs cls od → W cls od σ H'
  | .bad => False
def liftX (B : Bd) (W : WX) (m : M (List AX)) : TA := fun σ H Q => ∃ env, Rel B σ env H ∧ PostX B W σ env H (m env) Q
abbrev MX (X : Cx) (G : Gd) (es : List Expr) (m : M (List AX)) : Prop := PA X es (liftX (bd X G) G.W m)
def xNil : M (List AX) := fun env => .ok [] env
def xVal (m : M D) (n : M (List AX)) : M (List AX) := fun env => (m env).bind fun d env => (n env).bind fun as env => .ok (.v d :: as) env
def R.noxc {α : Type} : R α → R α
  | .exc _ _ _ => .bad
  | r => r
/-- behind a new object nothing is raised -/
def xNew (m : M Cell) (n : M (List AX)) : M (List AX) := fun env => (m env).bind fun c env => (n env).noxc.bind fun as env => .ok (.n c :: as) env
theorem addL_nil {B : Bd} : B.addL [] = B := by
  unfold Bd.addL
  simp
theorem addL_cons {B : Bd} {p : Addr} {ns : List Addr} : (B.add p).addL ns = B.addL (p :: ns) := by
  unfold Bd.addL Bd.add
  simp only [List.mem_cons]
  congr 1
  funext b
  exact propext ⟨fun h => by rcases h with (h | h) | h; exact .inl h; exact .inr (.inl h); exact .inr (.inr h), fun h => by rcases h with h | h | h; exact .inl (.inl h); exact .inl (.inr h); exact .inr h⟩
theorem PostX.seq {B : Bd} {W : WX} {σ : St} {env : Env'} {H : Hp} {α : Type} {r : R α} {f : α → Env' → R (List AX)} {k : List V → Hp → Prop} (h : PostX B W σ env H (r.bind f) k) : Post B W σ env H r fun x env1 H1 => PostX B W σ env H (f x env1) k := by
  cases r with
  | ok a e => exact fun H' rel ext => h
  | exc c fs e => exact h
  | bad => exact h
section
variable {X : Cx} {G : Gd} {e a b c : Expr} {es : List Expr} {pos p : Pos}
theorem mx_nil : MX X G [] xNil := PAimp pa_nil fun σ H Q ⟨env, rel, post⟩ => post [] [] H ⟨fun _ h => (by cases h), fun _ h => (by cases h), fun _ h => (by cases h)⟩ (by rw [addL_nil]; exact rel) Ext.refl .nil
/-- from one state to a later one with new objects apart -/
theorem gr_new {B : Bd} {σ : St} {env1 e : Env'} {H1 H2 : Hp} {ns : List Addr} (x : Ext σ env1 H1 σ e H2) (fr : ∀ a ∈ ns, ∀ o, H1 a = some o → Zof σ env1 a) : Gr H1 (Zall B.z σ env1) H2 (Zall (B.addL ns).z σ e) := fun a o h n => by
  obtain ⟨h1, h2⟩ := (Gr.all (z := B.z) x) a o h n
  refine ⟨h1, fun m q => ?_⟩
  rcases q with (q | q) | q
  · exact h2 m (.inl q)
  · exact m (.inr (fr a q o h))
  · exact h2 m (.inr q)
theorem fresh_step {σ0 σ : St} {env0 env1 : Env'} {H0 H1 : Hp} (x : Ext σ0 env0 H0 σ env1 H1) {a : Addr} (fr : ∀ o, H1 a = some o → Zof σ env1 a) : ∀ o, H0 a = some o → Zof σ0 env0 a := fun o h => Classical.byContradiction fun n => by
  obtain ⟨h1, h2⟩ := x a o h (.inl n)
  exact h2 n (fr o h1)
theorem mx_val {m : M D} {n : M (List AX)} (h : ME X G e m) (hr : MX X G es n) (hs : starEach (e :: es) X.env = (false, eval e X.env) :: starEach es X.env := by rfl) : MX X G (e :: es) (xVal m n) :=
  PAimp (pa_cons h hr hs) fun σ H Q ⟨env, rel, post⟩ => ⟨env, rel, (PostX.seq post).imp fun d env1 H1 rel1 x1 q1 v hv => ⟨env1, rel1, by
    cases en : n env1 with
    | bad => rw [en] at q1; exact False.elim q1
    | exc c fs e2 => rw [en] at q1; exact fun cls od H' r x hx => q1 cls od H' r (x1.trans x) hx
    | ok as e2 =>
      rw [en] at q1
      exact fun vs ns H' fr r x ha => q1 (v :: vs) ns H' ⟨fun a h => fresh_step x1 (fr.fr a h), fr.nz, fr.nf⟩ r (x1.trans x) (.v (Rep.mono (gr_new x fr.fr) hv) ha)⟩⟩
theorem mx_new {m : M Cell} {n : M (List AX)} (h : MF X G e m) (hr : ∀ z, MX X ⟨z, G.p, wNo, G.kp, G.ex⟩ es n) (hs : starEach (e :: es) X.env = (false, eval e X.env) :: starEach es X.env := by rfl) : MX X G (e :: es) (xNew m n) := by
  have hr' : PA X es (fun σ H Q => ∃ z, liftX ⟨X.K, mw X G, z, G.p, G.kp⟩ wNo n σ H Q) := ⟨fun w pins s σ H Q I ⟨z, q⟩ => (hr z).run w pins s σ H Q I q⟩
  refine PAimp (pa_cons h hr' hs) fun σ H Q ⟨env, rel, post⟩ => ⟨env, rel, ?_⟩
  have post : PostX (bd X G) G.W σ env H ((m env).bind fun c env => (n env).noxc.bind fun as env => .ok (.n c :: as) env) Q := post
  cases em : m env with
  | bad => rw [em] at post; exact False.elim post
  | exc c fs e2 => rw [em] at post; exact post
  | ok c env1 =>
    rw [em] at post
    intro p H1 frp rel1 nz nf x1 ca
    have post : PostX (bd X G) G.W σ env H ((n env1).noxc.bind fun as env => .ok (.n c :: as) env) Q := post
    refine ⟨_, env1, rel1, ?_⟩
    cases en : n env1 with
    | bad => rw [en] at post; exact False.elim post
    | exc c2 fs e2 => rw [en] at post; exact False.elim post
    | ok as e2 =>
      rw [en] at post
      intro vs ns H' fr r x ha
      have r : Rel (((bd X G).add p).addL ns) σ e2 H' := r
      have ha : ArgsX X.K (mw X G) H' (Zall (((bd X G).add p).addL ns).z σ e2) as vs ns := ha
      rw [addL_cons] at r ha
      have hp : p ∉ ns := fun h => fr.nz p h (.inr rfl)
      have ca2 : CellAt X.K (mw X G) H' (Zall ((bd X G).addL (p :: ns)).z σ e2) p c := by
        have g := gr_new (B := (bd X G).add p) x fr.fr
        rw [addL_cons] at g
        exact ca.mono g fun o h => (x p o h (.inl nf)).1
      refine post (.ref p :: vs) (p :: ns) H' ⟨fun a h => ?_, fun a h => ?_, fun a h => ?_⟩ r (x1.trans x) (.n ca2 hp ha)
      · rcases List.mem_cons.mp h with rfl | h
        · exact frp
        · exact fresh_step x1 (fr.fr a h)
      · rcases List.mem_cons.mp h with rfl | h
        · exact nz
        · exact fun z => fr.nz a h (.inl z)
      · rcases List.mem_cons.mp h with rfl | h
        · obtain ⟨o, ho, _⟩ := ca.there
          exact fun z => (x a o ho (.inl nf)).2 nf z
        · exact fr.nf a h
/-! the stores -/
def stX : List Nat → List AX → Env' → Option Env'
  | [], [], e => some e
  | i :: is, .v d :: as, e => stX is as (e.set i (.val d))
  | i :: is, .n c :: as, e => if i < e.length then stX is as (e.set i (.cel true c)) else none
  | _, _, _ => none
def setsV : List Nat → List V → St → St
  | i :: is, v :: vs, σ => setsV is vs (σ.set i (some v))
  | _, _, σ => σ
theorem stX_rel {B : Bd} {σ0 : St} {env0 : Env'} {H0 H : Hp} (hp : ∀ i a, B.p i = some a → B.z a) : ∀ {is : List Nat} {as : List AX} {vs : List V} {ns : List Addr} {σ : St} {e e' : Env'}, Rel (B.addL ns) σ e H → ArgsX B.K B.mg H (Zall (B.addL ns).z σ e) as vs ns → Fresh B σ0 env0 H0 σ e ns →
    Ext σ0 env0 H0 σ e H → stX is as e = some e' → Rel B (setsV is vs σ) e' H ∧ Ext σ0 env0 H0 (setsV is vs σ) e' H ∧ vs.length = is.length
  | [], _, _, _, σ, e, e', r, .nil, fr, x, h => by
    cases h
    rw [addL_nil] at r
    exact ⟨r, x, rfl⟩
  | [], _, _, _, _, _, _, _, .v _ _, _, _, h => by cases h
  | [], _, _, _, _, _, _, _, .n _ _ _, _, _, h => by cases h
  | _ :: _, _, _, _, _, _, _, _, .nil, _, _, h => by cases h
  | i :: is, _, _, ns, σ, e, e', r, .v (d := d) (v := v) rd t, fr, x, h => by
    have h : stX is _ (e.set i (.val d)) = some e' := h
    have r2 := r.setVal i rd
    have x2 : Ext σ e H (σ.set i (some v)) (e.set i (.val d)) H := Ext.setVal i
    have sub : ∀ a, Zof (σ.set i (some v)) (e.set i (.val d)) a → Zof σ e a := fun a h => h.unset fun _ _ z => by cases z
    obtain ⟨q1, q2, q3⟩ := stX_rel hp r2 (t.mono (Gr.all x2) fun _ _ _ e => e) ⟨fr.fr, fr.nz, fun a h z => fr.nf a h (sub a z)⟩ (x.trans x2) h
    exact ⟨q1, q2, by rw [List.length_cons, List.length_cons, q3]⟩
  | i :: is, .n c :: as, .ref _ :: vs, p :: ns, σ, e, e', r, .n ca hn t, fr, x, h => by
    have h : (if i < e.length then stX is as (e.set i (.cel true c)) else none) = some e' := h
    split at h
    · rename_i hi
      have eB : B.addL (p :: ns) = (B.addL ns).add p := by
        unfold Bd.addL Bd.add
        simp only [List.mem_cons]
        congr 1
        funext b
        exact propext ⟨fun h => by rcases h with h | h | h; exact .inl (.inl h); exact .inr h; exact .inl (.inr h), fun h => by rcases h with (h | h) | h; exact .inl h; exact .inr (.inr h); exact .inr (.inl h)⟩
      rw [eB] at r ca t
      have nf := fr.nf p List.mem_cons_self
      have nz : ¬ (B.addL ns).z p := fun z => by
        rcases z with z | z
        · exact fr.nz p List.mem_cons_self z
        · exact hn z
      obtain ⟨r2, g2⟩ := Rel.setNew (B := B.addL ns) (fun i a e => Or.inl (hp i a e)) r nz nf i hi ca
      have his : i < σ.length := by rw [← r.len]; exact hi
      have zz : ∀ a, Zof (σ.set i (some (.ref p))) (e.set i (.cel true c)) a → Zof σ e a ∨ a = p := fun a q => by
        obtain ⟨j, u, k, e1, e2⟩ := q
        rcases set_get e1 with ⟨rfl, _, _⟩ | ⟨ne, e1⟩
        · rw [List.getElem?_set_self his] at e2
          injection e2 with e2; injection e2 with e2; injection e2 with e2
          exact .inr e2.symm
        · rw [get_set_ne ne] at e2
          exact .inl ⟨j, u, k, e1, e2⟩
      have x2 : Ext σ0 env0 H0 (σ.set i (some (.ref p))) (e.set i (.cel true c)) H := fun a o h n => by
        obtain ⟨h1, h2⟩ := x a o h n
        refine ⟨h1, fun m q => ?_⟩
        rcases zz a q with q | q
        · exact h2 m q
        · subst q; exact m (fr.fr a List.mem_cons_self o h)
      obtain ⟨q1, q2, q3⟩ := stX_rel hp r2 (t.mono g2 fun _ _ _ e => e) ⟨fun a h => fr.fr a (List.mem_cons_of_mem _ h), fun a h => fr.nz a (List.mem_cons_of_mem _ h), fun a h z => by
        rcases zz a z with z | z
        · exact fr.nf a (List.mem_cons_of_mem _ h) z
        · subst z; exact hn h⟩ x2 h
      exact ⟨q1, q2, by rw [List.length_cons, List.length_cons, q3]⟩
    · cases h
def mParX (is : List Nat) (m : M (List AX)) : MS := fun env => (m env).so fun as env => So.optE (stX is as env)
theorem parX_lift {B : Bd} {W : WX} {is : List Nat} {m : M (List AX)} {Dn : Ends} {σ : St} {H : Hp} (h : liftS B W (mParX is m) Dn σ H) : liftX B W m σ H fun vs H1 => vs.length = is.length ∧ Dn.nx (setsV is vs σ) H1 ∧ ∀ H', Grow H1 H' → Dn.nx (setsV is vs σ) H' := by
  obtain ⟨env, rel, post⟩ := h
  refine ⟨env, rel, ?_⟩
  have post : PostS B W σ env H ((m env).so fun as env => So.optE (stX is as env)) Dn := post
  cases em : m env with
  | bad => rw [em] at post; exact False.elim post
  | exc c fs e => rw [em] at post; exact fun cls od H' r x q => post cls od σ H' r x q
  | ok as e =>
    rw [em] at post
    have post : PostS B W σ env H (So.optE (stX is as e)) Dn := post
    cases es : stX is as e with
    | none => rw [es] at post; exact False.elim post
    | some e' =>
      rw [es] at post
      intro vs ns H' fr r x ha
      obtain ⟨q1, q2, q3⟩ := stX_rel rel.pz r ha fr x es
      exact ⟨q3, post _ H' q1 q2, fun H2 g => post _ H2 (q1.grow g) (q2.trans g.ext)⟩
theorem mst_par2 {i j : Nat} {x y : Str} {px py pt : Pos} {kt k2 pt2} {m : M (List AX)} (hc : X.calm = true) (hN : X.N.Nodup) (hi : X.N[i]? = some x) (hj : X.N[j]? = some y) (hij : i ≠ j)
    (hx : X.env.scope.names.lookup x = some .local) (hy : X.env.scope.names.lookup y = some .local) (ha : MX X G [a, b] m)
    (hw : swappedStores [.Tuple [.Name x px, .Name y py] kt pt] (.Tuple [a, b] k2 pt2) X.env = pure (some [x, y]))
    (hs : swapsWithSole [.Tuple [.Name x px, .Name y py] kt pt] (.Tuple [a, b] k2 pt2) pos.line X.env = pure false := by rfl) :
    MSt X G (.Assign [.Tuple [.Name x px, .Name y py] kt pt] (.Tuple [a, b] k2 pt2) pos) (mParX [i, j] m) :=
  PSimp (ps_par hc hN hi hj hij hx hy ha hw hs) fun Dn σ H h => by
    obtain ⟨env, rel, post⟩ := parX_lift h
    refine ⟨env, rel, ?_⟩
    have mono : ∀ {r : R (List AX)} {k k' : List V → Hp → Prop}, PostX (bd X G) G.W σ env H r k → (∀ vs H', k vs H' → k' vs H') → PostX (bd X G) G.W σ env H r k' := fun {r k k'} h i => by
      cases r with
      | ok as e => exact fun vs ns H' a b c d => i _ _ (h vs ns H' a b c d)
      | exc c fs e => exact h
      | bad => exact h
    refine mono post fun vs H' ⟨hl, q, _⟩ => ?_
    match vs, hl, q with
    | [v, w], _, q => exact ⟨v, w, rfl, q⟩
theorem mst_par3 {i j l : Nat} {x y z : Str} {px py pz pt : Pos} {kt k2 pt2} {m : M (List AX)} (hc : X.calm = true) (hN : X.N.Nodup) (hi : X.N[i]? = some x) (hj : X.N[j]? = some y) (hl : X.N[l]? = some z) (hij : i ≠ j) (hil : i ≠ l) (hjl : j ≠ l)
    (hx : X.env.scope.names.lookup x = some .local) (hy : X.env.scope.names.lookup y = some .local) (hz : X.env.scope.names.lookup z = some .local) (ha : MX X G [a, b, c] m)
    (hw : swappedStores [.Tuple [.Name x px, .Name y py, .Name z pz] kt pt] (.Tuple [a, b, c] k2 pt2) X.env = pure (some [x, y, z]))
    (hs : swapsWithSole [.Tuple [.Name x px, .Name y py, .Name z pz] kt pt] (.Tuple [a, b, c] k2 pt2) pos.line X.env = pure false := by rfl) :
    MSt X G (.Assign [.Tuple [.Name x px, .Name y py, .Name z pz] kt pt] (.Tuple [a, b, c] k2 pt2) pos) (mParX [i, j, l] m) :=
  PSimp (ps_par3 hc hN hi hj hl hij hil hjl hx hy hz ha hw hs) fun Dn σ H h => by
    obtain ⟨env, rel, post⟩ := parX_lift h
    refine ⟨env, rel, ?_⟩
    have mono : ∀ {r : R (List AX)} {k k' : List V → Hp → Prop}, PostX (bd X G) G.W σ env H r k → (∀ vs H', k vs H' → k' vs H') → PostX (bd X G) G.W σ env H r k' := fun {r k k'} h i => by
      cases r with
      | ok as e => exact fun vs ns H' a b c d => i _ _ (h vs ns H' a b c d)
      | exc c fs e => exact h
      | bad => exact h
    refine mono post fun vs H' ⟨hl, q, _⟩ => ?_
    match vs, hl, q with
    | [u, v, w], _, q => exact ⟨u, v, w, rfl, q⟩
/-! through a tuple -/
def gSets : List Nat → TGs := fun is vs σ H Q => vs.length = is.length ∧ Q (setsV is vs σ) H
theorem pgs_sets_nil : PGs X [] (gSets []) := ⟨fun pins s σ H v u Q I r q => pgs_nil.run pins s σ H v u Q I r (by
  obtain ⟨h1, h2⟩ := q
  exact ⟨List.length_eq_zero_iff.mp h1, by cases v with | nil => exact h2 | cons _ _ => cases h1⟩)⟩
theorem pgs_sets_cons {i : Nat} {is : List Nat} (h : PG X e (gName i)) (hr : PGs X es (gSets is)) (hs : (assignEach (e :: es) X.env).map (·.2) = assign e X.env :: (assignEach es X.env).map (·.2) := by rfl) : PGs X (e :: es) (gSets (i :: is)) :=
  ⟨fun pins s σ H v u Q I r q => (pgs_cons h hr hs).run pins s σ H v u Q I r (by
    obtain ⟨h1, h2⟩ := q
    cases v with
    | nil => cases h1
    | cons x xs => exact ⟨x, xs, rfl, by simpa using h1, h2⟩)⟩
theorem mst_parT {es tgs : List Expr} {is : List Nat} {k k2 : Nat} {tpos pt2 : Pos} {m : M (List AX)} (hc : X.calm = true) (ha : MX X G es m) (hg : PGs X tgs (gSets is)) (hn : (assignEach tgs X.env).length = is.length := by rfl) (hst : (assignEach tgs X.env).findIdx? (·.1) = none := by rfl)
    (hs : swapsWithSole [.Tuple tgs k tpos] (.Tuple es k2 pt2) pos.line X.env = pure false := by rfl) (hw : swappedStores [.Tuple tgs k tpos] (.Tuple es k2 pt2) X.env = pure none := by rfl) (h1 : (assignEach [.Tuple tgs k tpos] X.env).map (·.2) = [assign (.Tuple tgs k tpos) X.env] := by rfl)
    (hz : is.length ≤ 1000 := by decide) : MSt X G (.Assign [.Tuple tgs k tpos] (.Tuple es k2 pt2) pos) (mParX is m) :=
  PSimp (ps_asg (pe_tupX ha) (pg_tup hc hg hn hst) hs hw h1) fun Dn σ H h => by
    obtain ⟨env, rel, post⟩ := parX_lift h
    refine ⟨env, rel, ?_⟩
    have mono : ∀ {r : R (List AX)} {k k' : List V → Hp → Prop}, PostX (bd X G) G.W σ env H r k → (∀ vs H', k vs H' → k' vs H') → PostX (bd X G) G.W σ env H r k' := fun {r k k'} h i => by
      cases r with
      | ok as e => exact fun vs ns H' a b c d => i _ _ (h vs ns H' a b c d)
      | exc c fs e => exact h
      | bad => exact h
    refine mono post fun vs H' ⟨hl, q, qg⟩ => ⟨by rw [hl, sizeLine_eq]; omega, fun p ob hob hp => ⟨p, vs, rfl, .inl (.inr ⟨ob, upd_same⟩), hl, hl, qg _ (Grow.upd hp)⟩⟩
end
end Mi
namespace Mi
open PySem PySem.Spec L2
open PyProof.Rows hiding St

/-! ### dict(pairs) -/
def pairsD : List D → Option (List (Key × D))
  | [] => some []
  | .tup [k, v] :: r => match keyOf k, pairsD r with
    | some j, some s => some ((j, v) :: s)
    | _, _ => none
  | _ :: _ => none
def mergeD (acc : List (D × D)) (kvs : List (Key × D)) : List (D × D) := kvs.foldl (fun acc kv => putD acc kv.1 kv.2) acc
def fDict : List D → Option Cell
  | [.lst ds] => (pairsD ds).map fun kvs => .dct (mergeD [] kvs)
  | [.tup ds] => (pairsD ds).map fun kvs => .dct (mergeD [] kvs)
  | _ => none
section
variable {X : Cx} {G : Gd} {e a b c : Expr} {es : List Expr} {pos p : Pos}
inductive PairsV (K : PySem.W.Frag) (mg : Mw) (H : Hp) (Z : Addr → Prop) : List (Key × D) → List Addr → List (Key × V) → Prop
  | nil : PairsV K mg H Z [] [] []
  | cons {k : Key} {d : D} {v : V} {p : Addr} {r ps s} : SqT K H p [kV k, v] → Rep K mg H Z d v → PairsV K mg H Z r ps s → PairsV K mg H Z ((k, d) :: r) (p :: ps) ((k, v) :: s)
theorem pairs_rep {K : PySem.W.Frag} {mg : Mw} {H : Hp} {Z : Addr → Prop} : ∀ {ds : List D} {vs : List V} {kvs : List (Key × D)}, Reps K mg H Z ds vs → pairsD ds = some kvs → ∃ ps s, vs = ps.map V.ref ∧ PairsV K mg H Z kvs ps s
  | _, _, kvs, .nil, e => by cases e; exact ⟨[], [], rfl, .nil⟩
  | _, _, kvs, .cons (d := d) (ds := ds) h t, e => by
    unfold pairsD at e
    split at e
    · rename_i heq; cases heq
    · rename_i k v r heq
      cases heq
      split at e
      · rename_i j s e1 e2
        cases e
        cases h with
        | @tup a _ vs hs hr =>
          cases hr with
          | cons h1 hr =>
            cases hr with
            | cons h2 hr =>
              cases hr
              obtain ⟨ek, _⟩ := keyOf_rep (.val h1) e1
              subst ek
              obtain ⟨ps, s', e3, q⟩ := pairs_rep t e2
              exact ⟨a :: ps, (j, _) :: s', by rw [e3]; rfl, .cons hs.sq h2 q⟩
      · cases e
    · cases e
theorem PairsV.paired {K : PySem.W.Frag} {mg : Mw} {H : Hp} {Z : Addr → Prop} {kvs ps s} (h : PairsV K mg H Z kvs ps s) : Paired (fun p (kv : Key × V) => SqT K H p [kV kv.1, kv.2]) ps s := by
  induction h with
  | nil => exact .nil
  | cons h1 h2 t ih => exact .cons h1 ih
theorem PairsV.merge {K : PySem.W.Frag} {mg : Mw} {H : Hp} {Z : Addr → Prop} {kvs ps s} (h : PairsV K mg H Z kvs ps s) : ∀ {acc avs}, RepKs K mg H Z acc avs → RepKs K mg H Z (mergeD acc kvs) (mergeK avs s) := by
  induction h with
  | nil => exact fun r => r
  | @cons k d v p r ps s h1 h2 t ih => exact fun r => ih (r.put k h2)
theorem PairsV.length {K : PySem.W.Frag} {mg : Mw} {H : Hp} {Z : Addr → Prop} {kvs ps s} (h : PairsV K mg H Z kvs ps s) : s.length = ps.length := by
  induction h with
  | nil => rfl
  | cons h1 h2 t ih => simp [ih]
theorem call_dictT (hcalm : X.calm = true) : CallR X (.type "dict") (fun xs H Q => ∃ (a : Addr) (ps : List Addr) (kvs : List (Key × V)), xs = [.ref a] ∧ XT X.K H a (ps.map V.ref) ∧ Paired (fun p kv => SqT X.K H p [kV kv.1, kv.2]) ps kvs ∧
    ∀ p, H p = none → Q (.ref p) (upd H p (.dK (mergeK [] kvs)))) := by
  intro pins s σ H xs us Q I r q
  obtain ⟨a, ps, kvs, ex, hq, hp, q⟩ := q
  subst ex
  obtain ⟨u, eu, rx⟩ := vals1 r
  subst eu
  cases rx
  obtain ⟨its, rv, pl, hz⟩ := I.tuple hq.sq
  have ei := refs_at rv
  subst ei
  rw [List.length_map] at hz
  obtain ⟨prs, rel, hl, hpr⟩ := pairs_of I hp
  obtain ⟨o, ho, hc, n, hdat⟩ := pl
  have hd : o.dict = none := by
    rcases hq with ⟨ob, hob, hH⟩ | ⟨o', its', n', h1, h2, h3, _⟩
    · obtain ⟨e1, _⟩ := I.hok a _ hH
      rw [ho] at e1
      cases e1
      exact hob
    · have e1 := I.kIn a o' h1
      rw [ho] at e1
      cases e1
      exact h3
  have fin : ∀ h' tk, h'.DictOf (mixKind X.prog X.w) s.heap.objs.size (merged [] prs) → (∀ b o, s.heap.get? b = some o → h'.get? b = some o) → EP X pins σ Q (.ref s.heap.objs.size) { s with heap := h', toks := tk } := fun h' tk hd' k => by
    have hm : (s.heap.objs.size == sysModules) = false := beq_eq_false_iff_ne.mpr (Nat.ne_of_gt I.big)
    have hlen : (mergeK [] kvs).length ≤ sizeLine := by
      refine Nat.le_trans (length_mergeK kvs []) ?_
      rw [List.length_nil, Nat.zero_add, rel.length, hl]
      exact hz
    exact ⟨.ref s.heap.objs.size, upd H s.heap.objs.size (.dK (mergeK [] kvs)), I.laid (t' := tk) k (Nat.le_refl _) (show ObjOk X.prog X.w _ _ _ (.dK (mergeK [] kvs)) from ⟨hlen, hm, merged [] prs, KV.merge rel .nil, hd'⟩), rfl, q _ (I.hok.fresh (Nat.le_refl _))⟩
  -- the pairs by their values
  have key : ∀ (j : Nat) (q : Key × Value), prs[j]? = some q → ∃ (b : Addr) (u : Value), ps[j]? = some b ∧ IsTup s.heap b #[u, q.2] ∧ keyIs q.1 u = true := hpr
  have hks : ∃ ks : List Value, ks.length = prs.length ∧ ∀ (j : Nat) (q : Key × Value), prs[j]? = some q → ∃ (b : Addr) (u : Value), ks[j]? = some u ∧ ps[j]? = some b ∧ IsTup s.heap b #[u, q.2] ∧ keyIs q.1 u = true := by
    have all : ∀ j : Nat, ∃ u : Value, ∀ q, prs[j]? = some q → ∃ b, ps[j]? = some b ∧ IsTup s.heap b #[u, q.2] ∧ keyIs q.1 u = true := fun j => by
      cases e : prs[j]? with
      | none => exact ⟨.none, fun q h => by cases h⟩
      | some q =>
        obtain ⟨b, u, h1, h2, h3⟩ := key j q e
        exact ⟨u, fun q' h => by cases h; exact ⟨b, h1, h2, h3⟩⟩
    let f : Nat → Value := fun j => (all j).choose
    have hf : ∀ j q, prs[j]? = some q → ∃ b, ps[j]? = some b ∧ IsTup s.heap b #[f j, q.2] ∧ keyIs q.1 (f j) = true := fun j => (all j).choose_spec
    refine ⟨(List.range prs.length).map f, by simp, fun j q e => ?_⟩
    obtain ⟨b, h1, h2, h3⟩ := hf j q e
    have hj : j < prs.length := (List.getElem?_eq_some_iff.mp e).1
    exact ⟨b, f j, by simp [hj], h1, h2, h3⟩
  obtain ⟨ks, hkl, hkk⟩ := hks
  have P := PySem.PairArg.tuple (prog := X.prog) (w := X.w) a (ps.map Value.ref).toArray (fun j => ps.getD j 0) (ks.zip (prs.map (·.2)))
  refine PySem.call_dict_pairs (knd := mixKind X.prog X.w) (kvs := prs) P (I.ok.hd hcalm) ⟨⟨o, n, ho, hc, hd, hdat⟩, ?_⟩ ⟨?_, ?_⟩ ?_ fun h' tk hd' k => fin h' tk hd' fun b o e => k b o (by simp) e
  · refine ⟨by simp [hkl, hl], fun j k v hj => ?_⟩
    rw [List.getElem?_zip_eq_some] at hj
    obtain ⟨h1, h2⟩ := hj
    rw [List.getElem?_map] at h2
    cases e : prs[j]? with
    | none => rw [e] at h2; cases h2
    | some q =>
      rw [e] at h2
      cases h2
      obtain ⟨b, u, g1, g2, g3, _⟩ := hkk j q e
      rw [g1] at h1
      cases h1
      have : ps.getD j 0 = b := by rw [List.getD_eq_getElem?_getD, g2]; rfl
      show (List.map Value.ref ps).toArray[j]? = some (Value.ref (ps.getD j 0)) ∧ PairAt s.heap (ps.getD j 0) k q.2
      rw [this]
      obtain ⟨o3, ho3, hc3, n3, hd3⟩ := g3
      exact ⟨by simp [g2], .inl ⟨o3, ho3, hc3, n3, hd3⟩⟩
  · simp [hkl]
  · intro i k v hj
    have hj : (ks.zip (prs.map (·.2)))[i]? = some (k, v) := hj
    rw [List.getElem?_zip_eq_some] at hj
    obtain ⟨h1, h2⟩ := hj
    rw [List.getElem?_map] at h2
    cases e : prs[i]? with
    | none => rw [e] at h2; cases h2
    | some q =>
      rw [e] at h2
      cases h2
      obtain ⟨b, u, g1, g2, g3, g4⟩ := hkk i q e
      rw [g1] at h1
      cases h1
      exact ⟨q.1, rfl, g4⟩
  · simp [hkl, hl]; exact hz
theorem cr_dict (hcalm : X.calm = true) : CallR X (.type "dict") (rNs X.K (mw X G) fDict) := by
  intro pins s σ H xs us Q I r h
  obtain ⟨Z, ds, lv, hd, c, hf, k⟩ := h
  unfold fDict at hf
  split at hf
  · rename_i es
    cases ek : pairsD es with
    | none => rw [ek] at hf; cases hf
    | some kvs =>
      rw [ek] at hf
      cases hf
      obtain ⟨x, rfl, hx⟩ := hd.one
      obtain ⟨a, vs, rfl, h1, r1⟩ := hx.lst'
      obtain ⟨ps, s', rfl, q⟩ := pairs_rep r1 ek
      exact call_dictP hcalm pins s σ H _ us Q I r ⟨a, ps, s', rfl, h1, q.paired, fun p hp => k.dct (q.merge .nil) hp⟩
  · rename_i es
    cases ek : pairsD es with
    | none => rw [ek] at hf; cases hf
    | some kvs =>
      rw [ek] at hf
      cases hf
      obtain ⟨x, rfl, hx⟩ := hd.one
      obtain ⟨a, vs, rfl, h1, r1⟩ := hx.tup'
      obtain ⟨ps, s', rfl, q⟩ := pairs_rep r1 ek
      exact call_dictT hcalm pins s σ H _ us Q I r ⟨a, ps, s', rfl, h1, q.paired, fun p hp => k.dct (q.merge .nil) hp⟩
  · cases hf
end
end Mi
/-! slices backwards, of tuples (after HandS.List's getItem_tuple_cut) -/
namespace Mi
open PySem PySem.Spec L2 HT
open PyProof.Rows hiding St
/-- where a slice by -1 begins, and how many places it has -/
def revAt (n : Nat) (lo hi : Option Int) : Int × Nat := ((Builtin.Slice.sliceAdjust lo hi (-1) (n : Int)).1, Builtin.Slice.slicePlaces (Builtin.Slice.sliceAdjust lo hi (-1) (n : Int)).1 (Builtin.Slice.sliceAdjust lo hi (-1) (n : Int)).2 (-1))
def pickR {α : Type} (xs : List α) (lo hi : Option Int) : List α := (List.range (revAt xs.length lo hi).2).filterMap fun (m : Nat) => xs[((revAt xs.length lo hi).1 + (m : Int) * (-1)).toNat]?
section
variable {prog : Program} {w : World} {A : Around} {E : Value → Shared → Prop} {s : Shared}
theorem sliceApplied_rev {sl : Addr} {vl vu vs : Value} {lo hi : Option Int} {n : Nat} {Q : Int × Int × Nat → Shared → Prop} (hs : s.heap.IsSliceOf sl vl vu vs) (pl : IsPart vl lo) (pu : IsPart vu hi) (ps : IsPart vs (some (-1)))
    (h : Q ((revAt n lo hi).1, -1, (revAt n lo hi).2) s) : wpAny (model prog w) A (Builtin.Slice.sliceApplied (.ref sl) (pure (n : Int))) Q E s := by
  obtain ⟨os, hos, hcs, hds⟩ := id hs
  unfold Builtin.Slice.sliceApplied Builtin.Slice.sliceFields
  refine wpAny_bind (wpAny_bind (wpAny_field hos hds (x := vl) rfl (wpAny_bind (wpAny_field hos hds (x := vu) rfl (wpAny_bind (wpAny_field hos hds (x := vs) rfl (wpAny_pure ?_)))))))
  refine wpAny_bind (slicePart_ ps ?_)
  show wpAny _ _ (if ((-1 : Int) == 0) = true then _ else _) _ _ s
  rw [if_neg (by decide)]
  refine wpAny_bind (slicePart_ pl (wpAny_bind (slicePart_ pu (wpAny_bind (wpAny_pure ?_)))))
  show wpAny _ _ (match Builtin.Slice.sliceAdjust lo hi (-1) (n : Int) with | (lo, hi) => pure (lo, (-1 : Int), Builtin.Slice.slicePlaces lo hi (-1))) _ _ s
  show wpAny _ _ (pure ((revAt n lo hi).1, (-1 : Int), (revAt n lo hi).2)) _ _ s
  exact wpAny_pure h
theorem pickR_length {α : Type} (xs : List α) (lo hi : Option Int) : (pickR xs lo hi).length ≤ (revAt xs.length lo hi).2 := by
  unfold pickR
  refine Nat.le_trans (List.length_filterMap_le _ _) ?_
  simp
theorem getItem_tuple_rev {t sl : Addr} {items : List Value} {vl vu vs : Value} {lo hi : Option Int} {Q : Value → Shared → Prop} (ht : IsTup s.heap t items.toArray) (hs : s.heap.IsSliceOf sl vl vu vs) (pl : IsPart vl lo) (pu : IsPart vu hi) (ps : IsPart vs (some (-1)))
    (h : Q (.ref s.heap.objs.size) { s with heap := s.heap.push { cls := .type "tuple", data := .seq (pickR items lo hi).toArray } })
    (hsz : (pickR items lo hi).length ≤ sizeLine) : wpAny (model prog w) A (getItem (.ref t) (.ref sl)) Q E s := by
  have htake : sizeOk (.seq (pickR items lo hi).toArray) := by
    show (pickR items lo hi).toArray.size ≤ sizeLine
    rw [List.size_toArray]
    exact hsz
  obtain ⟨os, hos, hcs, hds⟩ := id hs
  have hTs : s.TypeIs (.ref sl) "slice" := ⟨os, hos, hcs⟩
  unfold getItem
  try with_reducible refine wpAny_holding ?_
  first | refine wpAny_bind (wpAny_pure ?_) | skip
  refine wpAny_bind (wpAny_sequenceKey ht.typeIs (by decide) ?_)
  refine wpAny_bind (wpAny_callSpecial?_slot (name := Str.ofString "__getitem__") ht.typeIs PyProof.Rows.slot_tuple_getitem
    (wpAny_call_entry PyProof.Rows.slot_tuple_getitem ht.typeIs entry_tuple_getitem ?_ (args_tuple_getitem _ _)))
  show wpAny _ _ (Builtin.Tuple.tupleItemsOf (.ref t) >>= _) _ _ s
  refine wpAny_bind (tupleItemsOf_ ht ?_)
  refine wpAny_bind (wpAny_typeOf hTs ?_)
  rw [if_pos (by decide)]
  refine wpAny_bind (sliceApplied_rev hs pl pu ps ?_)
  have hno : ¬ (((revAt items.toArray.size lo hi).1 == 0 && (-1 : Int) == 1 && (revAt items.toArray.size lo hi).2 == items.toArray.size) = true) := by
    intro q
    rw [Bool.and_eq_true, Bool.and_eq_true] at q
    exact absurd q.1.2 (by decide)
  show wpAny _ _ (if ((revAt items.toArray.size lo hi).1 == 0 && (-1 : Int) == 1 && (revAt items.toArray.size lo hi).2 == items.toArray.size) = true then _ else _) _ _ s
  rw [if_neg hno]
  have e : ((List.range (revAt items.toArray.size lo hi).2).filterMap fun (m : Nat) => items.toArray[((revAt items.toArray.size lo hi).1 + (m : Int) * (-1)).toNat]?).toArray = (pickR items lo hi).toArray := by
    unfold pickR
    simp
  rw [e]
  first
    | exact wpAny_bind (m := Builtin.Tuple.tupleExact _) (wpAny_newObj_type (wpAny_pure ⟨_, rfl, wpAny_pure h⟩) htake)
    | exact wpAny_bind (m := Builtin.Tuple.tupleExact _) (wpAny_newObj_type (wpAny_bind (wpAny_pure (wpAny_pure ⟨_, rfl, wpAny_pure h⟩))) htake)
    | exact wpAny_bind (wpAny_bind (m := Builtin.Tuple.tupleExact _) (wpAny_newObj_type (wpAny_pure (wpAny_pure ⟨_, rfl, wpAny_pure h⟩)) htake))
    | exact wpAny_bind (wpAny_bind (m := Builtin.Tuple.tupleExact _) (wpAny_newObj_type (wpAny_pure ⟨_, rfl, wpAny_pure h⟩) htake))
end
theorem Vals.pickR {xs : List V} {us : List Value} (lo hi : Option Int) (h : Vals xs us) : Vals (Mi.pickR xs lo hi) (Mi.pickR us lo hi) := by
  unfold Mi.pickR
  rw [h.length]
  generalize (revAt us.length lo hi) = q
  obtain ⟨a, n⟩ := q
  induction (List.range n) with
  | nil => exact .nil
  | cons m r ih =>
    rw [List.filterMap_cons, List.filterMap_cons]
    cases e : xs[(a + (m : Int) * (-1)).toNat]? with
    | none =>
      have : us[(a + (m : Int) * (-1)).toNat]? = none := by
        rw [List.getElem?_eq_none_iff] at e ⊢
        rw [← h.length]; exact e
      rw [this]
      exact ih
    | some x =>
      obtain ⟨u, hu, ru⟩ := h.get e
      rw [hu]
      exact .cons ru ih
theorem Reps.pickR {K : PySem.W.Frag} {mg : Mw} {H : Hp} {Z : Addr → Prop} {xs : List D} {us : List V} (lo hi : Option Int) (h : Reps K mg H Z xs us) : Reps K mg H Z (Mi.pickR xs lo hi) (Mi.pickR us lo hi) := by
  unfold Mi.pickR
  rw [h.length]
  generalize (revAt us.length lo hi) = q
  obtain ⟨a, n⟩ := q
  induction (List.range n) with
  | nil => exact .nil
  | cons m r ih =>
    rw [List.filterMap_cons, List.filterMap_cons]
    cases e : xs[(a + (m : Int) * (-1)).toNat]? with
    | none =>
      have : us[(a + (m : Int) * (-1)).toNat]? = none := by
        rw [List.getElem?_eq_none_iff] at e ⊢
        rw [← h.length]; exact e
      rw [this]
      exact ih
    | some x =>
      obtain ⟨u, hu, ru⟩ := h.get e
      rw [hu]
      exact .cons ru ih
def tRevX (K : PySem.W.Frag) (te : TE) (tl tu : TO) : TE := fun σ H Q => te σ H fun x H1 => tl σ H1 fun lo H2 => tu σ H2 fun hi H3 => ∃ a, x = .ref a ∧ ((∃ xs, SqL K H3 a xs ∧ lo = none ∧ hi = none ∧ ∀ p, H3 p = none → Q (.ref p) (upd H3 p (.lst xs.reverse))) ∨
  ∃ xs, SqT K H3 a xs ∧ (pickR xs lo hi).length ≤ sizeLine ∧ ∀ p (ob : Obj), ob.dict = none → H3 p = none → Q (.ref p) (upd H3 p (.frz ob (.tup (pickR xs lo hi)))))
theorem pe_revX {X : Cx} {e : Expr} {te : TE} {tl tu : TO} {lo hi : Option Expr} {k : Nat} {p1 p2 p3 pos : Pos} (he : PE X e te) (hl : PO X lo tl) (hu : PO X hi tu) : PE X (.Subscript e (.Slice lo hi (some (.UnaryOp .USub (.Constant (.int 1) k p1) p2)) p3) pos) (tRevX X.K te tl tu) := by
  refine ⟨fun pins s σ H Q I h => ?_⟩
  refine Subscript_ (thn (he.run pins s σ H _ I h) fun v s1 ⟨x, H1, I1, r1, q1⟩ => ?_)
  have hst : PO X (some (.UnaryOp .USub (.Constant (.int 1) k p1) p2)) (tPart (tUn (rU fun i => .int (-i)) (tC (.int 1)))) := po_some (pe_un un_neg pe_int)
  refine wpAny_Slice (thn (hl.run pins s1 σ H1 _ I1 q1) fun vl s2 ⟨l, H2, I2, pl, q2⟩ => ?_)
  refine thn (hu.run pins s2 σ H2 _ I2 q2) fun vu s3 ⟨u, H3, I3, pu, q3⟩ => ?_
  refine thn (hst.run pins s3 σ H3 (fun o H4 => o = some (-1) ∧ H4 = H3) I3 ⟨1, rfl, -1, rfl, rfl, rfl⟩) fun vs s4 ⟨o, H4, I4, ps, eo, e4⟩ => ?_
  subst eo e4
  have I5 : Inv X pins σ H4 { s4 with heap := s4.heap.push { cls := .type "slice", data := .fields #[vl, vu, vs] } } := I4.kept (t' := s4.toks) fun b ob q => Heap.get?_push_of_some _ q
  obtain ⟨a, ex, q⟩ := q3
  subst ex
  cases r1
  show wpAny (model X.prog X.w) X.A (subscriptTail e (.Slice lo hi (some (.UnaryOp .USub (.Constant (.int 1) k p1) p2)) p3) (.ref a) (.ref s4.heap.objs.size)) (EP X pins σ Q) X.xe { s4 with heap := s4.heap.push { cls := .type "slice", data := .fields #[vl, vu, vs] } }
  rcases q with ⟨xs, hx, rfl, rfl, q⟩ | ⟨xs, hx, hz, q⟩
  · obtain ⟨its, r, ht, hz⟩ := I5.list hx
    have hlen := r.length
    refine tail_any (ops := [.ref a, .ref s4.heap.objs.size]) ht.isList.typeIs (PySem.slot_list_getitem.lookup) ?_ (by with_unfolding_all rfl)
    refine wpAny_getItem_list_slice ht.isList (Heap.IsSliceOf.new _ vl vu vs) pl pu ps (by decide) ?_ (by rw [List.size_toArray]; omega)
    rw [PySem.W.krv_pick]
    refine ⟨.ref _, _, I5.laid (t' := s4.toks) (o := .lst xs.reverse) (fun b ob q => Heap.get?_push_of_some _ q) (Nat.le_refl _) ?_, rfl, q _ (I5.hok.fresh (Nat.le_refl _))⟩
    exact ⟨by rw [List.length_reverse]; exact hz, _, 0, r.reverse, Heap.get?_push_size _ rfl⟩
  · obtain ⟨its, r, ht, _⟩ := I5.tuple hx
    refine tail_any (ops := [.ref a, .ref s4.heap.objs.size]) ht.typeIs (PyProof.Rows.slot_tuple_getitem.lookup) ?_ (by with_unfolding_all rfl)
    have rp := Vals.pickR l u r
    obtain ⟨ob, hob, I6, hf⟩ := tup_new (t' := s4.toks) I5 rp hz
    exact getItem_tuple_rev ht (Heap.IsSliceOf.new _ vl vu vs) pl pu ps ⟨.ref _, _, I6, rfl, q _ ob hob hf⟩ (by rw [← rp.length]; exact hz)
/-! x[::-1], x[:0:-1], x[-2::-1] -/
def dRev (d : D) (lo hi : Option Int) : Option D := match d with
  | .lst ds => if lo = none ∧ hi = none then some (.lst ds.reverse) else none
  | .tup ds => if (pickR ds lo hi).length ≤ sizeLine then some (.tup (pickR ds lo hi)) else none
  | _ => none
theorem me_rev {X : Cx} {G : Gd} {e : Expr} {m : M Arg} {l h : M (Option Int)} {lo hi : Option Expr} {k : Nat} {p1 p2 p3 pos : Pos} (he : MO X G e m) (hl : MP X G lo l) (hu : MP X G hi h) : ME X G (.Subscript e (.Slice lo hi (some (.UnaryOp .USub (.Constant (.int 1) k p1) p2)) p3) pos) (mSlice dRev m l h) :=
  PEimp (pe_revX he hl hu) fun σ H Q ⟨env, rel, post⟩ => ⟨env, rel, post.seq.imp fun a env1 H1 rel1 x1 q1 v hv => ⟨env1, rel1, q1.seq.imp fun i env2 H2 rel2 x2 q2 => ⟨env2, rel2, q2.seq.imp fun j env3 H3 rel3 x3 q3 => by
    cases ea : a.rd env3 with
    | none => rw [ea] at q3; exact False.elim q3
    | some d =>
      rw [ea] at q3
      have q3 : Post (bd X G) G.W σ env3 H3 (R.opt (dRev d i j) env3) _ := q3
      have hr := rel3.rd (hv.mono (x2.trans x3)) ea
      cases ef : dRev d i j with
      | none => rw [ef] at q3; exact False.elim q3
      | some d' =>
        rw [ef] at q3
        unfold dRev at ef
        split at ef
        · split at ef
          · rename_i hc
            cases ef
            obtain ⟨a', vs, rfl, h1, r1⟩ := hr.lst'
            exact ⟨a', rfl, .inl ⟨vs, h1, hc.1, hc.2, fun p hp => q3 _ (rel3.grow (Grow.upd hp)) (Grow.upd hp).ext _ (Rep.newL rel3.liveZ hp r1.reverse)⟩⟩
          · cases ef
        · split at ef
          · rename_i hz
            cases ef
            obtain ⟨a', vs, rfl, h1, r1⟩ := hr.tup'
            have rp := Reps.pickR i j r1
            exact ⟨a', rfl, .inr ⟨vs, h1.sq, by rw [← rp.length]; exact hz, fun p ob hob hp => q3 _ (rel3.grow (Grow.upd hp)) (Grow.upd hp).ext _ (Rep.newT hob hp rp)⟩⟩
          · cases ef
        · cases ef⟩⟩⟩
end Mi
namespace Mi
open PySem PySem.Spec L2
open PyProof.Rows hiding St
theorem takes_no {X : Cx} : Takes X wNo := fun u s' ⟨_, _, _, _, _, _, _, _, _, _, _, _, _, _, _, _, w⟩ => False.elim w
theorem room64 {k : Nat} {A : Around} (hr : Room k A) : A.units + 64 < cLine := by have := hr.un; omega
theorem room65 {k : Nat} {A : Around} (hr : Room k A) : A.units + 65 < cLine := by have := hr.un; omega
theorem room1 {k : Nat} {A : Around} (hr : Room k A) : A.units + 1 < cLine := by have := hr.un; omega
end Mi
/-! sets of ints and texts, with their order (after HandS.Set, HandS.TupSets) -/
namespace Mi
open PySem PySem.Spec L2
open PyProof.Rows hiding St
open PyProof.Rows.F PySem.F
def keyVal (e : Int × Value) : Key := match e.2 with | .int k _ => .inl k | .str x _ => .inr x | _ => .inl 0
def GoodK (P : Program) (w : World) (e : Int × Value) : Prop := ∃ k, (mixKind P w).is k e.2 = true ∧ e.1 = (mixKind P w).hash k ∧ e.2.scannable = true
theorem keyVal_of {k : Key} {v : Value} (h : keyIs k v = true) (i : Int) : keyVal (i, v) = k := by
  rcases keyIs_shape h with ⟨i, t, rfl, rfl⟩ | ⟨x, t, rfl, rfl⟩ <;> rfl
theorem keyVal_is {P : Program} {w : World} {k : Key} {v : Value} {i : Int} (h : (mixKind P w).is k v = true) : keyVal (i, v) = k := keyVal_of h i
theorem keyIs_scan {k : Key} {v : Value} (h : keyIs k v = true) : v.scannable = true := by
  rcases keyIs_shape h with ⟨i, t, rfl, rfl⟩ | ⟨x, t, rfl, rfl⟩ <;> rfl
/-- the set of keys at a: S its members, n their number; its table rises and can be walked -/
def SetRK (P : Program) (w : World) (h : Heap) (a : Addr) (S : Key → Bool) (n : Nat) : Prop :=
  ∃ o es ep t, h.get? a = some o ∧ o.ExactSet ∧ o.data = .set es ep t ∧ (∀ e ∈ es.toList, GoodK P w e) ∧ (es.toList.map keyVal).Nodup ∧ (∀ k, S k = true ↔ k ∈ es.toList.map keyVal) ∧
    es.size < scanBound ∧ t.fits es.size = true ∧ es.size = n ∧ Ris t.place.toList ∧ (w.params.followText "set-order" = true ∨ t.led = true)
section
variable {P : Program} {w : World} {h h' : Heap} {a : Addr} {S : Key → Bool} {n : Nat}
theorem SetRK.at (R : SetRK P w h a S n) (k : ∀ o, h.get? a = some o → h'.get? a = some o) : SetRK P w h' a S n := by
  obtain ⟨o, es, ep, t, ho, r⟩ := R
  exact ⟨o, es, ep, t, k o ho, r⟩
theorem goodK_elems {l : List (Int × Value)} (g : ∀ e ∈ l, GoodK P w e) : ElemsOf (mixKind P w) l := fun e he => by
  obtain ⟨k, h1, h2, h3⟩ := g e he
  exact ⟨⟨k, h1, h2⟩, h3⟩
theorem goodK_is {e : Int × Value} (g : GoodK P w e) (k : Key) : (mixKind P w).is k e.2 = true ↔ keyVal e = k := by
  obtain ⟨k0, h1, _⟩ := g
  have e0 : keyVal e = k0 := keyVal_is (P := P) (w := w) (i := e.1) h1
  rw [e0]
  exact ⟨fun h => (keyVal_is (P := P) (w := w) (i := e.1) h1).symm.trans (keyVal_is (P := P) (w := w) (i := e.1) h), fun h => h ▸ h1⟩
theorem goodK_mem {l : List (Int × Value)} (g : ∀ e ∈ l, GoodK P w e) (k : Key) : k ∈ l.map keyVal ↔ ∃ e ∈ l, (mixKind P w).is k e.2 = true := by
  rw [List.mem_map]
  constructor
  · rintro ⟨e, he, q⟩
    exact ⟨e, he, (goodK_is (g e he) k).2 q⟩
  · rintro ⟨e, he, q⟩
    exact ⟨e, he, (goodK_is (g e he) k).1 q⟩
theorem setK_fresh (w : World) : SetRK P w (h.push { cls := .type "set", dict := none, data := .set #[] 0 (.fresh 0 0 (!w.params.followText "set-order")) }) h.objs.size (fun _ => false) 0 :=
  ⟨_, #[], 0, _, Heap.get?_push_size _ rfl, ⟨rfl, rfl, rfl⟩, rfl, (fun e he => by simp at he), (by simp), (fun k => by simp), (by decide), (by rfl), rfl, List.Pairwise.nil, by
    show _ ∨ (!w.params.followText "set-order") = true
    cases w.params.followText "set-order"
    · exact .inr rfl
    · exact .inl rfl⟩
end
section
variable {P : Program} {w : World} {A : Around} {E : Value → Shared → Prop} {s : Shared} {a : Addr} {S : Key → Bool} {n : Nat}
theorem setK_add_tail {g : Bool → Sem Unit} (hg : ∀ (b : Bool) (s₁ : Shared) (Q' : Unit → Shared → Prop), Q' () s₁ → wpAny (model P w) A (g b) Q' E s₁)
    {o : Obj} {es : Array (Int × Value)} {ep : Nat} {t : SetTable} (ho : s.heap.get? a = some o) (hex : o.ExactSet) (hd : o.data = .set es ep t)
    {es1 : Array (Int × Value)} {t2 : SetTable} {S' : Key → Bool} (g1 : ∀ e ∈ es1.toList, GoodK P w e) (nd1 : (es1.toList.map keyVal).Nodup) (m1 : ∀ k, S' k = true ↔ k ∈ es1.toList.map keyVal)
    (hb1 : es1.size < scanBound) (hf2 : t2.fits es1.size = true) (hr : Ris t2.place.toList) (hl : w.params.followText "set-order" = true ∨ t2.led = true) {wasDummy : Bool} {R : Option Bool → Shared → Prop}
    (hR : ∀ h', Heap.SameBut a s.heap h' → SetRK P w h' a S' es1.size → R (some true) { s with heap := h' }) :
    wpAny (model P w) A (do
        storeSet a es1 t2
        if (!wasDummy && t2.tooFull) = true then do
            g (relayAll t2 es1 (SetTable.grown es1.size)).2.2
            storeSet a (relayAll t2 es1 (SetTable.grown es1.size)).1 (relayAll t2 es1 (SetTable.grown es1.size)).2.1
            pure (some true)
          else pure (some true)) R E s := by
  refine wpAny_bind (wpAny_storeSet_of ho hd ?_ (fits_of_scanBound hb1))
  have ho1 := store_at (es' := es1) (t' := t2) ho hd
  have sb1 := Heap.SameBut.update s.heap a (Obj.putSet es1 t2)
  split
  · have pm := relayAll_perm t2 es1 (SetTable.grown es1.size)
    have hf3 := relayAll_fits t2 es1 (SetTable.grown es1.size)
    have hr3 := relayAll_ris t2 es1 (SetTable.grown es1.size)
    have hl3 := relayAll_led t2 es1 (SetTable.grown es1.size)
    generalize relayAll t2 es1 (SetTable.grown es1.size) = Z at pm hf3 hr3 hl3 ⊢
    obtain ⟨es2, t3, gave⟩ := Z
    dsimp only at pm hf3 hr3 hl3 ⊢
    have hsz : es2.size = es1.size := by rw [← Array.length_toList, pm.length_eq, Array.length_toList]
    have hb2 : es2.size < scanBound := by rw [hsz]; exact hb1
    refine wpAny_bind (hg _ _ _ ?_)
    refine wpAny_bind (wpAny_storeSet_of ho1 rfl ?_ (fits_of_scanBound hb2))
    have ho2 := store_at (es' := es2) (t' := t3) ho1 rfl
    refine wpAny_pure (hR _ (sb1.trans (Heap.SameBut.update _ a _)) ?_)
    exact ⟨_, es2, _, t3, ho2, hex, rfl, fun e he => g1 e (pm.mem_iff.mp he), (pm.map keyVal).nodup_iff.mpr nd1, fun k => (m1 k).trans (pm.map keyVal).mem_iff.symm, hb2, hf3, hsz, hr3,
      hl.imp id fun z => by rw [hl3]; exact z⟩
  · exact wpAny_pure (hR _ sb1 ⟨_, es1, _, t2, ho1, hex, rfl, g1, nd1, m1, hb1, hf2, rfl, hr, hl⟩)

theorem setK_add_hashed {k : Key} {v : Value} {Q : Bool → Shared → Prop} (hkey : (mixKind P w).is k v = true) (hsc : v.scannable = true) (R : SetRK P w s.heap a S n) (room : n + 1 < scanBound)
    (hQ : ∀ h', Heap.SameBut a s.heap h' → SetRK P w h' a (fun j => S j || decide (j = k)) (if S k = true then n else n + 1) → Q (!S k) { s with heap := h' }) :
    wpAny (model P w) A (setAddHashed a v ((mixKind P w).hash k)) Q E s := by
  obtain ⟨o, es, ep, t, ho, hex, hd, g, nd, hm, hb, hf, hn, hr, hl⟩ := R
  have hel : ElemsOf (mixKind P w) es.toList := goodK_elems g
  unfold setAddHashed setAddHashedIn
  refine wpAny_holding (wpAny_bind (wpAny_setState_of ho hd hf ?_))
  dsimp only
  rw [byScan_of hsc hb hel]
  simp only [↓reduceIte]
  unfold setAddByScan
  refine wpAny_bind ?_
  refine wpAny_bind (wpAny_rule ?_)
  refine wpAny_bind (wpAny_setScan_of hkey ho hd hf hel ?_)
  cases hfi : List.findIdx? (fun e => (mixKind P w).is k e.2) es.toList with
  | some j =>
    dsimp only
    obtain ⟨hj, pj, _⟩ := List.findIdx?_eq_some_iff_getElem.mp hfi
    have hSk : S k = true := (hm k).2 ((goodK_mem (P := P) (w := w) g k).2 ⟨es.toList[j], List.getElem_mem hj, pj⟩)
    refine wpAny_pure (wpAny_pure ?_)
    have q := hQ s.heap (Heap.SameBut.refl a s.heap) ⟨o, es, ep, t, ho, hex, hd, g, nd, fun i => by
      rw [Bool.or_eq_true, decide_eq_true_eq, ← hm i]
      exact ⟨fun z => z.elim id (fun e => e ▸ hSk), .inl⟩, hb, hf, by rw [if_pos hSk]; exact hn, hr, hl⟩
    rw [hSk] at q
    exact q
  | none =>
    dsimp only
    have hnk : k ∉ es.toList.map keyVal := fun z => by
      obtain ⟨e, he, q⟩ := (goodK_mem (P := P) (w := w) g k).1 z
      have c := List.findIdx?_eq_none_iff.mp hfi e he
      rw [q] at c
      cases c
    have hSk : S k = false := by
      cases q : S k with
      | false => rfl
      | true => exact absurd ((hm k).1 q) hnk
    have hgw : ∀ (b : Bool) {s₁ : Shared} {Q' : Unit → Shared → Prop}, Q' () s₁ → wpAny (model P w) A (match b with | true => rule "set.scan.the-table-gave-way" | false => pure ()) Q' E s₁ :=
      fun b s₁ Q' q => by cases b <;> first | exact wpAny_pure q | exact wpAny_rule q
    have pm := layNew_perm t es ((mixKind P w).hash k) v
    have hf1 := layNew_fits t es ((mixKind P w).hash k) v
    have hr1 := layNew_ris t es ((mixKind P w).hash k) v hr
    have hl1 := layNew_led t es ((mixKind P w).hash k) v
    generalize layNew t es ((mixKind P w).hash k) v = Z at pm hf1 hr1 hl1 ⊢
    obtain ⟨es1, t1, wasDummy, gave⟩ := Z
    dsimp only at pm hf1 hr1 hl1 ⊢
    rw [Array.toList_push] at pm
    have pc : es1.toList.Perm (((mixKind P w).hash k, v) :: es.toList) := pm.trans (List.perm_append_singleton _ _)
    have pk : (es1.toList.map keyVal).Perm (k :: es.toList.map keyVal) := by
      have := pc.map keyVal
      rw [List.map_cons, keyVal_is (P := P) (w := w) hkey] at this
      exact this
    have g1 : ∀ e ∈ es1.toList, GoodK P w e := fun e he => by
      rcases List.mem_cons.mp (pc.mem_iff.mp he) with z | z
      · rw [z]; exact ⟨k, hkey, rfl, hsc⟩
      · exact g e z
    have nd1 : (es1.toList.map keyVal).Nodup := pk.nodup_iff.mpr (List.nodup_cons.mpr ⟨hnk, nd⟩)
    have m1 : ∀ i, (S i || decide (i = k)) = true ↔ i ∈ es1.toList.map keyVal := fun i => by
      rw [Bool.or_eq_true, decide_eq_true_eq, hm i, pk.mem_iff, List.mem_cons]
      exact Or.comm
    have hsz : es1.size = n + 1 := by rw [← Array.length_toList, pc.length_eq, List.length_cons, Array.length_toList, hn]
    have hb1 : es1.size < scanBound := by rw [hsz]; exact room
    have hled : w.params.followText "set-order" = true ∨ t1.led = true := hl.imp id fun z => by rw [hl1]; exact z
    have fin : ∀ h', Heap.SameBut a s.heap h' → SetRK P w h' a (fun j => S j || decide (j = k)) es1.size → Q true { s with heap := h' } := fun h' sb r => by
      have q := hQ h' sb
      rw [hSk] at q
      rw [hsz] at r
      exact q r
    refine wpAny_bind (hgw _ ?_)
    split
    · refine wpAny_bind ?_
      rw [hashByValue_scannable 8 hsc]
      refine wpAny_pure ?_
      refine setK_add_tail ?_ ho hex hd g1 nd1 m1 hb1 ?_ ?_ ?_ ?_
      · intro b s₁ Q' q; cases b <;> first | exact wpAny_pure q | exact wpAny_rule q
      · first | (split <;> first | exact hf1 | exact SetTable.fits_plain_off hf1) | exact hf1
      · first | (split <;> exact hr1) | exact hr1
      · first | (split <;> exact hled) | exact hled
      · intro h' sb r; dsimp only; exact wpAny_pure (fin h' sb r)
    · refine wpAny_bind (wpAny_pure ?_)
      simp only [↓reduceIte]
      refine setK_add_tail ?_ ho hex hd g1 nd1 m1 hb1 hf1 hr1 hled ?_
      · intro b s₁ Q' q; cases b <;> first | exact wpAny_pure q | exact wpAny_rule q
      · intro h' sb r; dsimp only; exact wpAny_pure (fin h' sb r)

/-- set.update's loop, over keys -/
theorem set_update_keys {I : Addr} {fp wr : List Addr} {G : Array GenState → Array GenState → Prop} {n : Nat} {Pv : Nat → Value → Prop} {St : Nat → Shared → Prop} {R : Result → Shared → Prop}
    (W : WalksS P w A.in1 I fp wr G n Pv St) (S : Addr) (hSf : S ∉ fp) (ks : List Key) (hn : n = ks.length) (hfew : ks.length < 64) (hval : ∀ i v, Pv i v → ∃ p, ks[i]? = some p ∧ keyIs p v = true) :
    ∀ (k i : Nat) (s : Shared), n - i = k → i ≤ n → St i s → (∃ M m, SetRK P w s.heap S M m ∧ (∀ y, M y = true ↔ y ∈ ks.take i) ∧ m ≤ i) →
      (∀ s' M m, Moved (S :: wr) G s s' → SetRK P w s'.heap S M m → (∀ y, M y = true ↔ y ∈ ks.take n) → m ≤ n → R (.ok (.ret .none)) s') →
      codeAny (model P w) A (.builtin "set.update.loop" ⟨[.ref S, .ref I], []⟩) R s := by
  have hSw : S ∉ wr := fun h => hSf (W.sub _ h)
  have hsub : ∀ b ∈ wr, b ∈ S :: wr := fun b hb => List.mem_cons_of_mem _ hb
  intro k
  induction k with
  | zero =>
    intro i s hk' hi hst ⟨M, m, hS, g, hm0⟩ hR
    have hin : i = n := by omega
    subst hin
    refine codeAny_builtin PyProof.Rows.F.entry_set_update_loop ?_
    rw [Around.under_plainId PyProof.Rows.F.plain_set_update_loop _]
    show wpAny _ A.in1 (pyNext (.ref I) >>= _) _ _ s
    refine wpAny_bind (W.done s _ _ hst fun s' hm => ?_)
    show wpAny _ A.in1 (ret Value.none) _ _ s'
    exact wpAny_pure (hR s' M m (hm.mono hsub) (hS.at fun o e => hm.heap S o hSw e) g hm0)
  | succ k ih =>
    intro i s hk' hi hst ⟨M, m, hS, g, hm0⟩ hR
    have hlt : i < n := by omega
    refine codeAny_builtin PyProof.Rows.F.entry_set_update_loop ?_
    rw [Around.under_plainId PyProof.Rows.F.plain_set_update_loop _]
    show wpAny _ A.in1 (pyNext (.ref I) >>= _) _ _ s
    refine wpAny_bind (W.item i s _ _ hlt hst fun v s' hP hst' hm => ?_)
    obtain ⟨p, hp, hpv⟩ := hval i v hP
    have hS' : SetRK P w s'.heap S M m := hS.at fun o e => hm.heap S o hSw e
    show wpAny _ A.in1 (holding [v] (setAdd S v) >>= _) _ _ s'
    refine wpAny_bind (wpAny_holding ?_)
    unfold setAdd
    refine wpAny_holding ?_
    refine wpAny_bind ((mixKind P w).pyHash (k := p) hpv ?_)
    refine setK_add_hashed (s := { s' with toks := s'.toks + 1 }) hpv (keyIs_scan hpv) hS' (by unfold scanBound; omega) fun h' hsb hS2 => ?_
    have g' : ∀ y, (M y || decide (y = p)) = true ↔ y ∈ ks.take (i + 1) := fun y => by
      rw [take_next hp, List.mem_append, List.mem_singleton, Bool.or_eq_true, decide_eq_true_eq, g y]
    have hm1 : (if M p = true then m else m + 1) ≤ i + 1 := by split <;> omega
    refine wpAny_pure ⟨plainId_quiet PyProof.Rows.F.plain_set_update_loop _, ih (i + 1) _ (by omega) hlt (W.frame _ s' _ _ hst' (Nat.le_succ _) fun b hb o e => ?_) ⟨_, _, hS2, g', hm1⟩ fun s'' M2 m2 hm'' hS'' g'' hmm => ?_⟩
    · rw [hsb.2 b (fun h : b = S => hSf (by rw [← h]; exact hb))]; exact e
    · refine hR s'' M2 m2 (Moved.trans W.gtrans ((hm.mono hsub).then_heap (Nat.le_succ _) fun b o hb e => ?_) hm'') hS'' g'' hmm
      rw [hsb.2 b (fun h : b = S => hb (by rw [h]; exact List.mem_cons_self))]; exact e

set_option maxRecDepth 100000 in
set_option maxHeartbeats 3200000 in
/-- set(xs) -/
theorem call_set_keys {l : Addr} {items : Array Value} (ks : List Key) {Q : Value → Shared → Prop} (hh : A.handled = none) (hl : s.heap.IsList l items) (hisz : items.size = ks.length) (hit : ∀ (i : Nat) (v : Value), items[i]? = some v → ∃ p, ks[i]? = some p ∧ keyIs p v = true) (hfew : ks.length < 64)
    (h : ∀ (h' : Heap) (tk : Nat) M m, SetRK P w h' s.heap.objs.size M m → (∀ y, M y = true ↔ y ∈ ks) → m ≤ ks.length → (∀ b o, s.heap.get? b = some o → h'.get? b = some o) → Q (.ref s.heap.objs.size) { s with heap := h', toks := tk }) :
    wpAny (model P w) A (call (.type "set") [.ref l]) Q E s := by
  obtain ⟨c, tl, hmro⟩ := F.called_set.mro
  have hmade := F.called_set.made
  have hsub := F.called_set.sub
  refine wpAny_call (codeAny_of_tree ?_)
  show wpAny _ _ (callAny (.type "set") _) _ _ _
  refine wpAny_pure ⟨Code.quiet_builtin _ (by decide +kernel), codeAny_builtin F.entry_type_call ?_⟩
  rw [Around.under_plain (weight_type_call_type "set" [.ref l] []) rfl]
  have h1 := F.called_set.notType
  have h2 := F.called_set.canCreate
  have hct := F.typeCall_set_1 (.ref l)
  repeat (any_goals (first | assumption | wp_step))

  refine codeAny_mono (code_set_led1 (.ref l) (E := E) (Q₁ := fun obj s₁ => obj = .ref s.heap.objs.size ∧ s₁ = { s with heap := s.heap.push { cls := .type "set", dict := none, data := .set #[] 0 (.fresh 0 0 (!w.params.followText "set-order")) } }) ⟨rfl, rfl⟩) fun r s₁ hr => ?_
  cases r with
  | error e => exact hr
  | ok fl =>
    cases fl with
    | ret obj =>
      obtain ⟨rfl, rfl⟩ := hr
      have hS : (s.heap.push { cls := .type "set", dict := none, data := .set #[] 0 (.fresh 0 0 (!w.params.followText "set-order")) }).get? s.heap.objs.size = some { cls := .type "set", dict := none, data := .set #[] 0 (.fresh 0 0 (!w.params.followText "set-order")) } := Heap.get?_push_size _ rfl
      have hT : Shared.TypeIs { s with heap := s.heap.push { cls := .type "set", dict := none, data := .set #[] 0 (.fresh 0 0 (!w.params.followText "set-order")) } } (.ref s.heap.objs.size) "set" := ⟨_, hS, rfl⟩
      have hli := F.called_set.init.lookup
      have hbi := F.called_set.init.bind (.ref s.heap.objs.size)
      repeat (any_goals (first | assumption | wp_step))

      refine codeAny_mono (codeAny_call_builtin (R := wants (fun r s₂ => r = .none ∧ ∃ h' tk M m, s₂ = { s with heap := h', toks := tk } ∧ SetRK P w h' s.heap.objs.size M m ∧ (∀ y, M y = true ↔ y ∈ ks) ∧ m ≤ ks.length ∧
          (∀ b o, s.heap.get? b = some o → h'.get? b = some o)) E) F.called_set.init.plain F.entry_set_init (check_set_init_1 hT ?_)) fun r₂ s₂ hr₂ => ?_
      · obtain ⟨ol, hol, hcl, nl, hdl⟩ := hl
        obtain ⟨ocls, odict, odata, oslots⟩ := ol
        simp only at hcl hdl
        subst hcl; subst hdl
        have hol' : (s.heap.push { cls := .type "set", dict := none, data := .set #[] 0 (.fresh 0 0 (!w.params.followText "set-order")) }).get? l = some { cls := .type "list", dict := odict, data := .seq items nl, slots := oslots } := Heap.get?_push_of_some _ hol
        have hsls := F.sub_list_set
        have hslf := F.sub_list_frozenset
        have hne : (Value.type "list" == Value.type "dict") = false := by decide
        have hl1 : (s.heap.push { cls := .type "set", dict := none, data := .set #[] 0 (.fresh 0 0 (!w.params.followText "set-order")) }).IsList l items := ⟨_, hol', rfl, nl, rfl⟩
        unfold Builtin.«set.__init__» noKeywords Builtin.Frozenset.updateFrom
        generalize hPI : pyIter = PI
        wp_walk
        subst hPI

        refine wpAny_pyIter_list hl1 ?_
        refine wpAny_bind (wpAny_runValue ?_)
        have hlS : l < s.heap.objs.size := Heap.lt_size hol
        have hh3 : A.in1.in1.in1.handled = none := by simp [hh]
        have hz1 : (s.heap.push { cls := .type "set", dict := none, data := .set #[] 0 (.fresh 0 0 (!w.params.followText "set-order")) }).objs.size = s.heap.objs.size + 1 := Heap.size_push ..
        have hneI : l ≠ (s.heap.push { cls := .type "set", dict := none, data := .set #[] 0 (.fresh 0 0 (!w.params.followText "set-order")) }).objs.size := by
          rw [Heap.size_push]; exact Nat.ne_of_lt (Nat.lt_succ_of_lt hlS)
        have hSf : s.heap.objs.size ∉ [(s.heap.push { cls := .type "set", dict := none, data := .set #[] 0 (.fresh 0 0 (!w.params.followText "set-order")) }).objs.size, l] := by
          rw [Heap.size_push]; simp only [List.mem_cons, List.mem_singleton, List.not_mem_nil, or_false, not_or]
          exact ⟨Nat.ne_of_lt (Nat.lt_succ_self _), Nat.ne_of_gt hlS⟩
        refine set_update_keys ((Walks.list hh3 _ l hneI items).toS) s.heap.objs.size
          hSf ks hisz hfew hit (items.size - 0) 0 _ (by omega) (Nat.zero_le _)
          ⟨⟨_, Heap.get?_push_size _ rfl, rfl, rfl⟩, (hl1.push _)⟩ ?hS0 ?hR
        case hS0 =>
          have hget : ((s.heap.push { cls := .type "set", dict := none, data := .set #[] 0 (.fresh 0 0 (!w.params.followText "set-order")) }).push { cls := .type "list_iterator", data := .fields #[.ref l, .int 0 0] }).get? s.heap.objs.size
              = some { cls := .type "set", dict := none, data := .set #[] 0 (.fresh 0 0 (!w.params.followText "set-order")) } := Heap.get?_push_of_some _ hS
          exact ⟨_, _, (setK_fresh w).at (fun o e => Heap.get?_push_of_some _ e), fun y => by simp, Nat.le_refl _⟩
        case hR =>
          intro s' M m hm hS' g' hmm
          obtain ⟨h', g2, d', tk', os'⟩ := s'
          have eg : g2 = s.gens := hm.gens
          have ed : d' = s.drawn := hm.drawn
          have eo : os' = s.os := hm.os
          subst eg; subst ed; subst eo
          show wpAny _ _ _ _ _ _
          refine wpAny_pure ?_
          show wpAny _ _ (ret Value.none) _ _ _
          rw [hisz] at g' hmm
          refine wpAny_pure ⟨rfl, h', tk', M, m, rfl, hS', fun y => by rw [g' y, List.take_length], hmm, fun b o e => ?_⟩
          have hb := Heap.lt_size e
          have hb1 : b ≠ s.heap.objs.size := Nat.ne_of_lt hb
          have hb2 : b ≠ (s.heap.push { cls := .type "set", dict := none, data := .set #[] 0 (.fresh 0 0 (!w.params.followText "set-order")) }).objs.size := by
            rw [Heap.size_push]; exact Nat.ne_of_lt (Nat.lt_succ_of_lt hb)
          exact hm.heap b o (by simp only [List.mem_cons, List.mem_singleton, List.not_mem_nil, or_false, not_or]; exact ⟨hb1, hb2⟩) (Heap.get?_push_of_some _ (Heap.get?_push_of_some _ e))

      · cases r₂ with
        | error e => exact hr₂
        | ok fl₂ =>
          cases fl₂ with
          | ret r =>
            obtain ⟨rfl, h', tk, M, m, rfl, hS', g', hmm, hk'⟩ := hr₂
            repeat (any_goals (first | assumption | wp_step))
            exact h _ _ _ _ hS' g' hmm hk'
          | _ => exact hr₂.elim
    | _ => exact hr.elim

end
end Mi
namespace Mi
open PySem PySem.Spec L2
open PyProof.Rows hiding St
open PySem.W (dataLe AllAlike Sortable EachIs)
def keyPy : Key → PyData
  | .inl i => .int i
  | .inr x => .str x
noncomputable def leK : Key → Key → Bool := dataLe false keyPy
def keysOf : List D → Option (List Key)
  | [] => some []
  | d :: ds => match keyOf d, keysOf ds with
    | some k, some ks => some (k :: ks)
    | _, _ => none
def isInl : Key → Bool
  | .inl _ => true
  | _ => false
def homog (ks : List Key) : Bool := ks.all isInl || ks.all fun k => !isInl k
theorem leK_inl (i j : Int) : leK (.inl i) (.inl j) = decide (i ≤ j) := congrFun (congrFun (PySem.W.dataLe_int (fun b : Int => b)) i) j
theorem leK_inr (x y : Str) : leK (.inr x) (.inr y) = decide (x.cps.toList ≤ y.cps.toList) := congrFun (congrFun (PySem.W.dataLe_str (fun b : Str => b)) x) y
theorem leK_antisymm {a b : Key} (hab : isInl a = isInl b) (h1 : leK a b = true) (h2 : leK b a = true) : a = b := by
  cases a with
  | inl i =>
    cases b with
    | inl j =>
      rw [leK_inl, decide_eq_true_eq] at h1 h2
      rw [show i = j by omega]
    | inr y => cases hab
  | inr x =>
    cases b with
    | inl j => cases hab
    | inr y =>
      rw [leK_inr, decide_eq_true_eq] at h1 h2
      have e := List.le_antisymm h1 h2
      cases x; cases y
      rw [show (Str.mk _ : Str) = _ from congrArg Str.mk (Array.toList_inj.mp e)]
theorem leK_total (a b : Key) : (leK a b || leK b a) = true := by
  rw [Bool.or_eq_true]
  exact (PySem.W.sortLe_total (listOrd itemOrd) false fun b : Key => PySem.W.keyToks (keyPy b)).total a b
theorem leK_trans (a b c : Key) (h1 : leK a b = true) (h2 : leK b c = true) : leK a c = true :=
  (PySem.W.sortLe_total (listOrd itemOrd) false fun b : Key => PySem.W.keyToks (keyPy b)).trans a b c h1 h2
def hasK (k : Key) (ks : List Key) : Bool := ks.any fun j => decide (j = k)
theorem hasK_iff {k : Key} {ks : List Key} : hasK k ks = true ↔ k ∈ ks := by
  unfold hasK
  rw [List.any_eq_true]
  exact ⟨fun ⟨j, h1, h2⟩ => (of_decide_eq_true h2) ▸ h1, fun h => ⟨k, h, decide_eq_true rfl⟩⟩
def dedupK : List Key → List Key
  | [] => []
  | k :: ks => if hasK k ks = true then dedupK ks else k :: dedupK ks
theorem mem_dedupK {k : Key} : ∀ {ks : List Key}, k ∈ dedupK ks ↔ k ∈ ks
  | [] => Iff.rfl
  | x :: ks => by
    rw [dedupK]
    by_cases h : hasK x ks = true
    · rw [if_pos h, mem_dedupK, List.mem_cons]
      exact ⟨.inr, fun z => z.elim (fun e => e ▸ hasK_iff.mp h) id⟩
    · rw [if_neg h, List.mem_cons, List.mem_cons, mem_dedupK]
theorem nodup_dedupK : ∀ ks : List Key, (dedupK ks).Nodup
  | [] => List.nodup_nil
  | x :: ks => by
    rw [dedupK]
    by_cases h : hasK x ks = true
    · rw [if_pos h]; exact nodup_dedupK ks
    · rw [if_neg h]
      exact List.nodup_cons.mpr ⟨fun z => h (hasK_iff.mpr (mem_dedupK.mp z)), nodup_dedupK ks⟩
theorem length_dedupK : ∀ ks : List Key, (dedupK ks).length ≤ ks.length
  | [] => Nat.le_refl _
  | x :: ks => by
    have := length_dedupK ks
    rw [dedupK]
    by_cases h : hasK x ks = true
    · rw [if_pos h]; simp; omega
    · rw [if_neg h]; simp; exact this
noncomputable def sortK (ks : List Key) : List Key := (dedupK ks).mergeSort leK
theorem sortK_uniq {ks l : List Key} (hh : homog ks = true) (nd : l.Nodup) (hm : ∀ k, k ∈ l ↔ k ∈ ks) : l.mergeSort leK = sortK ks := by
  have p : l.Perm (dedupK ks) := (List.perm_ext_iff_of_nodup nd (nodup_dedupK ks)).mpr fun k => by rw [hm k, mem_dedupK]
  have same : ∀ a ∈ ks, ∀ b ∈ ks, isInl a = isInl b := fun a ha b hb => by
    unfold homog at hh
    rw [Bool.or_eq_true, List.all_eq_true, List.all_eq_true] at hh
    rcases hh with h | h
    · rw [h a ha, h b hb]
    · have e1 := h a ha
      have e2 := h b hb
      simp only [Bool.not_eq_true'] at e1 e2
      rw [e1, e2]
  refine List.Perm.eq_of_pairwise (le := fun a b => leK a b = true) (fun a b ha hb h1 h2 => leK_antisymm (same a ?_ b ?_) h1 h2) (List.pairwise_mergeSort leK_trans leK_total l) (List.pairwise_mergeSort leK_trans leK_total _) (((List.mergeSort_perm l leK).trans p).trans (List.mergeSort_perm _ leK).symm)
  · exact (hm a).mp ((List.mergeSort_perm l leK).mem_iff.mp ha)
  · exact mem_dedupK.mp ((List.mergeSort_perm _ leK).mem_iff.mp hb)
section
variable {P : Program} {w : World} {A : Around} {E : Value → Shared → Prop} {s : Shared} {a : Addr} {S : Key → Bool} {n : Nat}
theorem each_keys : ∀ {vs : List Value}, (∀ v ∈ vs, ∃ k, keyIs k v = true) → EachIs (fun v k => keyIs k v = true) vs (vs.map fun v => keyVal (0, v))
  | [], _ => .nil
  | v :: vs, h => by
    obtain ⟨k, hk⟩ := h v List.mem_cons_self
    have e := keyVal_of hk 0
    refine .cons ?_ (each_keys fun u hu => h u (List.mem_cons_of_mem _ hu))
    show keyIs (keyVal (0, v)) v = true
    rw [e]; exact hk
theorem reads_key {h : Heap} {k : Key} {v : Value} (hk : keyIs k v = true) (a : Addr) : ∃ as, Reads h v (keyPy k) as ∧ a ∉ as := by
  rcases keyIs_shape hk with ⟨i, t, rfl, rfl⟩ | ⟨x, t, rfl, rfl⟩
  · exact ⟨[], .int _ _, by simp⟩
  · exact ⟨[], .str _ _, by simp⟩
theorem sorted_keys {Q : Value → Shared → Prop} (R : SetRK P w s.heap a S n) (hh : A.handled = none) (hu : A.units + 64 < cLine) {ks : List Key} (hom : homog ks = true) (hm : ∀ k, S k = true ↔ k ∈ ks) (h64 : n < 64)
    (hQ : ∀ s' p (out : List Value) (c : Nat), (∀ b o, s.heap.get? b = some o → s'.heap.get? b = some o) → s'.gens = s.gens → s'.os = s.os → s.heap.objs.size ≤ p →
      s'.heap.get? p = some (seqObj "list" out.toArray c) → EachIs (fun v k => keyIs k v = true) out (sortK ks) → Q (.ref p) s') :
    wpAny (model P w) A (call (.builtin "sorted") [.ref a]) Q E s := by
  obtain ⟨o, es, ep, t, ho, hex, hd, g, nd, hmm, hb, hf, hn, hr, hl⟩ := R
  refine Calls.call_function_entry kind_sorted plain_sorted entry_sorted (args_sorted1 _) ?_
  unfold Builtin.«sorted»
  refine wpAny_bind (m := checkCount "sorted" 1 1 _) (wpAny_pure ?_)
  refine wpAny_bind (collect_set (A := A.in1) hh ⟨o, ho, hex.1, hd⟩ hf hb hr hl fun s1 vs k1 hz g1 o1 pm => ?_)
  have hvl : vs.length = n := by rw [pm.length_eq, List.length_map, Array.length_toList]; exact hn
  have hall : ∀ v ∈ vs, ∃ k, keyIs k v = true := fun v hv => by
    obtain ⟨e, he, q⟩ := List.mem_map.mp (pm.mem_iff.mp hv)
    obtain ⟨k, h1, _⟩ := g e he
    exact ⟨k, by rw [← q]; exact h1⟩
  have pk : (vs.map fun v => keyVal (0, v)).Perm (es.toList.map keyVal) := by
    have q := pm.map fun v => keyVal (0, v)
    rw [List.map_map] at q
    exact q
  have hmem : ∀ k, k ∈ (vs.map fun v => keyVal (0, v)) ↔ k ∈ ks := fun k => by rw [pk.mem_iff, ← hmm k, hm k]
  have same : ∀ a ∈ ks, ∀ b ∈ ks, isInl a = isInl b := fun a ha b hb => by
    unfold homog at hom
    rw [Bool.or_eq_true, List.all_eq_true, List.all_eq_true] at hom
    rcases hom with h | h
    · rw [h a ha, h b hb]
    · have e1 := h a ha
      have e2 := h b hb
      simp only [Bool.not_eq_true'] at e1 e2
      rw [e1, e2]
  refine wpAny_bind (wpAny_newList ?_ (by rw [hvl, sizeLine_eq]; omega))
  have hoL : (s1.heap.push (seqObj "list" vs.toArray 0)).get? s1.heap.objs.size = some (seqObj "list" vs.toArray 0) := Heap.get?_push_size _ rfl
  have ek := each_keys hall
  have er : EachIs (fun v k => ∃ as, Reads (s1.heap.push (seqObj "list" vs.toArray 0)) v (keyPy k) as ∧ s1.heap.objs.size ∉ as) vs (vs.map fun v => keyVal (0, v)) := ek.mono fun v k h => reads_key h _
  have hal : AllAlike ((vs.map fun v => keyVal (0, v)).map keyPy) := fun d hd d' hd' => by
    obtain ⟨k, hk, rfl⟩ := List.mem_map.mp hd
    obtain ⟨k', hk', rfl⟩ := List.mem_map.mp hd'
    have := same k ((hmem k).mp hk) k' ((hmem k').mp hk')
    cases k <;> cases k' <;> first | rfl | (simp [isInl] at this) | simp [keyPy, PySem.W.alike]
  have hso : Sortable ((vs.map fun v => keyVal (0, v)).map keyPy) := .inr fun d hd => by
    obtain ⟨k, hk, rfl⟩ := List.mem_map.mp hd
    cases k <;> exact ⟨fun z => (by cases z), fun xs z => (by cases z)⟩
  refine wpAny_bind (wpAny_holding (PySem.W.list_sort_data (s := { s1 with heap := s1.heap.push (seqObj "list" vs.toArray 0) }) hoL ek er hal hso (by rw [List.length_map, hvl, sizeLine_eq]; omega) (fun k hk => ?_) fun out ho' eo => ?_))
  · have e0 : (keyPy k).depth = 0 := by cases k <;> simp [keyPy, PyData.depth]
    have e1 : A.in1.units = A.units + 1 := rfl
    rw [e0, e1]
    omega
  · obtain ⟨c, hc⟩ := sortedHeap_at (vs := vs) (out := out.toArray) hoL
    have e2 : (vs.map fun v => keyVal (0, v)).mergeSort (dataLe false keyPy) = sortK ks := sortK_uniq hom (pk.nodup_iff.mpr nd) hmem
    rw [e2] at eo
    refine wpAny_pure ⟨_, rfl, hQ _ s1.heap.objs.size out c (fun b u e => ?_) g1 o1 hz hc eo⟩
    have q := k1 b u e
    have hlt := Heap.lt_size q
    show (sortedHeap (s1.heap.push (seqObj "list" vs.toArray 0)) s1.heap.objs.size vs out.toArray).get? b = some u
    rw [sortedHeap_old (Nat.ne_of_lt hlt) (by rw [size_push']; exact Nat.lt_succ_of_lt hlt)]
    exact Heap.get?_push_of_some _ q
end
theorem keysOf_rep {K : PySem.W.Frag} {mg : Mw} {H : Hp} {Z : Addr → Prop} : ∀ {ds : List D} {vs : List V} {ks : List Key}, Reps K mg H Z ds vs → keysOf ds = some ks → vs = ks.map kV
  | _, _, _, .nil, e => by cases e; rfl
  | _, _, ks, .cons (d := d) (ds := ds) h t, e => by
    unfold keysOf at e
    split at e
    · rename_i k s e1 e2
      cases e
      rw [(keyOf_rep (.val h) e1).1, keysOf_rep t e2]
      rfl
    · cases e
theorem keys_vals (P : Program) (w : World) : ∀ {ks : List Key} {us : List Value}, Vals (ks.map kV) us → us.length = ks.length ∧ ∀ (i : Nat) (v : Value), us[i]? = some v → ∃ p, ks[i]? = some p ∧ keyIs p v = true
  | [], us, r => by
    rw [List.map_nil] at r
    cases r
    exact ⟨rfl, fun i v h => by simp at h⟩
  | k :: ks, us, r => by
    rw [List.map_cons] at r
    cases r with
    | @cons _ u _ us h t =>
      obtain ⟨h1, h2⟩ := keys_vals P w t
      refine ⟨congrArg (· + 1) h1, fun i v e => ?_⟩
      cases i with
      | zero => cases e; exact ⟨k, rfl, kV_is (P := P) (w := w) h⟩
      | succ i => exact h2 i v e
theorem vals_keys : ∀ {us : List Value} {ks : List Key}, EachIs (fun v k => keyIs k v = true) us ks → Vals (ks.map kV) us
  | _, _, .nil => .nil
  | _, _, .cons h t => .cons (relV_key h) (vals_keys t)
section
variable {X : Cx} {G : Gd} {a : Expr} {p p2 q pos : Pos}
/-- sorted(set(xs)), xs a list -/
def tSortSet (K : PySem.W.Frag) (ta : TE) : TE := fun σ H Q => ta σ H fun x H1 => ∃ (l : Addr) (ks : List Key), x = .ref l ∧ SqL K H1 l (ks.map kV) ∧ homog ks = true ∧ ks.length < 64 ∧ ∀ p, H1 p = none → Q (.ref p) (upd H1 p (.lst ((sortK ks).map kV)))
theorem sortK_length (ks : List Key) : (sortK ks).length ≤ ks.length := by
  unfold sortK
  rw [List.length_mergeSort]
  exact length_dedupK ks
theorem pe_sortSet {ta : TE} (hc : X.calm = true) (hu : X.A.units + 64 < cLine) (hg : Gl X "sorted") (hm : X.mg "sorted" = none) (hg2 : Gl X "set") (hm2 : X.mg "set" = none) (ha : PE X a ta)
    (na : starEach [a] X.env = (false, eval a X.env) :: starEach [] X.env := by rfl) : PE X (.Call (.Name "sorted" p) [.Call (.Name "set" p2) [a] [] q] [] pos) (tSortSet X.K ta) := by
  refine ⟨fun pins s σ H Q I h => ?_⟩
  refine Call_ (ld_blt I hg hm boot_sorted ?_)
  refine PyProof.Rows.callWith_builtin1 (PyProof.Rows.args_cons ?_ rfl) rfl rfl
  refine Call_ (ld_blt I hg2 hm2 boot_set ?_)
  refine PyProof.Rows.callWith_type1 (PyProof.Rows.args_cons (thn (ha.run pins s σ H _ I h) fun v s1 ⟨x, H1, I1, r1, q1⟩ => PyProof.Rows.args_nil ?_) na) na rfl
  obtain ⟨l, ks, rfl, hq, hom, h64, q1⟩ := q1
  cases r1
  obtain ⟨its, r, pl, hz⟩ := I1.list hq
  obtain ⟨k1, k2⟩ := keys_vals X.prog X.w r
  refine call_set_keys ks (I1.ok.hd hc) pl.isList (by simpa using k1) (fun i v e => k2 i v (by simpa using e)) h64 fun h' tk M m hS hM hmm hk => PyProof.Rows.args_nil ?_
  have I2 : Inv X pins σ H1 { s1 with heap := h', toks := tk } := I1.kept hk
  refine sorted_keys (s := { s1 with heap := h', toks := tk }) hS (I1.ok.hd hc) hu hom hM (by omega) fun s' p out c kk g o hp hg' eo => ?_
  have rv := vals_keys eo
  have hlen : ((sortK ks).map kV).length ≤ sizeLine := by
    rw [List.length_map, sizeLine_eq]
    have := sortK_length ks
    omega
  have hn : H1 p = none := I2.hok.fresh hp
  have J : Inv X pins σ (upd H1 p (.lst ((sortK ks).map kV))) { ({ s1 with heap := h', toks := tk } : Shared) with heap := s'.heap, gens := s'.gens, drawn := s'.drawn, toks := s'.toks } :=
    I2.call (ch := []) (Un.laid kk hp hn) (I2.hok.laid kk hp ⟨hlen, out, c, rv, hg'⟩) (by rw [g]; exact I2.bare) (fun _ z => nomatch z)
  have e : s' = { ({ s1 with heap := h', toks := tk } : Shared) with heap := s'.heap, gens := s'.gens, drawn := s'.drawn, toks := s'.toks } := by
    cases s'
    cases s1
    cases o
    rfl
  rw [e]
  exact ⟨.ref p, _, J, rfl, q1 p hn⟩
noncomputable def fSortSet : D → Option Cell
  | .lst ds => (keysOf ds).bind fun ks => if homog ks = true ∧ ks.length < 64 then some (.lst ((sortK ks).map keyD)) else none
  | _ => none
noncomputable def mSortSet (m : M Arg) : M Cell := fun env => (m env).bind fun a env => R.opt (match a.rd env with
  | some d => fSortSet d
  | none => none) env
theorem mf_sortSet {m : M Arg} (hc : X.calm = true) (hu : X.A.units + 64 < cLine) (hg : Gl X "sorted") (hm : X.mg "sorted" = none) (hg2 : Gl X "set") (hm2 : X.mg "set" = none) (ha : MO X G a m)
    (na : starEach [a] X.env = (false, eval a X.env) :: starEach [] X.env := by rfl) : MF X G (.Call (.Name "sorted" p) [.Call (.Name "set" p2) [a] [] q] [] pos) (mSortSet m) :=
  PEimp (pe_sortSet hc hu hg hm hg2 hm2 ha na) fun σ H Q ⟨env, rel, post⟩ => ⟨env, rel, (PostF.seq' Ext.refl post).imp fun a1 env1 H1 rel1 _ q1 v hv => by
    obtain ⟨q1, x1⟩ := q1
    cases ea : a1.rd env1 with
    | none => rw [ea] at q1; exact False.elim q1
    | some d =>
      rw [ea] at q1
      have q1 : PostF (bd X G) G.W σ env H (R.opt (fSortSet d) env1) _ := q1
      have hr := rel1.rd hv ea
      cases ef : fSortSet d with
      | none => rw [ef] at q1; exact False.elim q1
      | some c =>
        rw [ef] at q1
        unfold fSortSet at ef
        split at ef
        · rename_i ds
          cases ek : keysOf ds with
          | none => rw [ek] at ef; cases ef
          | some ks =>
            rw [ek] at ef
            have ef : (if homog ks = true ∧ ks.length < 64 then some (Cell.lst ((sortK ks).map keyD)) else none) = some c := ef
            split at ef
            · rename_i hh
              cases ef
              obtain ⟨l, vs, rfl, hs, rr⟩ := hr.lst'
              have := keysOf_rep rr ek
              subst this
              refine ⟨l, ks, rfl, hs, hh.1, hh.2, fun p hp => (okNew.of x1 rel1 q1).lst ?_ hp⟩
              generalize sortK ks = zs
              induction zs with
              | nil => exact .nil
              | cons z zs ih => exact .cons (.ofKey z) ih
            · cases ef
        · cases ef⟩
end
end Mi
namespace Mi
open PySem PySem.Spec L2
open PyProof.Rows hiding St
/-- what the row asks of a law: its list of at most 63 whole numbers is answered by True -/
def spLaw (K : PySem.W.Frag) : Sp := fun vs H Q _ => ∃ (a : Addr) (ns : List Int), vs = [.ref a] ∧ SqL K H a (ns.map V.int) ∧ ns.length ≤ 63 ∧ ∀ H', Q (.bl true) H'
/-- the plain law of a mirror -/
def PlainOf (f : Fn) : Prop := ∀ ns : List Int, ns.length ≤ 63 → ∃ cs, f [.val (.lst (ns.map .int))] = .ret (.bl true) cs
theorem reps_ints {K : PySem.W.Frag} {mg : Mw} {H : Hp} {Z : Addr → Prop} : ∀ ns : List Int, Reps K mg H Z (ns.map .int) (ns.map .int)
  | [] => .nil
  | i :: r => .cons (.int i) (reps_ints r)
theorem law_sp {K : PySem.W.Frag} {mg : Mw} {f : Fn} (plain : PlainOf f) {vs : List V} {H : Hp} {Q : VK} {E : XK} (h : spLaw K vs H Q E) : spOf K mg f vs H Q E := by
  obtain ⟨a, ns, rfl, hS, hl, k⟩ := h
  obtain ⟨cs, e⟩ := plain ns hl
  have noZ : ∀ b, ¬ Zall (fun _ => False) ([some (.ref a)] : St) [.val (.lst (ns.map .int))] b := by
    intro b hb
    rcases hb with hb | ⟨i, o, c, h1, _⟩
    · exact hb
    · cases i with
      | zero => simp at h1
      | succ i => simp at h1
  refine ⟨fun _ => False, fun _ => none, [.val (.lst (ns.map .int))], ⟨rfl, ?_, ?_, ?_, ?_, ?_, ?_⟩, ?_, ?_⟩
  · intro i d h1
    cases i with
    | zero =>
      simp at h1
      subst h1
      refine ⟨.ref a, rfl, .lst ?_ (reps_ints ns)⟩
      rcases hS with hS | hS
      · exact .inl ⟨noZ a, hS⟩
      · exact .inr hS
    | succ i => simp at h1
  · intro i o c h1
    cases i with
    | zero => simp at h1
    | succ i => simp at h1
  · intro i j o o' c c' b h1
    cases i with
    | zero => simp at h1
    | succ i => simp at h1
  · intro b hb
    exact hb.elim
  · intro i b hb
    cases hb
  · intro b o hb
    cases hb
  · intro i c h1
    cases i with
    | zero => simp at h1
    | succ i => simp at h1
  · rw [e]
    intro v H' _ _ r
    cases r
    exact k H'
theorem law_quiet (P : Program) (w : World) (H : Hp) (s : Shared) (e : Value) (s' : Shared) (c : L2.CX P w [] H s (fun _ _ _ => False) e s') : False := by
  obtain ⟨_, _, _, _, _, _, _, _, _, _, _, _, h⟩ := c
  exact h
end Mi
namespace Mi
open PySem PySem.Spec L2
open PyProof.Rows hiding St
/-! ### reckoning with mirrors: rules for simp, outermost first -/
def So.seq (s : So) (n : MS) (_ : Tg n := ()) : So := match s with
  | .nx e => n e
  | r => r
def So.fin (ss : Env') : So → Fo
  | .ret d e => (match finS ss e with
      | some cs => .ret d cs
      | none => .bad)
  | .rnew c e => (match finS ss e with
      | some cs => .new c cs
      | none => .bad)
  | .nx e => (match finS ss e with
      | some cs => .ret .non cs
      | none => .bad)
  | .exc c fs e => (match finS ss e with
      | some cs => .exc c fs cs
      | none => .bad)
  | _ => .bad
def Fo.back (env : Env') (as : List Arg) (ms : List Bool) : Fo → R D
  | .ret d cs => (match backE env as ms cs with
      | some e => .ok d e
      | none => .bad)
  | .exc c fs cs => (match backE env as ms cs with
      | some e => .exc c fs e
      | none => .bad)
  | _ => .bad
def Fo.backN (env : Env') (as : List Arg) (ms : List Bool) : Fo → R Cell
  | .new d cs => (match backE env as ms cs with
      | some e => .ok d e
      | none => .bad)
  | .exc c fs cs => (match backE env as ms cs with
      | some e => .exc c fs e
      | none => .bad)
  | _ => .bad
def kAndV (n : M D) : D → Env' → R D := fun d env => match d with
  | .bl true => n env
  | .bl false => .ok (.bl false) env
  | _ => .bad
def kOrV (n : M D) : D → Env' → R D := fun d env => match d with
  | .bl true => .ok (.bl true) env
  | .bl false => n env
  | _ => .bad
section
variable {α β : Type} {env e : Env'} {x : α} {c : Str} {fs : List (Str × D)}
theorem xb_ok {f : α → Env' → R β} : (R.ok x e).bind f = f x e := rfl
theorem xb_exc {f : α → Env' → R β} : (R.exc c fs e : R α).bind f = .exc c fs e := rfl
theorem xb_bad {f : α → Env' → R β} : (R.bad : R α).bind f = .bad := rfl
theorem xb_ite {p : Prop} [Decidable p] {a b : R α} {f : α → Env' → R β} : (if p then a else b).bind f = if p then a.bind f else b.bind f := by split <;> rfl
theorem xo_ok {f : α → Env' → So} : (R.ok x e).so f = f x e := rfl
theorem xo_exc {f : α → Env' → So} : (R.exc c fs e : R α).so f = .exc c fs e := rfl
theorem xo_bad {f : α → Env' → So} : (R.bad : R α).so f = .bad := rfl
theorem xo_ite {p : Prop} [Decidable p] {a b : R α} {f : α → Env' → So} : (if p then a else b).so f = if p then a.so f else b.so f := by split <;> rfl
theorem xp_some : R.opt (some x) e = .ok x e := rfl
theorem xp_none : R.opt (none : Option α) e = .bad := rfl
theorem xp_ite {p : Prop} [Decidable p] {a b : Option α} : R.opt (if p then a else b) e = if p then R.opt a e else R.opt b e := by split <;> rfl
theorem xe_some : So.optE (some e) = .nx e := rfl
theorem xe_none : So.optE none = .bad := rfl
theorem xs_nx {n : MS} : (So.nx e).seq n = n e := rfl
theorem xs_bk {n : MS} : (So.bk e).seq n = .bk e := rfl
theorem xs_ct {n : MS} : (So.ct e).seq n = .ct e := rfl
theorem xs_ret {d : D} {n : MS} : (So.ret d e).seq n = .ret d e := rfl
theorem xs_rnew {d : Cell} {n : MS} : (So.rnew d e).seq n = .rnew d e := rfl
theorem xs_exc {n : MS} : (So.exc c fs e).seq n = .exc c fs e := rfl
theorem xs_bad {n : MS} : (So.bad).seq n = .bad := rfl
theorem xs_ite {p : Prop} [Decidable p] {a b : So} {n : MS} : (if p then a else b).seq n = if p then a.seq n else b.seq n := by split <;> rfl
theorem xf_ite {p : Prop} [Decidable p] {a b : So} {ss : Env'} : So.fin ss (if p then a else b) = if p then So.fin ss a else So.fin ss b := by split <;> rfl
theorem xk_ite {p : Prop} [Decidable p] {a b : Fo} {as : List Arg} {ms : List Bool} : Fo.back env as ms (if p then a else b) = if p then Fo.back env as ms a else Fo.back env as ms b := by split <;> rfl
theorem xf_ret {d : D} {ss : Env'} : So.fin ss (.ret d e) = match finS ss e with
  | some cs => .ret d cs
  | none => .bad := rfl
theorem xf_rnew {d : Cell} {ss : Env'} : So.fin ss (.rnew d e) = match finS ss e with
  | some cs => .new d cs
  | none => .bad := rfl
theorem xf_nx {ss : Env'} : So.fin ss (.nx e) = match finS ss e with
  | some cs => .ret .non cs
  | none => .bad := rfl
theorem xf_exc {ss : Env'} : So.fin ss (.exc c fs e) = match finS ss e with
  | some cs => .exc c fs cs
  | none => .bad := rfl
theorem xf_bad {ss : Env'} : So.fin ss .bad = .bad := rfl
theorem xk_ret {d : D} {cs : Env'} {as : List Arg} {ms : List Bool} : Fo.back env as ms (.ret d cs) = match backE env as ms cs with
  | some e => .ok d e
  | none => .bad := rfl
theorem xk_exc {cs : Env'} {as : List Arg} {ms : List Bool} : Fo.back env as ms (.exc c fs cs) = match backE env as ms cs with
  | some e => .exc c fs e
  | none => .bad := rfl
theorem xk_bad {as : List Arg} {ms : List Bool} : Fo.back env as ms .bad = .bad := rfl
theorem xn_new {d : Cell} {cs : Env'} {as : List Arg} {ms : List Bool} : Fo.backN env as ms (.new d cs) = match backE env as ms cs with
  | some e => .ok d e
  | none => .bad := rfl
theorem xn_exc {cs : Env'} {as : List Arg} {ms : List Bool} : Fo.backN env as ms (.exc c fs cs) = match backE env as ms cs with
  | some e => .exc c fs e
  | none => .bad := rfl
theorem xm_seq {m n : MS} : mSeq m n env = (m env).seq n := rfl
theorem xm_fn {n N : Nat} {m : MS} {ss : Env'} : mkFn n N m ss = if ss.length = n then So.fin ss (m (ss ++ List.replicate (N - n) .emp)) else .bad := rfl
theorem xm_call {F : Fn} {ms : List Bool} {m : M (List Arg)} : mCall F ms m env = (m env).bind fun as env => match argSlots env as ms with
  | some ss => if (mutIx as ms).Nodup then (F ss).back env as ms else .bad
  | none => .bad := rfl
theorem xm_callN {F : Fn} {ms : List Bool} {m : M (List Arg)} : mCallN F ms m env = (m env).bind fun as env => match argSlots env as ms with
  | some ss => if (mutIx as ms).Nodup then (F ss).backN env as ms else .bad
  | none => .bad := rfl
theorem xm_and {m n : M D} : mAndV m n env = (m env).bind (kAndV n) := rfl
theorem xm_or {m n : M D} : mOrV m n env = (m env).bind (kOrV n) := rfl
theorem xk_and {n : M D} {b : Bool} : kAndV n (.bl b) env = if b = true then n env else .ok (.bl false) env := by cases b <;> rfl
theorem xk_or {n : M D} {b : Bool} : kOrV n (.bl b) env = if b = true then .ok (.bl true) env else n env := by cases b <;> rfl
theorem xa_nat {xs : List α} {i : Nat} : atI xs (i : Int) = xs[i]? := by
  unfold atI ixN
  rw [if_pos (Int.natCast_nonneg i)]
  by_cases h : i < xs.length
  · rw [if_pos (by omega)]
    rfl
  · rw [if_neg (by omega), List.getElem?_eq_none (by omega)]
    rfl
theorem xa_0 {xs : List α} : atI xs 0 = xs[0]? := xa_nat (i := 0)
theorem xa_1 {xs : List α} : atI xs 1 = xs[1]? := xa_nat (i := 1)
theorem xa_n {xs : List α} {n : Nat} : atI xs (no_index (@OfNat.ofNat Int n _)) = xs[(@OfNat.ofNat Nat n _)]? := xa_nat (i := n)
theorem xi_n {n m : Nat} : ixN n (no_index (@OfNat.ofNat Int m _)) = if (@OfNat.ofNat Nat m _) < n then some (@OfNat.ofNat Nat m _) else none := by
  show ixN n ((m : Nat) : Int) = if m < n then some m else none
  unfold ixN
  rw [if_pos (Int.natCast_nonneg m)]
  by_cases h : m < n
  · rw [if_pos (by omega), if_pos h]; rfl
  · rw [if_neg (by omega), if_neg h]
theorem xi_nat {n m : Nat} : ixN n (m : Int) = if m < n then some m else none := by
  unfold ixN
  rw [if_pos (Int.natCast_nonneg m)]
  by_cases h : m < n
  · rw [if_pos (by omega), if_pos h]; rfl
  · rw [if_neg (by omega), if_neg h]
theorem xz_n {i n : Nat} (h : n ≤ 16777216) : n ≤ sizeLine := h
end
section
variable {env : Env'} {f f' : D → D → Option D} {g : D → Option D} {h : List D → Option D} {ma mb mc : M Arg} {ms : M (List Arg)} {m n : M D} {b c : M Bool} {st st' : MS} {i : Nat} {d : D} {T : String}
theorem xm_skip : mSkip env = .nx env := rfl
theorem xm_drop : mDrop m env = (m env).so fun _ env => .nx env := rfl
theorem xm_ret : mRet m env = (m env).so fun d env => .ret d env := rfl
theorem xm_retN : mRetN env = .ret .non env := rfl
theorem xm_retF {mf : M Cell} : mRetF mf env = (mf env).so fun c env => .rnew c env := rfl
theorem xm_ifS : mIfS b st st' env = (b env).so fun b env => if b = true then st env else st' env := rfl
theorem xm_asg {g : MG} : mAsg m g env = (m env).so fun d env => So.optE (g d env) := rfl
theorem xm_asgNew {mf : M Cell} : mAsgNew i mf env = (mf env).so fun c env => if i < env.length then .nx (env.set i (.cel true c)) else .bad := rfl
theorem xm_lstC : mLstC ms env = (ms env).bind fun as env => R.opt (match owns env as with
  | some ds => if ds.length ≤ sizeLine then some (.lst ds) else none
  | none => none) env := rfl
theorem xm_mut {f : Cell → List D → Option (D × Cell)} : mMut T f i ms env = match env[i]? with
  | some (.cel _ c0) => if c0.ty = T then (ms env).bind fun as env =>
      match owns env as, env[i]? with
      | some ds, some (.cel o c) => match f c ds with
        | some (d, c') => .ok d (env.set i (.cel o c'))
        | none => .bad
      | _, _ => .bad
    else .bad
  | _ => .bad := rfl
theorem xm_set {f : Cell → D → D → Option Cell} {mk me : M D} : mSet f i mk me env = (me env).so fun d env => (mNm i env).so fun _ env => (mk env).so fun k env =>
  match env[i]? with
  | some (.cel o c) => match f c k d with
    | some c' => .nx (env.set i (.cel o c'))
    | none => .bad
  | _ => .bad := rfl
theorem xm_aug : mAug i f m env = (mVal i env).so fun d0 env => (m env).so fun d env => So.optE ((f d0 d).map fun r => env.set i (.val r)) := rfl
theorem xm_pre {k : Env' → Env'} : mPre k st env = st (k env) := rfl
theorem xm_C : mC d env = .ok d env := rfl
theorem xm_nm : mNm i env = (R.opt (slotD env i) env).bind fun _ env => .ok (.s i) env := rfl
theorem xm_ex : mEx m env = (m env).bind fun d env => .ok (.v d) env := rfl
theorem xm_val : mVal i env = R.opt (slotV env i) env := rfl
theorem xm_nil : mNil env = .ok [] env := rfl
theorem xm_cons : mCons ma ms env = (ma env).bind fun a env => (ms env).bind fun as env => .ok (a :: as) env := rfl
theorem xm_bin : mBin f ma mb env = (ma env).bind fun a env => (mb env).bind fun b env => R.opt (match a.rd env, b.rd env with
    | some d, some e => f d e
    | _, _ => none) env := rfl
theorem xm_binF {f : D → D → Option Cell} : mBinF f ma mb env = (ma env).bind fun a env => (mb env).bind fun b env => R.opt (match a.rd env, b.rd env with
    | some d, some e => f d e
    | _, _ => none) env := rfl
theorem xm_un : mUn g ma env = (ma env).bind fun a env => R.opt (match a.rd env with
    | some d => g d
    | _ => none) env := rfl
theorem xm_isi {T : Ty} : mIsi T ma env = (ma env).bind fun a env => R.opt (match a.rd env with
    | some d => (isTy T d).map .bl
    | _ => none) env := rfl
theorem xm_callD : mCallD h ms env = (ms env).bind fun as env => R.opt (match rds env as with
    | some ds => h ds
    | none => none) env := rfl
theorem xm_callF {h : List D → Option Cell} : mCallF h ms env = (ms env).bind fun as env => R.opt (match rds env as with
    | some ds => h ds
    | none => none) env := rfl
theorem xm_owns : mOwns h ms env = (ms env).bind fun as env => R.opt (match owns env as with
    | some ds => h ds
    | none => none) env := rfl
theorem xm_isT : mIsT m env = (m env).bind fun d env => match d with
  | .bl b => .ok b env
  | _ => .bad := rfl
theorem xm_andT : mAnd b c env = (b env).bind fun k env => if k = true then c env else .ok false env := rfl
theorem xm_orT : mOr b c env = (b env).bind fun k env => if k = true then .ok true env else c env := rfl
theorem xm_not : mNot b env = (b env).bind fun k env => .ok (!k) env := rfl
theorem xm_notV : mNotV m env = (m env).bind fun d env => match d with
  | .bl b => .ok (.bl (!b)) env
  | _ => .bad := rfl
theorem xm_if : mIf b m n env = (b env).bind fun b env => if b = true then m env else n env := rfl
theorem xm_meth {f : D → List D → Option D} : mMeth T f ma ms env = (ma env).bind fun a env => match a.rd env with
  | some d0 => if tyOk T d0 = true then (ms env).bind fun as env => R.opt (match a.rd env, rds env as with
      | some d, some ds => f d ds
      | _, _ => none) env else .bad
  | none => .bad := rfl
theorem xm_slice {f : D → Option Int → Option Int → Option D} {l u : M (Option Int)} : mSlice f ma l u env = (ma env).bind fun a env => (l env).bind fun lo env => (u env).bind fun hi env => R.opt (match a.rd env with
    | some d => f d lo hi
    | none => none) env := rfl
theorem xm_noP : mNoP env = .ok none env := rfl
theorem xm_P : mP m env = (m env).bind fun d env => match d with
  | .int i => .ok (some i) env
  | _ => .bad := rfl
def kChain (f' : D → D → Option D) (b : Arg) (l : M Arg) : D → Env' → R D := fun k env => match k with
    | .bl true => (l env).bind fun c env => R.opt (match b.rd env, c.rd env with
      | some d, some e => f' d e
      | _, _ => none) env
    | .bl false => .ok (.bl false) env
    | _ => .bad
theorem xm_chain : mChain f f' ma mb mc env = (ma env).bind fun a env => (mb env).bind fun b env => (R.opt (match a.rd env, b.rd env with
    | some d, some e => f d e
    | _, _ => none) env).bind (kChain f' b mc) := rfl
theorem xk_chain {b : Arg} {k : Bool} : kChain f' b mc (.bl k) env = if k = true then (mc env).bind fun c env => R.opt (match b.rd env, c.rd env with
      | some d, some e => f' d e
      | _, _ => none) env else .ok (.bl false) env := by cases k <;> rfl
theorem xm_fr {m : M Cell} : mFr m env = (m env).bind fun c env => .ok c.frz env := rfl
theorem xm_frL {m : M Cell} : mFrL m env = (m env).bind fun c env => match c with
  | .lst ds => .ok (.lst ds) env
  | _ => .bad := rfl
theorem xm_raise {c : Str} : mRaise c env = .exc c [] env := rfl
theorem xm_yes : mYes env = .ok true env := rfl
theorem xm_newD : mNewD env = .ok (.dct []) env := rfl
theorem xg_N : gN i d env = some (env.set i (.val d)) := rfl
theorem xg_nil : gNil' [] env = some env := rfl
theorem xg_cons {g : MG} {r : MGs} {ds : List D} : gCons' g r (d :: ds) env = (g d env).bind fun env => r ds env := rfl
theorem xg_T {r : MGs} {ds : List D} {n : Nat} : gT n r (.tup ds) env = if ds.length = n then r ds env else none := rfl
end
theorem xpop {xs : List D} {x : D} : cPop (.lst (xs ++ [x])) [] = some (x, .lst xs) := by
  show (((xs ++ [x])[(xs ++ [x]).length - 1]?).map fun d => (d, Cell.lst (xs ++ [x]).dropLast)) = _
  simp
/-! a mirror is reckoned as far as its data are known -/
end Mi
namespace Mi
open PySem PySem.Spec L2
open PyProof.Rows hiding St
local macro_rules | `(tactic| dsimp! only [$ls,*]) => `(tactic| (simp -dsimp only [xb_ok, xb_exc, xb_bad, xb_ite, xo_ok, xo_exc, xo_bad, xo_ite, xp_some, xp_none, xp_ite, xe_some, xe_none, xs_nx, xs_bk, xs_ct, xs_ret, xs_rnew, xs_exc, xs_bad, xs_ite,
     xf_ite, xk_ite, xm_seq, xm_fn, xm_call, xm_callN, xm_and, xm_or, xk_and, xk_or, xa_0, xa_1, xa_n, xa_nat, xi_n, xi_nat, Int.ofNat_lt, Int.ofNat_le,
     xf_ret, xf_rnew, xf_nx, xf_exc, xf_bad, xk_ret, xk_exc, xk_bad, xn_new, xn_exc, finS, backE, argSlots, mutIx, frzAt, xm_skip, xm_drop, xm_ret, xm_retN, xm_retF, xm_ifS, xm_asg, xm_asgNew, xm_lstC, xm_mut, xm_set, xm_aug, xm_pre, xm_C, xm_nm, xm_ex, xm_val, xm_nil, xm_cons, xm_bin, xm_binF, xm_un, xm_isi, xm_callD, xm_callF, xm_owns, xm_isT, xm_andT, xm_orT, xm_not, xm_notV, xm_if, xm_meth, xm_slice, xm_noP, xm_P, xm_chain, xk_chain, xm_fr, xm_frL, xm_raise, xm_yes, xm_newD, xg_N, xg_nil, xg_cons, xg_T,
     slotD, slotV, Arg.rd, Arg.own, rds, owns, Cell.frz, Cell.ty, dTup, dLst, dAdd, dSub, dMod, dDiv, dPow, dMulI, dMul, dInts, dNeg, dLt, dLe, dGt, dGe, dCmpI, dIxD, dIx, dIs, dIsNot, D.isNon, dLen, isTy, dIntOf, dListOf, dTupOf, cAppend, xpop, cSetX, cSetL, dAddI,
     List.length_cons, List.length_nil, List.getElem?_cons_zero, List.getElem?_cons_succ, List.getElem?_nil, List.set_cons_zero, List.set_cons_succ, List.set_nil, List.cons_append, List.nil_append, List.append_nil, List.replicate, List.nodup_cons, List.not_mem_nil, List.nodup_nil, List.mem_singleton,
     Option.map_some, Option.map_none, Option.bind_some, Option.bind_none, if_true, if_false, ite_true, ite_false, reduceIte, reduceCtorEq, not_false_eq_true, not_true_eq_false, and_true, true_and, and_false, false_and, or_true, true_or, or_false, false_or, decide_eq_true_eq, Bool.not_true, Bool.not_false, Bool.true_eq_false, Bool.false_eq_true, Nat.reduceAdd, Nat.reduceSub, Nat.reduceEqDiff, Nat.reduceLeDiff, Nat.reduceLT, Nat.reduceMul, Int.reduceAdd, Int.reduceLT, Int.reduceLE, Int.reduceNeg, Int.reduceSub, Int.reduceToNat, Int.reducePow, Int.reduceMul, Int.natCast_add, Int.cast_ofNat_Int, Int.sub_zero, gt_iff_lt, ge_iff_le, String.reduceEq, String.reduceBEq, beq_self_eq_true, Nat.zero_add, sizeLine, Nat.reducePow, decide_true, decide_false, $ls,*]))
/-! ### loops of mirrors -/
def cStep (g : MG) (t : M Bool) (m : M D) (vs : List Nat) (d : D) (e : Env') : R (Option D) := match g d e with
  | none => .bad
  | some e1 => (t e1).nox.bind fun b e2 => if b = true then (m e2).nox.bind fun x e3 => .ok (some x) (mKill vs e3) else .ok none (mKill vs e2)
theorem xx_ok {α : Type} {x : α} {e : Env'} : (R.ok x e).nox = .ok x e := rfl
theorem xx_ite {α : Type} {p : Prop} [Decidable p] {a b : R α} : (if p then a else b).nox = if p then a.nox else b.nox := by split <;> rfl
section
variable {g : MG} {t : M Bool} {m : M D} {vs : List Nat} {mi : M Src} {env : Env'} {ds : List D}
/-- a comprehension with a state -/
theorem compL_inv (I : List D → Env' → Prop) : ∀ {ds acc : List D} {e : Env'}, (∀ d ∈ ds, ∀ acc e, I acc e → ∃ x e', cStep g t m vs d e = .ok x e' ∧ I (acc ++ x.toList) e') → I acc e →
    ∃ acc' e', compL none g t m vs ds acc e = .ok acc' e' ∧ I acc' e'
  | [], acc, e, _, i => ⟨acc, e, by unfold compL; exact if_pos trivial, i⟩
  | d :: ds, acc, e, h, i => by
    obtain ⟨x, e', h1, h2⟩ := h d List.mem_cons_self acc e i
    obtain ⟨acc', e2, h3, h4⟩ := compL_inv I (fun d hd => h d (List.mem_cons_of_mem _ hd)) h2
    refine ⟨acc', e2, ?_, h4⟩
    rw [← h3]
    unfold cStep at h1
    conv => lhs; unfold compL
    rw [if_pos (by trivial : Wat.ok none e)]
    cases eg : g d e with
    | none => rw [eg] at h1; cases h1
    | some e1 =>
      rw [eg] at h1
      show (t e1).nox.bind _ = _
      have h1 : ((t e1).nox.bind fun b e2 => if b = true then (m e2).nox.bind fun x e3 => .ok (some x) (mKill vs e3) else .ok none (mKill vs e2)) = R.ok x e' := h1
      cases et : (t e1).nox with
      | bad => rw [et] at h1; cases h1
      | exc => rw [et] at h1; cases h1
      | ok b e2 =>
        rw [et] at h1
        show (if b = true then _ else _) = _
        have h1 : (if b = true then (m e2).nox.bind fun x e3 => .ok (some x) (mKill vs e3) else .ok none (mKill vs e2)) = R.ok x e' := h1
        cases b with
        | true =>
          rw [if_pos rfl] at h1 ⊢
          cases em : (m e2).nox with
          | bad => rw [em] at h1; cases h1
          | exc => rw [em] at h1; cases h1
          | ok x1 e3 =>
            rw [em] at h1
            cases h1
            rfl
        | false =>
          rw [if_neg (by decide)] at h1 ⊢
          cases h1
          simp
theorem compL_filter (h : D → Option D) {e : Env'} : ∀ {ds acc : List D}, (∀ d ∈ ds, cStep g t m vs d e = .ok (h d) e) → compL none g t m vs ds acc e = .ok (acc ++ ds.filterMap h) e := by
  intro ds acc hs
  have q : ∀ {ds acc : List D}, (∀ d ∈ ds, cStep g t m vs d e = .ok (h d) e) → compL none g t m vs ds acc e = .ok (acc ++ ds.filterMap h) e := by
    intro ds
    induction ds with
    | nil => intro acc _; unfold compL; rw [if_pos (by trivial : Wat.ok none e)]; simp
    | cons d ds ih =>
      intro acc hs
      have h1 := hs d List.mem_cons_self
      have h2 := ih (acc := acc ++ (h d).toList) fun d hd => hs d (List.mem_cons_of_mem _ hd)
      have h3 : acc ++ (d :: ds).filterMap h = acc ++ (h d).toList ++ ds.filterMap h := by
        rw [List.filterMap_cons]
        cases h d <;> simp
      rw [h3, ← h2]
      unfold cStep at h1
      conv => lhs; unfold compL
      rw [if_pos (by trivial : Wat.ok none e)]
      cases eg : g d e with
      | none => rw [eg] at h1; cases h1
      | some e1 =>
        rw [eg] at h1
        show (t e1).nox.bind _ = _
        have h1 : ((t e1).nox.bind fun b e2 => if b = true then (m e2).nox.bind fun x e3 => .ok (some x) (mKill vs e3) else .ok none (mKill vs e2)) = R.ok (h d) e := h1
        cases et : (t e1).nox with
        | bad => rw [et] at h1; cases h1
        | exc => rw [et] at h1; cases h1
        | ok b e2 =>
          rw [et] at h1
          show (if b = true then _ else _) = _
          have h1 : (if b = true then (m e2).nox.bind fun x e3 => .ok (some x) (mKill vs e3) else .ok none (mKill vs e2)) = R.ok (h d) e := h1
          cases b with
          | true =>
            rw [if_pos rfl] at h1 ⊢
            cases em : (m e2).nox with
            | bad => rw [em] at h1; cases h1
            | exc => rw [em] at h1; cases h1
            | ok x1 e3 =>
              rw [em] at h1
              show compL none g t m vs ds (acc ++ [x1]) (mKill vs e3) = _
              have h1 : R.ok (some x1) (mKill vs e3) = R.ok (h d) e := h1
              injection h1 with a b
              rw [b, ← a]
              rfl
          | false =>
            rw [if_neg (by decide)] at h1 ⊢
            injection h1 with a b
            rw [b, ← a]
            simp
  exact q hs
theorem mcomp_filter (h : D → Option D) (hm : mi env = .ok (ds, none) env) (hn : noCel env vs = true) (hl : ds.length ≤ sizeLine) (hr : restE env vs (mKill vs env) = env)
    (hs : ∀ d ∈ ds, cStep g t m vs d (mKill vs env) = .ok (h d) (mKill vs env)) : mComp mi g t m vs env = .ok (.lst (ds.filterMap h)) env := by
  unfold mComp
  rw [hm]
  show (if noCel env vs = true ∧ ds.length ≤ sizeLine then _ else _) = _
  rw [if_pos ⟨hn, hl⟩]
  show (compL none g t m vs ds [] (mKill vs env)).bind _ = _
  rw [compL_filter h hs]
  show R.ok _ _ = _
  rw [hr]
  rfl
theorem mcomp_map (h : D → D) (hm : mi env = .ok (ds, none) env) (hn : noCel env vs = true) (hl : ds.length ≤ sizeLine) (hr : restE env vs (mKill vs env) = env)
    (hs : ∀ d ∈ ds, cStep g t m vs d (mKill vs env) = .ok (some (h d)) (mKill vs env)) : mComp mi g t m vs env = .ok (.lst (ds.map h)) env := by
  rw [mcomp_filter (fun d => some (h d)) hm hn hl hr hs]
  congr 2
  simp
theorem mcomp_inv (I : List D → Env' → Prop) {env0 : Env'} (hm : mi env = .ok (ds, none) env0) (hn : noCel env0 vs = true) (hl : ds.length ≤ sizeLine) (i : I [] (mKill vs env0))
    (hs : ∀ d ∈ ds, ∀ acc e, I acc e → ∃ x e', cStep g t m vs d e = .ok x e' ∧ I (acc ++ x.toList) e') : ∃ acc e, mComp mi g t m vs env = .ok (.lst acc) (restE env0 vs e) ∧ I acc e := by
  obtain ⟨acc, e, h1, h2⟩ := compL_inv I hs i
  refine ⟨acc, e, ?_, h2⟩
  unfold mComp
  rw [hm]
  show (if noCel env0 vs = true ∧ ds.length ≤ sizeLine then _ else _) = _
  rw [if_pos ⟨hn, hl⟩]
  show (compL none g t m vs ds [] (mKill vs env0)).bind _ = _
  rw [h1]
  rfl
end
section
variable {g : MG} {b : MS} {c : M Bool} {N : Env' → Prop} {T : D → Env' → Prop}
/-- how a statement may end -/
def So.W (N : Env' → Prop) (T : D → Env' → Prop) : So → Prop
  | .nx e => N e
  | .ret d e => T d e
  | _ => False
/-- how a loop's body may end -/
def So.WL (I : Env' → Prop) (N : Env' → Prop) (T : D → Env' → Prop) : So → Prop
  | .nx e => I e
  | .ct e => I e
  | .bk e => N e
  | .ret d e => T d e
  | _ => False
theorem for_W (I : Nat → Env' → Prop) : ∀ (ds : List D) (k : Nat) (e : Env'), I k e → (∀ i d, ds[i]? = some d → ∀ e, I (k + i) e → ∃ e1, g d e = some e1 ∧ (b e1).WL (I (k + i + 1)) N T) → (∀ e, I (k + ds.length) e → N e) → (forL none g b ds e).W N T
  | [], k, e, i, _, hN => by
    unfold forL
    rw [if_pos (by trivial : Wat.ok none e)]
    exact hN e i
  | d :: ds, k, e, i, h, hN => by
    unfold forL
    rw [if_pos (by trivial : Wat.ok none e)]
    obtain ⟨e1, h1, h2⟩ := h 0 d rfl e i
    rw [h1]
    show So.W N T (match b e1 with | .nx e => forL none g b ds e | .ct e => forL none g b ds e | .bk e => .nx e | r => r)
    have up : ∀ e', I (k + 1) e' → (forL none g b ds e').W N T := fun e' i' => for_W I ds (k + 1) e' i' (fun j d hj e ie => by
      have := h (j + 1) d hj e (by rw [show k + (j + 1) = k + 1 + j by omega]; exact ie)
      rw [show k + (j + 1) + 1 = k + 1 + j + 1 by omega] at this
      exact this) (fun e ie => hN e (by rw [show k + (d :: ds).length = k + 1 + ds.length by simp; omega]; exact ie))
    cases eb : b e1 with
    | nx e' => rw [eb] at h2; exact up e' h2
    | ct e' => rw [eb] at h2; exact up e' h2
    | bk e' => rw [eb] at h2; exact h2
    | ret d e' => rw [eb] at h2; exact h2
    | rnew _ _ => rw [eb] at h2; exact h2.elim
    | exc _ _ _ => rw [eb] at h2; exact h2.elim
    | bad => rw [eb] at h2; exact h2.elim
theorem while_of {n : Nat} {env : Env'} (h : (whileN c b n env).good) : mWhile c b env = whileN c b n env := by
  have up : ∀ {n k : Nat}, (whileN c b n env).good → whileN c b (n + k) env = whileN c b n env := by
    intro n k hg
    induction k with
    | zero => rfl
    | succ k ih => rw [show n + (k + 1) = n + k + 1 by omega, whileN_up (by rw [ih]; exact hg), ih]
  unfold mWhile
  rw [dif_pos ⟨n, h⟩]
  have h2 := Classical.choose_spec (⟨n, h⟩ : ∃ n, (whileN c b n env).good)
  rcases Nat.le_total n (Classical.choose (⟨n, h⟩ : ∃ n, (whileN c b n env).good)) with l | l
  · obtain ⟨k, hk⟩ := Nat.exists_eq_add_of_le l
    rw [hk]
    exact up h
  · obtain ⟨k, hk⟩ := Nat.exists_eq_add_of_le l
    have := up (k := k) h2
    rw [← hk] at this
    exact this.symm
theorem W_good {r : So} (h : r.W N T) : r.good := by
  cases r <;> first | trivial | exact h.elim
theorem while_W (I : Env' → Prop) (μ : Env' → Nat) (h : ∀ e, I e → ∃ t e1, c e = .ok t e1 ∧ (t = false → N e1) ∧ (t = true → (b e1).WL (fun e' => I e' ∧ μ e' < μ e) N T)) {env : Env'} (i : I env) : (mWhile c b env).W N T := by
  have q : ∀ (n : Nat) (e : Env'), μ e < n → I e → (whileN c b n e).W N T := by
    intro n
    induction n with
    | zero => intro e he; omega
    | succ n ih =>
      intro e he ie
      obtain ⟨t, e1, h1, h2, h3⟩ := h e ie
      show So.W N T ((c e).so fun t env => if t = true then (match b env with
        | .nx e => whileN c b n e
        | .ct e => whileN c b n e
        | .bk e => .nx e
        | r => r) else .nx env)
      rw [h1]
      show So.W N T (if t = true then (match b e1 with
        | .nx e => whileN c b n e
        | .ct e => whileN c b n e
        | .bk e => .nx e
        | r => r) else .nx e1)
      cases t with
      | false => exact h2 rfl
      | true =>
        rw [if_pos rfl]
        have h3 := h3 rfl
        cases eb : b e1 with
        | nx e' => rw [eb] at h3; exact ih e' (by have := h3.2; omega) h3.1
        | ct e' => rw [eb] at h3; exact ih e' (by have := h3.2; omega) h3.1
        | bk e' => rw [eb] at h3; exact h3
        | ret d e' => rw [eb] at h3; exact h3
        | rnew _ _ => rw [eb] at h3; exact h3.elim
        | exc _ _ _ => rw [eb] at h3; exact h3.elim
        | bad => rw [eb] at h3; exact h3.elim
  have w := q (μ env + 1) env (Nat.lt_succ_self _) i
  rw [while_of (W_good w)]
  exact w
theorem xm_for {m : M Src} {env env' : Env'} {ds : List D} (h : m env = .ok (ds, none) env') : mFor m g b env = forL none g b ds env' := by
  unfold mFor
  rw [h]
  rfl
end
end Mi
namespace Mi
open PySem PySem.Spec L2
open PyProof.Rows hiding St
local macro_rules | `(tactic| dsimp! only [$ls,*]) => `(tactic| (simp -dsimp only [xb_ok, xb_exc, xb_bad, xb_ite, xo_ok, xo_exc, xo_bad, xo_ite, xp_some, xp_none, xp_ite, xe_some, xe_none, xs_nx, xs_bk, xs_ct, xs_ret, xs_rnew, xs_exc, xs_bad, xs_ite,
     xf_ite, xk_ite, xm_seq, xm_fn, xm_call, xm_callN, xm_and, xm_or, xk_and, xk_or, xa_0, xa_1, xa_n, xa_nat, xi_n, xi_nat, Int.ofNat_lt, Int.ofNat_le,
     xf_ret, xf_rnew, xf_nx, xf_exc, xf_bad, xk_ret, xk_exc, xk_bad, xn_new, xn_exc, finS, backE, argSlots, mutIx, frzAt, xm_skip, xm_drop, xm_ret, xm_retN, xm_retF, xm_ifS, xm_asg, xm_asgNew, xm_lstC, xm_mut, xm_set, xm_aug, xm_pre, xm_C, xm_nm, xm_ex, xm_val, xm_nil, xm_cons, xm_bin, xm_binF, xm_un, xm_isi, xm_callD, xm_callF, xm_owns, xm_isT, xm_andT, xm_orT, xm_not, xm_notV, xm_if, xm_meth, xm_slice, xm_noP, xm_P, xm_chain, xk_chain, xm_fr, xm_frL, xm_raise, xm_yes, xm_newD, xg_N, xg_nil, xg_cons, xg_T,
     slotD, slotV, Arg.rd, Arg.own, rds, owns, Cell.frz, Cell.ty, dTup, dLst, dAdd, dSub, dMod, dDiv, dPow, dMulI, dMul, dInts, dNeg, dLt, dLe, dGt, dGe, dCmpI, dIxD, dIx, dIs, dIsNot, D.isNon, dLen, isTy, dIntOf, dListOf, dTupOf, cAppend, xpop, cSetX, cSetL, dAddI,
     List.length_cons, List.length_nil, List.getElem?_cons_zero, List.getElem?_cons_succ, List.getElem?_nil, List.set_cons_zero, List.set_cons_succ, List.set_nil, List.cons_append, List.nil_append, List.append_nil, List.replicate, List.nodup_cons, List.not_mem_nil, List.nodup_nil, List.mem_singleton,
     Option.map_some, Option.map_none, Option.bind_some, Option.bind_none, if_true, if_false, ite_true, ite_false, reduceIte, reduceCtorEq, not_false_eq_true, not_true_eq_false, and_true, true_and, and_false, false_and, or_true, true_or, or_false, false_or, decide_eq_true_eq, Bool.not_true, Bool.not_false, Bool.true_eq_false, Bool.false_eq_true, Nat.reduceAdd, Nat.reduceSub, Nat.reduceEqDiff, Nat.reduceLeDiff, Nat.reduceLT, Nat.reduceMul, Int.reduceAdd, Int.reduceLT, Int.reduceLE, Int.reduceNeg, Int.reduceSub, Int.reduceToNat, Int.reducePow, Int.reduceMul, Int.natCast_add, Int.cast_ofNat_Int, Int.sub_zero, gt_iff_lt, ge_iff_le, String.reduceEq, String.reduceBEq, beq_self_eq_true, Nat.zero_add, sizeLine, Nat.reducePow, decide_true, decide_false, $ls,*]))
/-! ### plain things of all laws -/
structure DS where
  sc : List Int
  pos : Nat
  big : Int
  seed : Int
def DS.c (s : DS) : Cell := .lst [.lst (s.sc.map .int), .int s.pos, .int s.big, .int s.seed]
/-- what is read from the script -/
def DS.fill (s : DS) : DS := if s.big = 0 ∧ s.pos < s.sc.length then
  { s with pos := s.pos + 1, big := if s.sc.getD s.pos 0 ≥ 10 ^ 18 then s.sc.getD s.pos 0 else s.big, seed := (s.seed * 48271 + s.sc.getD s.pos 0 + 13) % 2147483647 } else s
def DS.next (s : DS) (n : Int) : DS := if s.fill.big > 0 then { s.fill with big := s.fill.big / n } else { s.fill with seed := (s.fill.seed * 69621 + 7) % 2147483629 }
def DS.val (s : DS) (n : Int) : Int := if s.fill.big > 0 then s.fill.big % n else (s.fill.seed * 69621 + 7) % 2147483629 / 11 % n
theorem DS.val_nonneg (s : DS) {n : Int} (h : 0 < n) : 0 ≤ s.val n := by
  unfold DS.val
  split
  · exact Int.emod_nonneg _ (by omega)
  · exact Int.emod_nonneg _ (by omega)
theorem DS.val_lt (s : DS) {n : Int} (h : 0 < n) : s.val n < n := by
  unfold DS.val
  split
  · exact Int.emod_lt_of_pos _ h
  · exact Int.emod_lt_of_pos _ h
theorem eq_ii {i j : Int} : dEq (.int i) (.int j) = some (.bl (decide (i = j))) := by
  have e : dEq (.int i) (.int j) = some (.bl (i == j)) := rfl
  rw [e]; rfl
theorem cpow_18 : CPow 10 18 := by decide
theorem cmul_r {i j : Int} (h : j < 2 ^ 64) (h' : -(2 ^ 64) < j) : CMul i j := .inr ⟨h', h⟩
theorem xn_noCel0 {env : Env'} : noCel env [] = true := rfl
theorem xn_noCel {env : Env'} {i : Nat} {vs : List Nat} : noCel env (i :: vs) = ((match env[i]? with
  | some (.cel _ _) => false
  | _ => true) && noCel env vs) := rfl
theorem xr_0 {env0 env : Env'} : restE env0 [] env = env := rfl
theorem xr_1 {env0 env : Env'} {i : Nat} {vs : List Nat} : restE env0 (i :: vs) env = (restE env0 vs env).set i ((env0[i]?).getD .emp) := rfl
theorem xl_0 {env : Env'} : mKill [] env = env := rfl
theorem xl_1 {env : Env'} {i : Nat} {vs : List Nat} : mKill (i :: vs) env = mKill vs (env.set i .emp) := rfl
/-- the walked things that are no dicts, objects or exceptions -/
def D.pl : D → Bool
  | .dct _ => false | .ins _ _ => false | .exo => false
  | .str x => decide (x.length ≤ 100)
  | _ => true
theorem boolsOf_map {α : Type} (f : α → Bool) : ∀ xs : List α, boolsOf (xs.map fun x => D.bl (f x)) = some (xs.map f)
  | [] => rfl
  | x :: xs => by
    show (boolsOf (xs.map fun x => D.bl (f x))).map (f x :: ·) = _
    rw [boolsOf_map f xs]
    rfl
theorem xd_all {α : Type} (f : α → Bool) (xs : List α) : dAll [.lst (xs.map fun x => D.bl (f x))] = some (.bl (xs.all f)) := by
  show (boolsOf _).map _ = _
  rw [boolsOf_map]
  simp [List.all_map]
theorem length_chars (x : Str) : (chars x).length = x.length := by simp [chars]; rfl
end Mi
namespace Mi
open PySem PySem.Spec L2
open PyProof.Rows hiding St
local macro_rules | `(tactic| dsimp! only [$ls,*]) => `(tactic| (simp -dsimp only [xb_ok, xb_exc, xb_bad, xb_ite, xo_ok, xo_exc, xo_bad, xo_ite, xp_some, xp_none, xp_ite, xe_some, xe_none, xs_nx, xs_bk, xs_ct, xs_ret, xs_rnew, xs_exc, xs_bad, xs_ite,
     xf_ite, xk_ite, xm_seq, xm_fn, xm_call, xm_callN, xm_and, xm_or, xk_and, xk_or, xa_0, xa_1, xa_n, xa_nat, xi_n, xi_nat, Int.ofNat_lt, Int.ofNat_le,
     xf_ret, xf_rnew, xf_nx, xf_exc, xf_bad, xk_ret, xk_exc, xk_bad, xn_new, xn_exc, finS, backE, argSlots, mutIx, frzAt, xm_skip, xm_drop, xm_ret, xm_retN, xm_retF, xm_ifS, xm_asg, xm_asgNew, xm_lstC, xm_mut, xm_set, xm_aug, xm_pre, xm_C, xm_nm, xm_ex, xm_val, xm_nil, xm_cons, xm_bin, xm_binF, xm_un, xm_isi, xm_callD, xm_callF, xm_owns, xm_isT, xm_andT, xm_orT, xm_not, xm_notV, xm_if, xm_meth, xm_slice, xm_noP, xm_P, xm_chain, xk_chain, xm_fr, xm_frL, xm_raise, xm_yes, xm_newD, xg_N, xg_nil, xg_cons, xg_T,
     slotD, slotV, Arg.rd, Arg.own, rds, owns, Cell.frz, Cell.ty, dTup, dLst, dAdd, dSub, dMod, dDiv, dPow, dMulI, dMul, dInts, dNeg, dLt, dLe, dGt, dGe, dCmpI, dIxD, dIx, dIs, dIsNot, D.isNon, dLen, isTy, dIntOf, dListOf, dTupOf, cAppend, xpop, cSetX, cSetL, dAddI,
     List.length_cons, List.length_nil, List.getElem?_cons_zero, List.getElem?_cons_succ, List.getElem?_nil, List.set_cons_zero, List.set_cons_succ, List.set_nil, List.cons_append, List.nil_append, List.append_nil, List.replicate, List.nodup_cons, List.not_mem_nil, List.nodup_nil, List.mem_singleton,
     Option.map_some, Option.map_none, Option.bind_some, Option.bind_none, if_true, if_false, ite_true, ite_false, reduceIte, reduceCtorEq, not_false_eq_true, not_true_eq_false, and_true, true_and, and_false, false_and, or_true, true_or, or_false, false_or, decide_eq_true_eq, Bool.not_true, Bool.not_false, Bool.true_eq_false, Bool.false_eq_true, Nat.reduceAdd, Nat.reduceSub, Nat.reduceEqDiff, Nat.reduceLeDiff, Nat.reduceLT, Nat.reduceMul, Int.reduceAdd, Int.reduceLT, Int.reduceLE, Int.reduceNeg, Int.reduceSub, Int.reduceToNat, Int.reducePow, Int.reduceMul, Int.natCast_add, Int.cast_ofNat_Int, Int.sub_zero, gt_iff_lt, ge_iff_le, String.reduceEq, String.reduceBEq, beq_self_eq_true, Nat.zero_add, sizeLine, Nat.reducePow, decide_true, decide_false, $ls,*]))
/-! ### dict comprehensions and sorted rows of texts -/
def dStep (g : MG) (t : M Bool) (mk m : M D) (vs : List Nat) (d : D) (e : Env') : R (Option (D × D)) := match g d e with
  | none => .bad
  | some e1 => (t e1).nox.bind fun b e2 => if b = true then (mk e2).nox.bind fun y e3 => (m e3).nox.bind fun z e4 => .ok (some (y, z)) (mKill vs e4) else .ok none (mKill vs e2)
def putO (acc : List (D × D)) (o : Option (Key × D)) : List (D × D) := match o with
  | some (k, z) => putD acc k z
  | none => acc
section
variable {g : MG} {t : M Bool} {mk m : M D} {vs : List Nat} {mi : M Src} {env : Env'} {ds : List D}
theorem compDL_eq (h : D → Option (Key × D)) {e : Env'} : ∀ {ds : List D} {acc : List (D × D)}, (∀ d ∈ ds, dStep g t mk m vs d e = .ok ((h d).map fun q => (keyD q.1, q.2)) e) → compDL none g t mk m vs ds acc e = .ok (ds.foldl (fun acc d => putO acc (h d)) acc) e := by
  intro ds
  induction ds with
  | nil => intro acc _; unfold compDL; rw [if_pos (by trivial : Wat.ok none e)]; rfl
  | cons d ds ih =>
    intro acc hs
    have h1 := hs d List.mem_cons_self
    have h2 := ih (acc := putO acc (h d)) fun d hd => hs d (List.mem_cons_of_mem _ hd)
    rw [List.foldl_cons, ← h2]
    unfold dStep at h1
    conv => lhs; unfold compDL
    rw [if_pos (by trivial : Wat.ok none e)]
    cases eg : g d e with
    | none => rw [eg] at h1; cases h1
    | some e1 =>
      rw [eg] at h1
      show (t e1).nox.bind _ = _
      have h1 : ((t e1).nox.bind fun b e2 => if b = true then (mk e2).nox.bind fun y e3 => (m e3).nox.bind fun z e4 => .ok (some (y, z)) (mKill vs e4) else .ok none (mKill vs e2)) = R.ok ((h d).map fun q => (keyD q.1, q.2)) e := h1
      cases et : (t e1).nox with
      | bad => rw [et] at h1; cases h1
      | exc => rw [et] at h1; cases h1
      | ok b e2 =>
        rw [et] at h1
        show (if b = true then _ else _) = _
        have h1 : (if b = true then (mk e2).nox.bind fun y e3 => (m e3).nox.bind fun z e4 => .ok (some (y, z)) (mKill vs e4) else .ok none (mKill vs e2)) = R.ok ((h d).map fun q => (keyD q.1, q.2)) e := h1
        cases b with
        | true =>
          rw [if_pos rfl] at h1 ⊢
          cases ek : (mk e2).nox with
          | bad => rw [ek] at h1; cases h1
          | exc => rw [ek] at h1; cases h1
          | ok y e3 =>
            rw [ek] at h1
            have h1 : ((m e3).nox.bind fun z e4 => .ok (some (y, z)) (mKill vs e4)) = R.ok ((h d).map fun q => (keyD q.1, q.2)) e := h1
            show ((m e3).nox.bind fun z e4 => match keyOf y with | some k => compDL none g t mk m vs ds (putD acc k z) (mKill vs e4) | none => .bad) = _
            cases em : (m e3).nox with
            | bad => rw [em] at h1; cases h1
            | exc => rw [em] at h1; cases h1
            | ok z e4 =>
              rw [em] at h1
              have h1 : R.ok (some (y, z)) (mKill vs e4) = R.ok ((h d).map fun q => (keyD q.1, q.2)) e := h1
              show (match keyOf y with | some k => compDL none g t mk m vs ds (putD acc k z) (mKill vs e4) | none => .bad) = _
              injection h1 with a b
              rw [b]
              cases eh : h d with
              | none => rw [eh] at a; cases a
              | some q =>
                rw [eh] at a
                injection a with a
                injection a with a1 a2
                subst a1 a2
                have : keyOf (keyD q.1) = some q.1 := by cases q.1 <;> rfl
                rw [this]
                rfl
        | false =>
          rw [if_neg (by decide)] at h1 ⊢
          injection h1 with a b
          rw [b]
          cases eh : h d with
          | none => rfl
          | some q => rw [eh] at a; cases a
theorem mdcomp (h : D → Option (Key × D)) (hm : mi env = .ok (ds, none) env) (hn : noCel env vs = true) (hl : ds.length ≤ sizeLine) (hr : restE env vs (mKill vs env) = env)
    (hs : ∀ d ∈ ds, dStep g t mk m vs d (mKill vs env) = .ok ((h d).map fun q => (keyD q.1, q.2)) (mKill vs env)) : mDComp mi g t mk m vs env = .ok (.dct (ds.foldl (fun acc d => putO acc (h d)) [])) env := by
  unfold mDComp
  rw [hm]
  show (if noCel env vs = true ∧ ds.length ≤ sizeLine then _ else _) = _
  rw [if_pos ⟨hn, hl⟩]
  show (compDL none g t mk m vs ds [] (mKill vs env)).bind _ = _
  rw [compDL_eq h hs]
  show R.ok _ _ = _
  rw [hr]
end
/-- the texts of a row, each once -/
def dedS : List Str → List Str
  | [] => []
  | x :: xs => if x ∈ xs then dedS xs else x :: dedS xs
theorem mem_dedS {y : Str} : ∀ {xs : List Str}, y ∈ dedS xs ↔ y ∈ xs
  | [] => Iff.rfl
  | x :: xs => by
    rw [dedS]
    split
    · rename_i h
      rw [mem_dedS, List.mem_cons]
      exact ⟨.inr, fun z => z.elim (fun e => e ▸ h) id⟩
    · rw [List.mem_cons, List.mem_cons, mem_dedS]
theorem nodup_dedS : ∀ xs : List Str, (dedS xs).Nodup
  | [] => List.nodup_nil
  | x :: xs => by
    rw [dedS]
    split
    · exact nodup_dedS xs
    · rename_i h
      exact List.nodup_cons.mpr ⟨fun z => h (mem_dedS.mp z), nodup_dedS xs⟩
theorem length_dedS : ∀ xs : List Str, (dedS xs).length ≤ xs.length
  | [] => Nat.le_refl _
  | x :: xs => by
    have := length_dedS xs
    rw [dedS]
    split <;> simp <;> omega
def sortS (xs : List Str) : List Str := (dedS xs).mergeSort leS
theorem sortS_uniq {xs l : List Str} (nd : l.Nodup) (hm : ∀ x, x ∈ l ↔ x ∈ xs) : l.mergeSort leS = sortS xs := by
  have p : l.Perm (dedS xs) := (List.perm_ext_iff_of_nodup nd (nodup_dedS xs)).mpr fun k => by rw [hm k, mem_dedS]
  exact List.Perm.eq_of_pairwise (le := fun a b => leS a b = true) (fun a b _ _ h1 h2 => leS_antisymm h1 h2) (List.pairwise_mergeSort leS_trans leS_total l) (List.pairwise_mergeSort leS_trans leS_total _) (((List.mergeSort_perm l leS).trans p).trans (List.mergeSort_perm _ leS).symm)
theorem keysOf_str : ∀ xs : List Str, keysOf (xs.map .str) = some (xs.map .inr)
  | [] => rfl
  | x :: xs => by
    show (match keyOf (.str x), keysOf (xs.map .str) with | some k, some ks => some (k :: ks) | _, _ => none) = _
    rw [keysOf_str xs]
    rfl
theorem dedupK_str : ∀ xs : List Str, dedupK (xs.map .inr) = (dedS xs).map .inr
  | [] => rfl
  | x :: xs => by
    rw [List.map_cons, dedupK, dedS, dedupK_str xs]
    by_cases h : x ∈ xs
    · rw [if_pos h, if_pos (hasK_iff.mpr (List.mem_map.mpr ⟨x, h, rfl⟩))]
    · rw [if_neg h, if_neg fun z => h ?_]
      · rfl
      · obtain ⟨y, hy, e⟩ := List.mem_map.mp (hasK_iff.mp z)
        cases e
        exact hy
theorem leK_leS (x y : Str) : leK (.inr x) (.inr y) = leS x y := by
  rw [leK_inr]
  unfold leS
  by_cases h : y.cps.toList < x.cps.toList
  · rw [decide_eq_true h, decide_eq_false (List.not_le.mpr h)]; rfl
  · rw [decide_eq_false h, decide_eq_true (List.not_lt.mp h)]; rfl
theorem fSortSet_str (xs : List Str) (h : xs.length < 64) : fSortSet (.lst (xs.map .str)) = some (.lst ((sortS xs).map .str)) := by
  show (keysOf (xs.map .str)).bind _ = _
  rw [keysOf_str]
  show (if homog (xs.map .inr) = true ∧ (xs.map Sum.inr).length < 64 then _ else _) = _
  have hh : homog (xs.map (Sum.inr : Str → Key)) = true := by
    unfold homog
    rw [Bool.or_eq_true]
    right
    rw [List.all_eq_true]
    intro k hk
    obtain ⟨y, _, rfl⟩ := List.mem_map.mp hk
    rfl
  rw [if_pos ⟨hh, by simpa using h⟩]
  congr 2
  unfold sortK sortS
  rw [dedupK_str, ← List.map_mergeSort (r := leS) (s := leK) (f := Sum.inr) (fun a _ b _ => (leK_leS a b).symm), List.map_map]
  rfl
/-- what keys a dict of texts has -/
def addS (ks : List Str) (x : Str) : List Str := if x ∈ ks then ks else ks ++ [x]
theorem putD_keys {kvs : List (D × D)} {ks : List Str} (e : kvs.map (·.1) = ks.map .str) (x : Str) (z : D) : (putD kvs (.inr x) z).map (·.1) = (addS ks x).map .str := by
  have ea : (kvs.any fun kv => eqKey kv.1 (.inr x)) = decide (x ∈ ks) := by
    have : (kvs.any fun kv => eqKey kv.1 (.inr x)) = ((kvs.map (·.1)).any fun k => eqKey k (.inr x)) := by rw [List.any_map]; rfl
    rw [this, e, List.any_map, Bool.eq_iff_iff, List.any_eq_true, decide_eq_true_eq]
    constructor
    · rintro ⟨y, hy, q⟩
      have q : decide (y = x) = true := q
      exact (of_decide_eq_true q) ▸ hy
    · intro hx
      exact ⟨x, hx, decide_eq_true rfl⟩
  unfold putD addS
  rw [ea]
  by_cases h : x ∈ ks
  · rw [if_pos (decide_eq_true h), if_pos h, ← e, List.map_map]
    apply List.map_congr_left
    intro kv _
    show (if eqKey kv.1 (.inr x) = true then (kv.1, z) else kv).1 = kv.1
    split <;> rfl
  · rw [if_neg (by rw [decide_eq_false h]; decide), if_neg h, List.map_append, List.map_append, e]
    rfl
theorem addS_nodup {ks : List Str} (h : ks.Nodup) (x : Str) : (addS ks x).Nodup := by
  unfold addS
  split
  · exact h
  · rename_i hx
    exact List.nodup_append.mpr ⟨h, by simp, fun a ha b hb => by simp at hb; subst hb; exact fun e => hx (e ▸ ha)⟩
theorem mem_addS {ks : List Str} {x y : Str} : y ∈ addS ks x ↔ y ∈ ks ∨ y = x := by
  unfold addS
  split
  · rename_i hx
    exact ⟨.inl, fun z => z.elim id fun e => e ▸ hx⟩
  · rw [List.mem_append, List.mem_singleton]
theorem keysS_of : ∀ {kvs : List (D × D)} {ks : List Str}, kvs.map (·.1) = ks.map .str → keysS kvs = some ks := by
  intro kvs ks e
  unfold keysS
  rw [e]
  clear e
  induction ks with
  | nil => rfl
  | cons k ks ih =>
    rw [List.map_cons, List.mapM_cons, ih]
    rfl
def kvS (v : Str → D) (d : D) : Option (Key × D) := match d with
  | .str x => some (.inr x, v x)
  | _ => none
/-- sorted({x: .. for x in xs}) -/
theorem dSorted_dct (xs : List Str) (v : Str → D) (h : xs.length < 64) : dSorted [.dct ((xs.map D.str).foldl (fun acc d => putO acc (kvS v d)) [])] = some (.lst ((sortS xs).map .str)) := by
  have q : ∀ (xs ks : List Str) (kvs : List (D × D)), kvs.map (·.1) = ks.map .str → ks.Nodup → ∃ ks' : List Str, ((xs.map D.str).foldl (fun acc d => putO acc (kvS v d)) kvs).map (·.1) = ks'.map .str ∧ ks'.Nodup ∧ (∀ x, x ∈ ks' ↔ x ∈ ks ∨ x ∈ xs) ∧ ks'.length ≤ ks.length + xs.length := by
    intro xs
    induction xs with
    | nil => intro ks kvs e nd; exact ⟨ks, e, nd, by simp, by simp⟩
    | cons x xs ih =>
      intro ks kvs e nd
      obtain ⟨ks', h1, h2, h3, h4⟩ := ih (addS ks x) (putD kvs (.inr x) (v x)) (putD_keys e x _) (addS_nodup nd x)
      refine ⟨ks', h1, h2, fun y => ?_, ?_⟩
      · rw [h3 y, mem_addS, List.mem_cons, or_assoc]
      · have : (addS ks x).length ≤ ks.length + 1 := by unfold addS; split <;> simp
        simp; omega
  obtain ⟨ks, h1, h2, h3, h4⟩ := q xs [] [] rfl List.nodup_nil
  show (match keysS _ with | some ks => if ks.length < 64 then some (Cell.lst ((ks.mergeSort leS).map .str)) else none | none => none) = _
  rw [keysS_of h1]
  show (if ks.length < 64 then some (Cell.lst ((ks.mergeSort leS).map .str)) else none) = _
  rw [if_pos (by simp at h4; omega), sortS_uniq (xs := xs) h2 (fun x => by rw [h3 x]; simp)]
end Mi
namespace Mi
open PySem PySem.Spec L2
open PyProof.Rows hiding St
local macro_rules | `(tactic| dsimp! only [$ls,*]) => `(tactic| (simp -dsimp only [xb_ok, xb_exc, xb_bad, xb_ite, xo_ok, xo_exc, xo_bad, xo_ite, xp_some, xp_none, xp_ite, xe_some, xe_none, xs_nx, xs_bk, xs_ct, xs_ret, xs_rnew, xs_exc, xs_bad, xs_ite,
     xf_ite, xk_ite, xm_seq, xm_fn, xm_call, xm_callN, xm_and, xm_or, xk_and, xk_or, xa_0, xa_1, xa_n, xa_nat, xi_n, xi_nat, Int.ofNat_lt, Int.ofNat_le,
     xf_ret, xf_rnew, xf_nx, xf_exc, xf_bad, xk_ret, xk_exc, xk_bad, xn_new, xn_exc, finS, backE, argSlots, mutIx, frzAt, xm_skip, xm_drop, xm_ret, xm_retN, xm_retF, xm_ifS, xm_asg, xm_asgNew, xm_lstC, xm_mut, xm_set, xm_aug, xm_pre, xm_C, xm_nm, xm_ex, xm_val, xm_nil, xm_cons, xm_bin, xm_binF, xm_un, xm_isi, xm_callD, xm_callF, xm_owns, xm_isT, xm_andT, xm_orT, xm_not, xm_notV, xm_if, xm_meth, xm_slice, xm_noP, xm_P, xm_chain, xk_chain, xm_fr, xm_frL, xm_raise, xm_yes, xm_newD, xg_N, xg_nil, xg_cons, xg_T,
     slotD, slotV, Arg.rd, Arg.own, rds, owns, Cell.frz, Cell.ty, dTup, dLst, dAdd, dSub, dMod, dDiv, dPow, dMulI, dMul, dInts, dNeg, dLt, dLe, dGt, dGe, dCmpI, dIxD, dIx, dIs, dIsNot, D.isNon, dLen, isTy, dIntOf, dListOf, dTupOf, cAppend, xpop, cSetX, cSetL, dAddI,
     List.length_cons, List.length_nil, List.getElem?_cons_zero, List.getElem?_cons_succ, List.getElem?_nil, List.set_cons_zero, List.set_cons_succ, List.set_nil, List.cons_append, List.nil_append, List.append_nil, List.replicate, List.nodup_cons, List.not_mem_nil, List.nodup_nil, List.mem_singleton,
     Option.map_some, Option.map_none, Option.bind_some, Option.bind_none, if_true, if_false, ite_true, ite_false, reduceIte, reduceCtorEq, not_false_eq_true, not_true_eq_false, and_true, true_and, and_false, false_and, or_true, true_or, or_false, false_or, decide_eq_true_eq, Bool.not_true, Bool.not_false, Bool.true_eq_false, Bool.false_eq_true, Nat.reduceAdd, Nat.reduceSub, Nat.reduceEqDiff, Nat.reduceLeDiff, Nat.reduceLT, Nat.reduceMul, Int.reduceAdd, Int.reduceLT, Int.reduceLE, Int.reduceNeg, Int.reduceSub, Int.reduceToNat, Int.reducePow, Int.reduceMul, Int.natCast_add, Int.cast_ofNat_Int, Int.sub_zero, gt_iff_lt, ge_iff_le, String.reduceEq, String.reduceBEq, beq_self_eq_true, Nat.zero_add, sizeLine, Nat.reducePow, decide_true, decide_false, $ls,*]))
/-! ### rows that are compared -/
mutual
/-- deep: no dicts, objects, exceptions; texts are short -/
def D.ok : D → Bool
  | .dct _ => false | .ins _ _ => false | .exo => false
  | .str x => PyData.strOk x && decide (x.length ≤ 100)
  | .tup xs => oks xs
  | .lst xs => oks xs
  | .non => true | .bl _ => true | .int _ => true
def oks : List D → Bool
  | [] => true
  | d :: ds => d.ok && oks ds
end
theorem oks_iff : ∀ {ds : List D}, oks ds = true ↔ ∀ d ∈ ds, d.ok = true
  | [] => ⟨fun _ d h => (nomatch h), fun _ => rfl⟩
  | d :: ds => by
    show (d.ok && oks ds) = true ↔ _
    rw [Bool.and_eq_true, oks_iff, List.forall_mem_cons]
theorem D.ok_pl {d : D} (h : d.ok = true) : d.pl = true := by
  cases d with
  | str x =>
    have h : (PyData.strOk x && decide (x.length ≤ 100)) = true := h
    rw [Bool.and_eq_true] at h
    exact h.2
  | dct _ => cases h
  | ins _ _ => cases h
  | exo => cases h
  | _ => rfl
theorem toPys_of (p : D → PyData) : ∀ ds : List D, (∀ d ∈ ds, toPy d = some (p d)) → toPys ds = some (ds.map p)
  | [], _ => rfl
  | d :: ds, h => by
    show (match toPy d, toPys ds with | some p, some ps => some (p :: ps) | _, _ => none) = _
    rw [h d List.mem_cons_self, toPys_of p ds fun e he => h e (List.mem_cons_of_mem _ he)]
    rfl
theorem toPys_int : ∀ xs : List Int, toPys (xs.map .int) = some (xs.map .int)
  | [] => rfl
  | x :: xs => by
    show (match toPy (.int x), toPys (xs.map .int) with | some p, some ps => some (p :: ps) | _, _ => none) = _
    rw [toPys_int xs]
    rfl
theorem toPys_str : ∀ xs : List Str, toPys (xs.map .str) = some (xs.map .str)
  | [] => rfl
  | x :: xs => by
    show (match toPy (.str x), toPys (xs.map .str) with | some p, some ps => some (p :: ps) | _, _ => none) = _
    rw [toPys_str xs]
    rfl
theorem depth_flat : ∀ {ps : List PyData}, (∀ p ∈ ps, p.depth = 0) → PyData.depthAll ps = 0
  | [], _ => rfl
  | p :: ps, h => by
    show max p.depth (PyData.depthAll ps) = 0
    rw [h p List.mem_cons_self, depth_flat fun q hq => h q (List.mem_cons_of_mem _ hq)]
    rfl
theorem canLay_all : ∀ {ps : List PyData}, (∀ p ∈ ps, p.canLay0 = true) → PyData.canLayAll0 ps = true
  | [], _ => rfl
  | p :: ps, h => by
    show (p.canLay0 && PyData.canLayAll0 ps) = true
    rw [h p List.mem_cons_self, canLay_all fun q hq => h q (List.mem_cons_of_mem _ hq)]
    rfl
theorem shaped_flat {ps : List PyData} (h : ∀ p ∈ ps, p.canLay0 = true ∧ p.depth = 0) : SeqAt.shaped (.list ps) = true := by
  show (PyData.canLayAll0 ps && decide (PyData.depthAll ps + 1 ≤ 64)) = true
  rw [canLay_all fun p hp => (h p hp).1, depth_flat fun p hp => (h p hp).2]
  rfl
theorem shaped_ints (xs : List Int) : SeqAt.shaped (.list (xs.map .int)) = true := shaped_flat fun p hp => by
  obtain ⟨x, _, rfl⟩ := List.mem_map.mp hp
  exact ⟨rfl, rfl⟩
theorem shaped_strs {xs : List Str} (h : ∀ x ∈ xs, PyData.strOk x = true) : SeqAt.shaped (.list (xs.map .str)) = true := shaped_flat fun p hp => by
  obtain ⟨x, hx, rfl⟩ := List.mem_map.mp hp
  exact ⟨h x hx, rfl⟩
theorem eqvAll_strs : ∀ xs ys : List Str, PyData.eqvAll (xs.map .str) (ys.map .str) = decide (xs = ys)
  | [], [] => rfl
  | [], y :: ys => rfl
  | x :: xs, [] => rfl
  | x :: xs, y :: ys => by
    show (x == y && PyData.eqvAll (xs.map .str) (ys.map .str)) = _
    rw [eqvAll_strs xs ys, Bool.eq_iff_iff, Bool.and_eq_true, decide_eq_true_eq, decide_eq_true_eq, List.cons.injEq, beq_iff_eq]
theorem eq_strs {xs ys : List Str} (hx : ∀ x ∈ xs, PyData.strOk x = true) (hy : ∀ x ∈ ys, PyData.strOk x = true) : dEq (.lst (xs.map .str)) (.lst (ys.map .str)) = some (.bl (decide (xs = ys))) := by
  show (match (toPys (xs.map .str)).map PyData.list, (toPys (ys.map .str)).map PyData.list with
    | some a, some b => if SeqAt.shaped a = true ∧ SeqAt.shaped b = true then some (D.bl (PyData.eqv a b)) else none
    | _, _ => none) = _
  rw [toPys_str, toPys_str]
  show (if SeqAt.shaped (.list (xs.map .str)) = true ∧ SeqAt.shaped (.list (ys.map .str)) = true then some (D.bl (PyData.eqvAll (xs.map .str) (ys.map .str))) else none) = _
  rw [if_pos ⟨shaped_strs hx, shaped_strs hy⟩, eqvAll_strs]
theorem any_ints (xs : List Int) (i : Int) : ((xs.map PyData.int).any fun z => PyData.eqv z (.int i)) = xs.contains i := by
  rw [List.any_map, List.contains_eq_any_beq, Bool.eq_iff_iff, List.any_eq_true, List.any_eq_true]
  constructor
  · rintro ⟨x, hx, e⟩
    have e : (x == i) = true := e
    exact ⟨x, hx, by rw [beq_iff_eq] at e ⊢; exact e.symm⟩
  · rintro ⟨x, hx, e⟩
    refine ⟨x, hx, ?_⟩
    show (x == i) = true
    rw [beq_iff_eq] at e ⊢; exact e.symm
theorem in_ints (xs : List Int) (i : Int) : dIn (.int i) (.lst (xs.map .int)) = some (.bl (xs.contains i)) := by
  show (match some (PyData.int i), toPys (xs.map .int) with
    | some p, some ps => if SeqAt.shaped p = true ∧ SeqAt.shaped (.list ps) = true then some (D.bl (ps.any fun z => PyData.eqv z p)) else none
    | _, _ => none) = _
  rw [toPys_int]
  show (if SeqAt.shaped (.int i) = true ∧ SeqAt.shaped (.list (xs.map .int)) = true then some (D.bl ((xs.map PyData.int).any fun z => PyData.eqv z (.int i))) else none) = _
  rw [if_pos ⟨rfl, shaped_ints xs⟩, any_ints]
theorem notIn_ints (xs : List Int) (i : Int) : dNotIn (.int i) (.lst (xs.map .int)) = some (.bl (!xs.contains i)) := by
  show (match some (PyData.int i), toPys (xs.map .int) with
    | some p, some ps => if SeqAt.shaped p = true ∧ SeqAt.shaped (.list ps) = true then some (D.bl (!ps.any fun z => PyData.eqv z p)) else none
    | _, _ => none) = _
  rw [toPys_int]
  show (if SeqAt.shaped (.int i) = true ∧ SeqAt.shaped (.list (xs.map .int)) = true then some (D.bl (!(xs.map PyData.int).any fun z => PyData.eqv z (.int i))) else none) = _
  rw [if_pos ⟨rfl, shaped_ints xs⟩, any_ints]
end Mi
namespace Mi
open PySem PySem.Spec L2
open PyProof.Rows hiding St
local macro_rules | `(tactic| dsimp! only [$ls,*]) => `(tactic| (simp -dsimp only [xb_ok, xb_exc, xb_bad, xb_ite, xo_ok, xo_exc, xo_bad, xo_ite, xp_some, xp_none, xp_ite, xe_some, xe_none, xs_nx, xs_bk, xs_ct, xs_ret, xs_rnew, xs_exc, xs_bad, xs_ite,
     xf_ite, xk_ite, xm_seq, xm_fn, xm_call, xm_callN, xm_and, xm_or, xk_and, xk_or, xa_0, xa_1, xa_n, xa_nat, xi_n, xi_nat, Int.ofNat_lt, Int.ofNat_le,
     xf_ret, xf_rnew, xf_nx, xf_exc, xf_bad, xk_ret, xk_exc, xk_bad, xn_new, xn_exc, finS, backE, argSlots, mutIx, frzAt, xm_skip, xm_drop, xm_ret, xm_retN, xm_retF, xm_ifS, xm_asg, xm_asgNew, xm_lstC, xm_mut, xm_set, xm_aug, xm_pre, xm_C, xm_nm, xm_ex, xm_val, xm_nil, xm_cons, xm_bin, xm_binF, xm_un, xm_isi, xm_callD, xm_callF, xm_owns, xm_isT, xm_andT, xm_orT, xm_not, xm_notV, xm_if, xm_meth, xm_slice, xm_noP, xm_P, xm_chain, xk_chain, xm_fr, xm_frL, xm_raise, xm_yes, xm_newD, xg_N, xg_nil, xg_cons, xg_T,
     slotD, slotV, Arg.rd, Arg.own, rds, owns, Cell.frz, Cell.ty, dTup, dLst, dAdd, dSub, dMod, dDiv, dPow, dMulI, dMul, dInts, dNeg, dLt, dLe, dGt, dGe, dCmpI, dIxD, dIx, dIs, dIsNot, D.isNon, dLen, isTy, dIntOf, dListOf, dTupOf, cAppend, xpop, cSetX, cSetL, dAddI,
     List.length_cons, List.length_nil, List.getElem?_cons_zero, List.getElem?_cons_succ, List.getElem?_nil, List.set_cons_zero, List.set_cons_succ, List.set_nil, List.cons_append, List.nil_append, List.append_nil, List.replicate, List.nodup_cons, List.not_mem_nil, List.nodup_nil, List.mem_singleton,
     Option.map_some, Option.map_none, Option.bind_some, Option.bind_none, if_true, if_false, ite_true, ite_false, reduceIte, reduceCtorEq, not_false_eq_true, not_true_eq_false, and_true, true_and, and_false, false_and, or_true, true_or, or_false, false_or, decide_eq_true_eq, Bool.not_true, Bool.not_false, Bool.true_eq_false, Bool.false_eq_true, Nat.reduceAdd, Nat.reduceSub, Nat.reduceEqDiff, Nat.reduceLeDiff, Nat.reduceLT, Nat.reduceMul, Int.reduceAdd, Int.reduceLT, Int.reduceLE, Int.reduceNeg, Int.reduceSub, Int.reduceToNat, Int.reducePow, Int.reduceMul, Int.natCast_add, Int.cast_ofNat_Int, Int.sub_zero, gt_iff_lt, ge_iff_le, String.reduceEq, String.reduceBEq, beq_self_eq_true, Nat.zero_add, sizeLine, Nat.reducePow, decide_true, decide_false, $ls,*]))
section
variable {g : MG} {t : M Bool} {m : M D} {vs : List Nat} {mi : M Src} {env : Env'} {ds : List D}
/-- a comprehension with a state, turn by turn -/
theorem mcomp_invN (I : Nat → List D → Env' → Prop) {env0 : Env'} (hm : mi env = .ok (ds, none) env0) (hn : noCel env0 vs = true) (hl : ds.length ≤ sizeLine) (i : I 0 [] (mKill vs env0))
    (hs : ∀ k d, ds[k]? = some d → ∀ acc e, I k acc e → ∃ x e', cStep g t m vs d e = .ok x e' ∧ I (k + 1) (acc ++ x.toList) e') : ∃ acc e, mComp mi g t m vs env = .ok (.lst acc) (restE env0 vs e) ∧ I ds.length acc e := by
  have q : ∀ (ds' : List D) (k : Nat) (acc : List D) (e : Env'), ds.drop k = ds' → k + ds'.length = ds.length → I k acc e → ∃ acc' e', compL none g t m vs ds' acc e = .ok acc' e' ∧ I ds.length acc' e' := by
    intro ds'
    induction ds' with
    | nil =>
      intro k acc e hd hk i
      refine ⟨acc, e, by unfold compL; exact if_pos trivial, ?_⟩
      have : k = ds.length := by simpa using hk
      rw [← this]; exact i
    | cons d ds' ih =>
      intro k acc e hd hk i
      have hlt : k < ds.length := by simp at hk; omega
      have hd2 := hd
      rw [List.drop_eq_getElem_cons hlt] at hd2
      injection hd2 with a b
      have e1 : ds[k]? = some d := by rw [List.getElem?_eq_getElem hlt, a]
      obtain ⟨x, e', h1, h2⟩ := hs k d e1 acc e i
      obtain ⟨acc', e2, h3, h4⟩ := ih (k + 1) (acc ++ x.toList) e' b (by simp at hk; omega) h2
      refine ⟨acc', e2, ?_, h4⟩
      rw [← h3]
      unfold cStep at h1
      conv => lhs; unfold compL
      rw [if_pos (by trivial : Wat.ok none e)]
      cases eg : g d e with
      | none => rw [eg] at h1; cases h1
      | some e1 =>
        rw [eg] at h1
        show (t e1).nox.bind _ = _
        have h1 : ((t e1).nox.bind fun b e2 => if b = true then (m e2).nox.bind fun x e3 => .ok (some x) (mKill vs e3) else .ok none (mKill vs e2)) = R.ok x e' := h1
        cases et : (t e1).nox with
        | bad => rw [et] at h1; cases h1
        | exc => rw [et] at h1; cases h1
        | ok b e2 =>
          rw [et] at h1
          show (if b = true then _ else _) = _
          have h1 : (if b = true then (m e2).nox.bind fun x e3 => .ok (some x) (mKill vs e3) else .ok none (mKill vs e2)) = R.ok x e' := h1
          cases b with
          | true =>
            rw [if_pos rfl] at h1 ⊢
            cases em : (m e2).nox with
            | bad => rw [em] at h1; cases h1
            | exc => rw [em] at h1; cases h1
            | ok x1 e3 =>
              rw [em] at h1
              cases h1
              rfl
          | false =>
            rw [if_neg (by decide)] at h1 ⊢
            cases h1
            simp
  obtain ⟨acc, e, h1, h2⟩ := q ds 0 [] (mKill vs env0) rfl (by simp) i
  refine ⟨acc, e, ?_, h2⟩
  unfold mComp
  rw [hm]
  show (if noCel env0 vs = true ∧ ds.length ≤ sizeLine then _ else _) = _
  rw [if_pos ⟨hn, hl⟩]
  show (compL none g t m vs ds [] (mKill vs env0)).bind _ = _
  rw [h1]
  rfl
end
end Mi
namespace Mi
open PySem PySem.Spec L2
open PyProof.Rows hiding St
local macro_rules | `(tactic| dsimp! only [$ls,*]) => `(tactic| (simp -dsimp only [xb_ok, xb_exc, xb_bad, xb_ite, xo_ok, xo_exc, xo_bad, xo_ite, xp_some, xp_none, xp_ite, xe_some, xe_none, xs_nx, xs_bk, xs_ct, xs_ret, xs_rnew, xs_exc, xs_bad, xs_ite,
     xf_ite, xk_ite, xm_seq, xm_fn, xm_call, xm_callN, xm_and, xm_or, xk_and, xk_or, xa_0, xa_1, xa_n, xa_nat, xi_n, xi_nat, Int.ofNat_lt, Int.ofNat_le,
     xf_ret, xf_rnew, xf_nx, xf_exc, xf_bad, xk_ret, xk_exc, xk_bad, xn_new, xn_exc, finS, backE, argSlots, mutIx, frzAt, xm_skip, xm_drop, xm_ret, xm_retN, xm_retF, xm_ifS, xm_asg, xm_asgNew, xm_lstC, xm_mut, xm_set, xm_aug, xm_pre, xm_C, xm_nm, xm_ex, xm_val, xm_nil, xm_cons, xm_bin, xm_binF, xm_un, xm_isi, xm_callD, xm_callF, xm_owns, xm_isT, xm_andT, xm_orT, xm_not, xm_notV, xm_if, xm_meth, xm_slice, xm_noP, xm_P, xm_chain, xk_chain, xm_fr, xm_frL, xm_raise, xm_yes, xm_newD, xg_N, xg_nil, xg_cons, xg_T,
     slotD, slotV, Arg.rd, Arg.own, rds, owns, Cell.frz, Cell.ty, dTup, dLst, dAdd, dSub, dMod, dDiv, dPow, dMulI, dMul, dInts, dNeg, dLt, dLe, dGt, dGe, dCmpI, dIxD, dIx, dIs, dIsNot, D.isNon, dLen, isTy, dIntOf, dListOf, dTupOf, cAppend, xpop, cSetX, cSetL, dAddI,
     List.length_cons, List.length_nil, List.getElem?_cons_zero, List.getElem?_cons_succ, List.getElem?_nil, List.set_cons_zero, List.set_cons_succ, List.set_nil, List.cons_append, List.nil_append, List.append_nil, List.replicate, List.nodup_cons, List.not_mem_nil, List.nodup_nil, List.mem_singleton,
     Option.map_some, Option.map_none, Option.bind_some, Option.bind_none, if_true, if_false, ite_true, ite_false, reduceIte, reduceCtorEq, not_false_eq_true, not_true_eq_false, and_true, true_and, and_false, false_and, or_true, true_or, or_false, false_or, decide_eq_true_eq, Bool.not_true, Bool.not_false, Bool.true_eq_false, Bool.false_eq_true, Nat.reduceAdd, Nat.reduceSub, Nat.reduceEqDiff, Nat.reduceLeDiff, Nat.reduceLT, Nat.reduceMul, Int.reduceAdd, Int.reduceLT, Int.reduceLE, Int.reduceNeg, Int.reduceSub, Int.reduceToNat, Int.reducePow, Int.reduceMul, Int.natCast_add, Int.cast_ofNat_Int, Int.sub_zero, gt_iff_lt, ge_iff_le, String.reduceEq, String.reduceBEq, beq_self_eq_true, Nat.zero_add, sizeLine, Nat.reducePow, decide_true, decide_false, $ls,*]))
namespace K00
/-! ### the text by places -/
def top (i : Nat) : Stmt := PySem.Challenge.pw_treesread_k00_signs_ranks_and_trees.main.body.getD i (.Pass ⟨0, 0, 0, 0⟩)
abbrev s_is_integer : Stmt := top 10
abbrev s_is_sign : Stmt := top 11
abbrev s_are_ranks : Stmt := top 12
abbrev s_look_at_ranks : Stmt := top 13
abbrev s_is_tree : Stmt := top 14
abbrev s_look_at_tree : Stmt := top 15
abbrev s__law_draws : Stmt := top 17
abbrev s__law_draw : Stmt := top 18
abbrev s__law_same : Stmt := top 19
abbrev s__law_ranks : Stmt := top 20
abbrev s__law_tree : Stmt := top 21
abbrev s__law_nodes : Stmt := top 22
abbrev s__law_is_sign : Stmt := top 23
abbrev s__law_number : Stmt := top 24
abbrev s__law_are_ranks : Stmt := top 25
abbrev s__law_is_tree : Stmt := top 26
abbrev s__law_asked : Stmt := top 27
abbrev s__law_changed : Stmt := top 28
abbrev s_law : Stmt := top 29
abbrev n_is_integer : List Str := ["value"]
abbrev p_is_integer : List Str := ["value"]
theorem sc_is_integer : FnScope n_is_integer p_is_integer (defScope s_is_integer) := ⟨rfl, rfl, rfl, by decide +kernel, rfl, by decide +kernel, by decide +kernel⟩
abbrev n_is_sign : List Str := ["value", "letter"]
abbrev p_is_sign : List Str := ["value"]
theorem sc_is_sign : FnScope n_is_sign p_is_sign (defScope s_is_sign) := ⟨rfl, rfl, rfl, by decide +kernel, rfl, by decide +kernel, by decide +kernel⟩
abbrev n_are_ranks : List Str := ["value", "one", "_", "rank", "signs", "sign"]
abbrev p_are_ranks : List Str := ["value"]
theorem sc_are_ranks : FnScope n_are_ranks p_are_ranks (defScope s_are_ranks) := ⟨rfl, rfl, rfl, by decide +kernel, rfl, by decide +kernel, by decide +kernel⟩
abbrev n_look_at_ranks : List Str := ["value"]
abbrev p_look_at_ranks : List Str := ["value"]
theorem sc_look_at_ranks : FnScope n_look_at_ranks p_look_at_ranks (defScope s_look_at_ranks) := ⟨rfl, rfl, rfl, by decide +kernel, rfl, by decide +kernel, by decide +kernel⟩
abbrev n_is_tree : List Str := ["ranks", "value", "known", "todo", "many", "one", "deep", "part"]
abbrev p_is_tree : List Str := ["ranks", "value"]
theorem sc_is_tree : FnScope n_is_tree p_is_tree (defScope s_is_tree) := ⟨rfl, rfl, rfl, by decide +kernel, rfl, by decide +kernel, by decide +kernel⟩
abbrev n_look_at_tree : List Str := ["ranks", "value"]
abbrev p_look_at_tree : List Str := ["ranks", "value"]
theorem sc_look_at_tree : FnScope n_look_at_tree p_look_at_tree (defScope s_look_at_tree) := ⟨rfl, rfl, rfl, by decide +kernel, rfl, by decide +kernel, by decide +kernel⟩
abbrev n__law_draws : List Str := ["script"]
abbrev p__law_draws : List Str := ["script"]
theorem sc__law_draws : FnScope n__law_draws p__law_draws (defScope s__law_draws) := ⟨rfl, rfl, rfl, by decide +kernel, rfl, by decide +kernel, by decide +kernel⟩
abbrev n__law_draw : List Str := ["draws", "limit", "cell", "value"]
abbrev p__law_draw : List Str := ["draws", "limit"]
theorem sc__law_draw : FnScope n__law_draw p__law_draw (defScope s__law_draw) := ⟨rfl, rfl, rfl, by decide +kernel, rfl, by decide +kernel, by decide +kernel⟩
abbrev n__law_same : List Str := ["actual", "expected", "k"]
abbrev p__law_same : List Str := ["actual", "expected"]
theorem sc__law_same : FnScope n__law_same p__law_same (defScope s__law_same) := ⟨rfl, rfl, rfl, by decide +kernel, rfl, by decide +kernel, by decide +kernel⟩
abbrev n__law_ranks : List Str := ["draws", "found"]
abbrev p__law_ranks : List Str := ["draws"]
theorem sc__law_ranks : FnScope n__law_ranks p__law_ranks (defScope s__law_ranks) := ⟨rfl, rfl, rfl, by decide +kernel, rfl, by decide +kernel, by decide +kernel⟩
abbrev n__law_tree : List Str := ["draws", "ranks", "most", "parts", "tips", "sign", "rank", "stems", "k", "row", "j"]
abbrev p__law_tree : List Str := ["draws", "ranks", "most"]
theorem sc__law_tree : FnScope n__law_tree p__law_tree (defScope s__law_tree) := ⟨rfl, rfl, rfl, by decide +kernel, rfl, by decide +kernel, by decide +kernel⟩
abbrev n__law_nodes : List Str := ["tree", "found", "todo", "turn", "one", "part"]
abbrev p__law_nodes : List Str := ["tree"]
theorem sc__law_nodes : FnScope n__law_nodes p__law_nodes (defScope s__law_nodes) := ⟨rfl, rfl, rfl, by decide +kernel, rfl, by decide +kernel, by decide +kernel⟩
abbrev n__law_is_sign : List Str := ["value", "letter"]
abbrev p__law_is_sign : List Str := ["value"]
theorem sc__law_is_sign : FnScope n__law_is_sign p__law_is_sign (defScope s__law_is_sign) := ⟨rfl, rfl, rfl, by decide +kernel, rfl, by decide +kernel, by decide +kernel⟩
abbrev n__law_number : List Str := ["value"]
abbrev p__law_number : List Str := ["value"]
theorem sc__law_number : FnScope n__law_number p__law_number (defScope s__law_number) := ⟨rfl, rfl, rfl, by decide +kernel, rfl, by decide +kernel, by decide +kernel⟩
abbrev n__law_are_ranks : List Str := ["value", "one", "two", "signs"]
abbrev p__law_are_ranks : List Str := ["value"]
theorem sc__law_are_ranks : FnScope n__law_are_ranks p__law_are_ranks (defScope s__law_are_ranks) := ⟨rfl, rfl, rfl, by decide +kernel, rfl, by decide +kernel, by decide +kernel⟩
abbrev n__law_is_tree : List Str := ["ranks", "value", "level", "many", "deep", "one", "fresh"]
abbrev p__law_is_tree : List Str := ["ranks", "value"]
theorem sc__law_is_tree : FnScope n__law_is_tree p__law_is_tree (defScope s__law_is_tree) := ⟨rfl, rfl, rfl, by decide +kernel, rfl, by decide +kernel, by decide +kernel⟩
abbrev n__law_asked : List Str := ["k", "ranks", "tree", "e"]
abbrev p__law_asked : List Str := ["k", "ranks", "tree"]
theorem sc__law_asked : FnScope n__law_asked p__law_asked (defScope s__law_asked) := ⟨rfl, rfl, rfl, by decide +kernel, rfl, by decide +kernel, by decide +kernel⟩
abbrev n__law_changed : List Str := ["draws", "tree", "kind", "at"]
abbrev p__law_changed : List Str := ["draws", "tree"]
theorem sc__law_changed : FnScope n__law_changed p__law_changed (defScope s__law_changed) := ⟨rfl, rfl, rfl, by decide +kernel, rfl, by decide +kernel, by decide +kernel⟩
abbrev n_law : List Str := ["script", "draws", "turn", "ranks", "tree", "k", "other", "right", "at", "tried", "value", "word", "deep", "wide", "full", "great", "many"]
abbrev p_law : List Str := ["script"]
theorem sc_law : FnScope n_law p_law (defScope s_law) := ⟨rfl, rfl, rfl, by decide +kernel, rfl, by decide +kernel, by decide +kernel⟩
def cat_TreeError : Str → Option Bool := fun c => if c ∈ (["TreeError", "BadTree", "BadRanks"] : List Str) then some true else none
def isa_BadRanks (c : Str) : Bool := decide (c ∈ (["BadRanks"] : List Str))
def isa_BadTree (c : Str) : Bool := decide (c ∈ (["BadTree"] : List Str))
def isa_TreeError (c : Str) : Bool := decide (c ∈ (["TreeError", "BadTree", "BadRanks"] : List Str))
/-! ### what the top of the program says -/
structure Txt (K : PySem.W.Frag) (mg : Str → Option Value) where
  n_all : mg "all" = none
  n_bool : mg "bool" = none
  n_dict : mg "dict" = none
  n_int : mg "int" = none
  n_isinstance : mg "isinstance" = none
  n_len : mg "len" = none
  n_list : mg "list" = none
  n_range : mg "range" = none
  n_set : mg "set" = none
  n_sorted : mg "sorted" = none
  n_str : mg "str" = none
  n_tuple : mg "tuple" = none
  t_LETTERS : Tok
  c_LETTERS : mg "LETTERS" = some (.str "abcdefghijklmnopqrstuvwxyz" t_LETTERS)
  t_MOST_DEEP : Tok
  c_MOST_DEEP : mg "MOST_DEEP" = some (.int 40 t_MOST_DEEP)
  t_MOST_NODES : Tok
  c_MOST_NODES : mg "MOST_NODES" = some (.int 4000 t_MOST_NODES)
  t_MOST_RANK : Tok
  c_MOST_RANK : mg "MOST_RANK" = some (.int 3 t_MOST_RANK)
  t_MOST_SIGNS : Tok
  c_MOST_SIGNS : mg "MOST_SIGNS" = some (.int 8 t_MOST_SIGNS)
  a_TreeError : Addr
  g_TreeError : mg "TreeError" = some (.ref a_TreeError)
  a_BadTree : Addr
  g_BadTree : mg "BadTree" = some (.ref a_BadTree)
  a_BadRanks : Addr
  g_BadRanks : mg "BadRanks" = some (.ref a_BadRanks)
  x_TreeError : PySem.W.excIn K a_TreeError [.type "ValueError", .type "Exception", .type "BaseException", .type "object"] "ValueError.__new__" = true
  kp_TreeError : PySem.W.keepIn K (.ref a_TreeError) = true
  bx_TreeError : PySem.W.subIn K (.ref a_TreeError) (.type "BaseException") = some true
  ty_TreeError : PySem.W.typeIn K (.ref a_TreeError) = some (.type "type")
  ec_TreeError : ExcC K a_TreeError
  x_BadTree : PySem.W.excIn K a_BadTree [.type "ValueError", .type "Exception", .type "BaseException", .type "object"] "ValueError.__new__" = true
  kp_BadTree : PySem.W.keepIn K (.ref a_BadTree) = true
  bx_BadTree : PySem.W.subIn K (.ref a_BadTree) (.type "BaseException") = some true
  ty_BadTree : PySem.W.typeIn K (.ref a_BadTree) = some (.type "type")
  ec_BadTree : ExcC K a_BadTree
  x_BadRanks : PySem.W.excIn K a_BadRanks [.type "ValueError", .type "Exception", .type "BaseException", .type "object"] "ValueError.__new__" = true
  kp_BadRanks : PySem.W.keepIn K (.ref a_BadRanks) = true
  bx_BadRanks : PySem.W.subIn K (.ref a_BadRanks) (.type "BaseException") = some true
  ty_BadRanks : PySem.W.typeIn K (.ref a_BadRanks) = some (.type "type")
  ec_BadRanks : ExcC K a_BadRanks
  em_TreeError_TreeError : PySem.W.exmOne K (.ref a_TreeError) (.ref a_TreeError) = some true
  em_BadTree_TreeError : PySem.W.exmOne K (.ref a_BadTree) (.ref a_TreeError) = some true
  em_BadRanks_TreeError : PySem.W.exmOne K (.ref a_BadRanks) (.ref a_TreeError) = some true
  ki_TreeError_BadRanks : PySem.W.kitOne K (.ref a_TreeError) (.ref a_BadRanks) = some false
  ki_BadTree_BadRanks : PySem.W.kitOne K (.ref a_BadTree) (.ref a_BadRanks) = some false
  ki_BadRanks_BadRanks : PySem.W.kitOne K (.ref a_BadRanks) (.ref a_BadRanks) = some true
  ki_TreeError_BadTree : PySem.W.kitOne K (.ref a_TreeError) (.ref a_BadTree) = some false
  ki_BadTree_BadTree : PySem.W.kitOne K (.ref a_BadTree) (.ref a_BadTree) = some true
  ki_BadRanks_BadTree : PySem.W.kitOne K (.ref a_BadRanks) (.ref a_BadTree) = some false
  ki_TreeError_TreeError : PySem.W.kitOne K (.ref a_TreeError) (.ref a_TreeError) = some true
  ki_BadTree_TreeError : PySem.W.kitOne K (.ref a_BadTree) (.ref a_TreeError) = some true
  ki_BadRanks_TreeError : PySem.W.kitOne K (.ref a_BadRanks) (.ref a_TreeError) = some true
  a_is_integer : Addr
  d_is_integer : FuncData
  F_is_integer : Fun K "is_integer" "is_integer" s_is_integer a_is_integer d_is_integer
  g_is_integer : mg "is_integer" = some (.ref a_is_integer)
  kp_is_integer : PySem.W.keepIn K (.ref a_is_integer) = true
  b_is_integer : Binds K d_is_integer p_is_integer []
  a_is_sign : Addr
  d_is_sign : FuncData
  F_is_sign : Fun K "is_sign" "is_sign" s_is_sign a_is_sign d_is_sign
  g_is_sign : mg "is_sign" = some (.ref a_is_sign)
  kp_is_sign : PySem.W.keepIn K (.ref a_is_sign) = true
  b_is_sign : Binds K d_is_sign p_is_sign []
  a_are_ranks : Addr
  d_are_ranks : FuncData
  F_are_ranks : Fun K "are_ranks" "are_ranks" s_are_ranks a_are_ranks d_are_ranks
  g_are_ranks : mg "are_ranks" = some (.ref a_are_ranks)
  kp_are_ranks : PySem.W.keepIn K (.ref a_are_ranks) = true
  b_are_ranks : Binds K d_are_ranks p_are_ranks []
  a_look_at_ranks : Addr
  d_look_at_ranks : FuncData
  F_look_at_ranks : Fun K "look_at_ranks" "look_at_ranks" s_look_at_ranks a_look_at_ranks d_look_at_ranks
  g_look_at_ranks : mg "look_at_ranks" = some (.ref a_look_at_ranks)
  kp_look_at_ranks : PySem.W.keepIn K (.ref a_look_at_ranks) = true
  b_look_at_ranks : Binds K d_look_at_ranks p_look_at_ranks []
  a_is_tree : Addr
  d_is_tree : FuncData
  F_is_tree : Fun K "is_tree" "is_tree" s_is_tree a_is_tree d_is_tree
  g_is_tree : mg "is_tree" = some (.ref a_is_tree)
  kp_is_tree : PySem.W.keepIn K (.ref a_is_tree) = true
  b_is_tree : Binds K d_is_tree p_is_tree []
  a_look_at_tree : Addr
  d_look_at_tree : FuncData
  F_look_at_tree : Fun K "look_at_tree" "look_at_tree" s_look_at_tree a_look_at_tree d_look_at_tree
  g_look_at_tree : mg "look_at_tree" = some (.ref a_look_at_tree)
  kp_look_at_tree : PySem.W.keepIn K (.ref a_look_at_tree) = true
  b_look_at_tree : Binds K d_look_at_tree p_look_at_tree []
  a__law_draws : Addr
  d__law_draws : FuncData
  F__law_draws : Fun K "_law_draws" "_law_draws" s__law_draws a__law_draws d__law_draws
  g__law_draws : mg "_law_draws" = some (.ref a__law_draws)
  kp__law_draws : PySem.W.keepIn K (.ref a__law_draws) = true
  b__law_draws : Binds K d__law_draws p__law_draws []
  a__law_draw : Addr
  d__law_draw : FuncData
  F__law_draw : Fun K "_law_draw" "_law_draw" s__law_draw a__law_draw d__law_draw
  g__law_draw : mg "_law_draw" = some (.ref a__law_draw)
  kp__law_draw : PySem.W.keepIn K (.ref a__law_draw) = true
  b__law_draw : Binds K d__law_draw p__law_draw []
  a__law_same : Addr
  d__law_same : FuncData
  F__law_same : Fun K "_law_same" "_law_same" s__law_same a__law_same d__law_same
  g__law_same : mg "_law_same" = some (.ref a__law_same)
  kp__law_same : PySem.W.keepIn K (.ref a__law_same) = true
  b__law_same : Binds K d__law_same p__law_same []
  a__law_ranks : Addr
  d__law_ranks : FuncData
  F__law_ranks : Fun K "_law_ranks" "_law_ranks" s__law_ranks a__law_ranks d__law_ranks
  g__law_ranks : mg "_law_ranks" = some (.ref a__law_ranks)
  kp__law_ranks : PySem.W.keepIn K (.ref a__law_ranks) = true
  b__law_ranks : Binds K d__law_ranks p__law_ranks []
  a__law_tree : Addr
  d__law_tree : FuncData
  F__law_tree : Fun K "_law_tree" "_law_tree" s__law_tree a__law_tree d__law_tree
  g__law_tree : mg "_law_tree" = some (.ref a__law_tree)
  kp__law_tree : PySem.W.keepIn K (.ref a__law_tree) = true
  b__law_tree : Binds K d__law_tree p__law_tree []
  a__law_nodes : Addr
  d__law_nodes : FuncData
  F__law_nodes : Fun K "_law_nodes" "_law_nodes" s__law_nodes a__law_nodes d__law_nodes
  g__law_nodes : mg "_law_nodes" = some (.ref a__law_nodes)
  kp__law_nodes : PySem.W.keepIn K (.ref a__law_nodes) = true
  b__law_nodes : Binds K d__law_nodes p__law_nodes []
  a__law_is_sign : Addr
  d__law_is_sign : FuncData
  F__law_is_sign : Fun K "_law_is_sign" "_law_is_sign" s__law_is_sign a__law_is_sign d__law_is_sign
  g__law_is_sign : mg "_law_is_sign" = some (.ref a__law_is_sign)
  kp__law_is_sign : PySem.W.keepIn K (.ref a__law_is_sign) = true
  b__law_is_sign : Binds K d__law_is_sign p__law_is_sign []
  a__law_number : Addr
  d__law_number : FuncData
  F__law_number : Fun K "_law_number" "_law_number" s__law_number a__law_number d__law_number
  g__law_number : mg "_law_number" = some (.ref a__law_number)
  kp__law_number : PySem.W.keepIn K (.ref a__law_number) = true
  b__law_number : Binds K d__law_number p__law_number []
  a__law_are_ranks : Addr
  d__law_are_ranks : FuncData
  F__law_are_ranks : Fun K "_law_are_ranks" "_law_are_ranks" s__law_are_ranks a__law_are_ranks d__law_are_ranks
  g__law_are_ranks : mg "_law_are_ranks" = some (.ref a__law_are_ranks)
  kp__law_are_ranks : PySem.W.keepIn K (.ref a__law_are_ranks) = true
  b__law_are_ranks : Binds K d__law_are_ranks p__law_are_ranks []
  a__law_is_tree : Addr
  d__law_is_tree : FuncData
  F__law_is_tree : Fun K "_law_is_tree" "_law_is_tree" s__law_is_tree a__law_is_tree d__law_is_tree
  g__law_is_tree : mg "_law_is_tree" = some (.ref a__law_is_tree)
  kp__law_is_tree : PySem.W.keepIn K (.ref a__law_is_tree) = true
  b__law_is_tree : Binds K d__law_is_tree p__law_is_tree []
  a__law_asked : Addr
  d__law_asked : FuncData
  F__law_asked : Fun K "_law_asked" "_law_asked" s__law_asked a__law_asked d__law_asked
  g__law_asked : mg "_law_asked" = some (.ref a__law_asked)
  kp__law_asked : PySem.W.keepIn K (.ref a__law_asked) = true
  b__law_asked : Binds K d__law_asked p__law_asked []
  a__law_changed : Addr
  d__law_changed : FuncData
  F__law_changed : Fun K "_law_changed" "_law_changed" s__law_changed a__law_changed d__law_changed
  g__law_changed : mg "_law_changed" = some (.ref a__law_changed)
  kp__law_changed : PySem.W.keepIn K (.ref a__law_changed) = true
  b__law_changed : Binds K d__law_changed p__law_changed []
  a_law : Addr
  d_law : FuncData
  F_law : Fun K "law" "law" s_law a_law d_law
  g_law : mg "law" = some (.ref a_law)
  kp_law : PySem.W.keepIn K (.ref a_law) = true
  b_law : Binds K d_law p_law []
  bb_law : ∀ (s : Shared) (v : Value), BindsTo s d_law ⟨[v], []⟩ [("script", v)]
theorem Txt.cat_TreeError {K : PySem.W.Frag} {mg : Str → Option Value} (T : Txt K mg) (c : Str) (b : Bool) (h : Mi.K00.cat_TreeError c = some b) (ca : Addr) (hm : mg c = some (.ref ca)) : PySem.W.exmOne K (.ref ca) (.ref T.a_TreeError) = some b := by
  unfold Mi.K00.cat_TreeError at h
  split at h
  · rename_i hc
    cases h
    simp only [List.mem_cons, List.not_mem_nil, or_false] at hc
    rcases hc with rfl | rfl | rfl
    · rw [T.g_TreeError] at hm; cases hm; exact T.em_TreeError_TreeError
    · rw [T.g_BadTree] at hm; cases hm; exact T.em_BadTree_TreeError
    · rw [T.g_BadRanks] at hm; cases hm; exact T.em_BadRanks_TreeError
  · cases h
theorem Txt.e_TreeError {K : PySem.W.Frag} {mg : Str → Option Value} (T : Txt K mg) (c : Str) (ca : Addr) (h : Mi.K00.cat_TreeError c = some true) (hm : mg c = some (.ref ca)) : ExcC K ca ∧ True := by
  unfold Mi.K00.cat_TreeError at h
  split at h
  · rename_i hc
    simp only [List.mem_cons, List.not_mem_nil, or_false] at hc
    rcases hc with rfl | rfl | rfl
    · rw [T.g_TreeError] at hm; cases hm; exact ⟨T.ec_TreeError, trivial⟩
    · rw [T.g_BadTree] at hm; cases hm; exact ⟨T.ec_BadTree, trivial⟩
    · rw [T.g_BadRanks] at hm; cases hm; exact ⟨T.ec_BadRanks, trivial⟩
  · cases h
theorem Txt.k_TreeError_BadRanks {K : PySem.W.Frag} {mg : Str → Option Value} (T : Txt K mg) (c : Str) (ca : Addr) (h : Mi.K00.cat_TreeError c = some true) (hm : mg c = some (.ref ca)) : PySem.W.kitOne K (.ref ca) (.ref T.a_BadRanks) = some (isa_BadRanks c) := by
  unfold Mi.K00.cat_TreeError at h
  split at h
  · rename_i hc
    simp only [List.mem_cons, List.not_mem_nil, or_false] at hc
    rcases hc with rfl | rfl | rfl
    · rw [T.g_TreeError] at hm; cases hm; exact T.ki_TreeError_BadRanks
    · rw [T.g_BadTree] at hm; cases hm; exact T.ki_BadTree_BadRanks
    · rw [T.g_BadRanks] at hm; cases hm; exact T.ki_BadRanks_BadRanks
  · cases h
theorem Txt.k_TreeError_BadTree {K : PySem.W.Frag} {mg : Str → Option Value} (T : Txt K mg) (c : Str) (ca : Addr) (h : Mi.K00.cat_TreeError c = some true) (hm : mg c = some (.ref ca)) : PySem.W.kitOne K (.ref ca) (.ref T.a_BadTree) = some (isa_BadTree c) := by
  unfold Mi.K00.cat_TreeError at h
  split at h
  · rename_i hc
    simp only [List.mem_cons, List.not_mem_nil, or_false] at hc
    rcases hc with rfl | rfl | rfl
    · rw [T.g_TreeError] at hm; cases hm; exact T.ki_TreeError_BadTree
    · rw [T.g_BadTree] at hm; cases hm; exact T.ki_BadTree_BadTree
    · rw [T.g_BadRanks] at hm; cases hm; exact T.ki_BadRanks_BadTree
  · cases h
theorem Txt.k_TreeError_TreeError {K : PySem.W.Frag} {mg : Str → Option Value} (T : Txt K mg) (c : Str) (ca : Addr) (h : Mi.K00.cat_TreeError c = some true) (hm : mg c = some (.ref ca)) : PySem.W.kitOne K (.ref ca) (.ref T.a_TreeError) = some (isa_TreeError c) := by
  unfold Mi.K00.cat_TreeError at h
  split at h
  · rename_i hc
    simp only [List.mem_cons, List.not_mem_nil, or_false] at hc
    rcases hc with rfl | rfl | rfl
    · rw [T.g_TreeError] at hm; cases hm; exact T.ki_TreeError_TreeError
    · rw [T.g_BadTree] at hm; cases hm; exact T.ki_BadTree_TreeError
    · rw [T.g_BadRanks] at hm; cases hm; exact T.ki_BadRanks_TreeError
  · cases h
/-! ### the mirrors -/
noncomputable def m_is_integer : MS := mRet (mAndV (mIsi .int (mNm 0)) (mNotV (mIsi .bool (mNm 0))))
noncomputable def f_is_integer : Fn := mkFn 1 1 m_is_integer
noncomputable def c1_is_sign : M Cell := mComp (mSrc (mNm 0)) (gN 1) (mYes) (mBin dIn (mNm 1) (mEx (mC (.str "abcdefghijklmnopqrstuvwxyz")))) [1]
noncomputable def m_is_sign : MS := mRet (mAndV (mIsi .str (mNm 0)) (mAndV (mChain dLt dLe (mEx (mC (.int 0))) (mEx (mCallD dLen (mCons (mNm 0) (mNil)))) (mEx (mC (.int 8)))) (mCallD dAll (mCons (mEx (mFr (c1_is_sign ))) (mNil)))))
noncomputable def f_is_sign : Fn := mkFn 1 2 m_is_sign
noncomputable def c1_are_ranks : M Cell := mComp (mSrc (mNm 0)) (gN 1) (mYes) (mAndV (mIsi .tuple (mNm 1)) (mAndV (mBin dEq (mEx (mCallD dLen (mCons (mNm 1) (mNil)))) (mEx (mC (.int 2)))) (mAndV (mCall (f_is_sign) [false] (mCons (mEx (mBin dIxD (mNm 1) (mEx (mC (.int 0))))) (mNil))) (mCall (f_is_integer) [false] (mCons (mEx (mBin dIxD (mNm 1) (mEx (mC (.int 1))))) (mNil)))))) [1]
noncomputable def c2_are_ranks : M Cell := mComp (mSrc (mNm 0)) (gT 2 (gCons' (gN 2) (gCons' (gN 3) (gNil')))) (mYes) (mChain dLe dLe (mEx (mC (.int 0))) (mNm 3) (mEx (mC (.int 3)))) [2, 3]
noncomputable def c3_are_ranks : M Cell := mComp (mSrc (mNm 0)) (gT 2 (gCons' (gN 2) (gCons' (gN 3) (gNil')))) (mYes) (mVal 3) [2, 3]
noncomputable def c4_are_ranks : M Cell := mComp (mSrc (mNm 0)) (gT 2 (gCons' (gN 5) (gCons' (gN 2) (gNil')))) (mYes) (mVal 5) [5, 2]
noncomputable def c5_are_ranks : M Cell := mDComp (mSrc (mNm 4)) (gN 5) (mYes) (mVal 5) (mC (.bl true)) [5]
noncomputable def m_are_ranks : MS := mSeq (mIfS (mOr (mNot (mIsT (mIsi .tuple (mNm 0)))) (mNot (mIsT (mChain dLt dLe (mEx (mC (.int 0))) (mEx (mCallD dLen (mCons (mNm 0) (mNil)))) (mEx (mC (.int 8))))))) (mRet (mC (.bl false))) (mSkip)) (mSeq (mIfS (mNot (mIsT (mCallD dAll (mCons (mEx (mFr (c1_are_ranks ))) (mNil))))) (mRet (mC (.bl false))) (mSkip)) (mSeq (mIfS (mOr (mNot (mIsT (mCallD dAll (mCons (mEx (mFr (c2_are_ranks ))) (mNil))))) (mIsT (mBin dNotIn (mEx (mC (.int 0))) (mEx (mFr (c3_are_ranks )))))) (mRet (mC (.bl false))) (mSkip)) (mSeq (mAsg (mFrL (c4_are_ranks )) (gN 4)) (mRet (mBin dEq (mNm 4) (mEx (mFr (mCallF dSorted (mCons (mEx (mFr (c5_are_ranks ))) (mNil))))))))))
noncomputable def f_are_ranks : Fn := mkFn 1 6 m_are_ranks
noncomputable def m_look_at_ranks : MS := mIfS (mNot (mIsT (mCall (f_are_ranks) [false] (mCons (mNm 0) (mNil))))) (mRaise "BadRanks") (mSkip)
noncomputable def f_look_at_ranks : Fn := mkFn 1 1 m_look_at_ranks
noncomputable def c1_is_tree : M Cell := mComp (mSrc (mEx (mSlice dSl (mNm 5) (mP (mC (.int 1))) (mNoP)))) (gN 7) (mYes) (mOwns dTup (mCons (mNm 7) (mCons (mEx (mBin dAdd (mNm 6) (mEx (mC (.int 1))))) (mNil)))) [7]
noncomputable def b1_is_tree : MS := mSeq (mAsg (mMut "list" cPop 3 mNil) (gT 2 (gCons' (gN 5) (gCons' (gN 6) (gNil'))))) (mSeq (mAug 4 dAddI (mC (.int 1))) (mSeq (mIfS (mOr (mIsT (mBin dGt (mNm 6) (mEx (mC (.int 40))))) (mOr (mIsT (mBin dGt (mNm 4) (mEx (mC (.int 4000))))) (mOr (mNot (mIsT (mIsi .tuple (mNm 5)))) (mIsT (mBin dEq (mEx (mCallD dLen (mCons (mNm 5) (mNil)))) (mEx (mC (.int 0)))))))) (mRet (mC (.bl false))) (mSkip)) (mSeq (mIfS (mOr (mNot (mIsT (mIsi .str (mEx (mBin dIxD (mNm 5) (mEx (mC (.int 0)))))))) (mIsT (mBin dNe (mEx (mMeth "dict" dGetF (mNm 2) (mCons (mEx (mBin dIxD (mNm 5) (mEx (mC (.int 0))))) (mCons (mEx (mUn dNeg (mEx (mC (.int 1))))) (mNil))))) (mEx (mBin dSub (mEx (mCallD dLen (mCons (mNm 5) (mNil)))) (mEx (mC (.int 1)))))))) (mRet (mC (.bl false))) (mSkip)) (mDrop (mMut "list" cExt 3 (mCons (mEx (mFr (c1_is_tree ))) (mNil)))))))
noncomputable def l1_is_tree : MS := mWhile (mIsT (mBin dGt (mEx (mCallD dLen (mCons (mNm 3) (mNil)))) (mEx (mC (.int 0))))) (b1_is_tree)
noncomputable def m_is_tree : MS := mSeq (mDrop (mCall (f_look_at_ranks) [false] (mCons (mNm 0) (mNil)))) (mSeq (mAsg (mFr (mCallF fDict (mCons (mNm 0) (mNil)))) (gN 2)) (mSeq (mAsgNew 3 (mLstC (mCons (mEx (mOwns dTup (mCons (mNm 1) (mCons (mEx (mC (.int 1))) (mNil))))) (mNil)))) (mSeq (mAsg (mC (.int 0)) (gN 4)) (mSeq (l1_is_tree) (mRet (mC (.bl true)))))))
noncomputable def f_is_tree : Fn := mkFn 2 8 m_is_tree
noncomputable def m_look_at_tree : MS := mIfS (mNot (mIsT (mCall (f_is_tree) [false, false] (mCons (mNm 0) (mCons (mNm 1) (mNil)))))) (mRaise "BadTree") (mSkip)
noncomputable def f_look_at_tree : Fn := mkFn 2 2 m_look_at_tree
noncomputable def m__law_draws : MS := mRetF (mLstC (mCons (mEx (mCallD dListOf (mCons (mNm 0) (mNil)))) (mCons (mEx (mC (.int 0))) (mCons (mEx (mC (.int 0))) (mCons (mEx (mC (.int 1))) (mNil))))))
noncomputable def f__law_draws : Fn := mkFn 1 1 m__law_draws
noncomputable def m__law_draw : MS := mSeq (mIfS (mAnd (mIsT (mBin dEq (mEx (mBin dIxD (mNm 0) (mEx (mC (.int 2))))) (mEx (mC (.int 0))))) (mIsT (mBin dLt (mEx (mBin dIxD (mNm 0) (mEx (mC (.int 1))))) (mEx (mCallD dLen (mCons (mEx (mBin dIxD (mNm 0) (mEx (mC (.int 0))))) (mNil))))))) (mSeq (mAsg (mBin dIxD (mEx (mBin dIxD (mNm 0) (mEx (mC (.int 0))))) (mEx (mBin dIxD (mNm 0) (mEx (mC (.int 1)))))) (gN 2)) (mSeq (mSet cSetX 0 (mC (.int 1)) (mBin dAdd (mEx (mBin dIxD (mNm 0) (mEx (mC (.int 1))))) (mEx (mC (.int 1))))) (mSeq (mIfS (mIsT (mBin dGe (mNm 2) (mEx (mBin dPow (mEx (mC (.int 10))) (mEx (mC (.int 18))))))) (mSet cSetX 0 (mC (.int 2)) (mVal 2)) (mSkip)) (mSet cSetX 0 (mC (.int 3)) (mBin dMod (mEx (mCallD dIntOf (mCons (mEx (mBin dAdd (mEx (mBin dAdd (mEx (mBin dMul (mEx (mBin dIxD (mNm 0) (mEx (mC (.int 3))))) (mEx (mC (.int 48271))))) (mNm 2))) (mEx (mC (.int 13))))) (mNil)))) (mEx (mC (.int 2147483647)))))))) (mSkip)) (mSeq (mIfS (mIsT (mBin dGt (mEx (mBin dIxD (mNm 0) (mEx (mC (.int 2))))) (mEx (mC (.int 0))))) (mSeq (mAsg (mBin dMod (mEx (mCallD dIntOf (mCons (mEx (mBin dIxD (mNm 0) (mEx (mC (.int 2))))) (mNil)))) (mNm 1)) (gN 3)) (mSeq (mSet cSetX 0 (mC (.int 2)) (mBin dDiv (mEx (mBin dIxD (mNm 0) (mEx (mC (.int 2))))) (mNm 1))) (mRet (mVal 3)))) (mSkip)) (mSeq (mSet cSetX 0 (mC (.int 3)) (mBin dMod (mEx (mCallD dIntOf (mCons (mEx (mBin dAdd (mEx (mBin dMul (mEx (mBin dIxD (mNm 0) (mEx (mC (.int 3))))) (mEx (mC (.int 69621))))) (mEx (mC (.int 7))))) (mNil)))) (mEx (mC (.int 2147483629))))) (mRet (mBin dMod (mEx (mCallD dIntOf (mCons (mEx (mBin dDiv (mEx (mBin dIxD (mNm 0) (mEx (mC (.int 3))))) (mEx (mC (.int 11))))) (mNil)))) (mNm 1)))))
noncomputable def f__law_draw : Fn := mkFn 2 4 m__law_draw
noncomputable def c1__law_same (r__law_same : Nat → Fn) (n : Nat) : M Cell := mComp (mRng dRng1 (mCons (mEx (mCallD dLen (mCons (mNm 1) (mNil)))) (mNil))) (gN 2) (mNot (mIsT (mCall (r__law_same n) [false, false] (mCons (mEx (mBin dIxD (mNm 0) (mNm 2))) (mCons (mEx (mBin dIxD (mNm 1) (mNm 2))) (mNil)))))) (mVal 2) [2]
noncomputable def m__law_same (r__law_same : Nat → Fn) (n : Nat) : MS := mSeq (mIfS (mOr (mIsT (mIsi .tuple (mNm 1))) (mIsT (mIsi .list (mNm 1)))) (mSeq (mIfS (mOr (mIsT (mBin dNe (mEx (mIsi .tuple (mNm 1))) (mEx (mIsi .tuple (mNm 0))))) (mIsT (mBin dNe (mEx (mIsi .list (mNm 1))) (mEx (mIsi .list (mNm 0)))))) (mRet (mC (.bl false))) (mSkip)) (mSeq (mIfS (mIsT (mBin dNe (mEx (mCallD dLen (mCons (mNm 0) (mNil)))) (mEx (mCallD dLen (mCons (mNm 1) (mNil)))))) (mRet (mC (.bl false))) (mSkip)) (mRet (mBin dEq (mEx (mCallD dLen (mCons (mEx (mFr (c1__law_same r__law_same n ))) (mNil)))) (mEx (mC (.int 0))))))) (mSkip)) (mSeq (mIfS (mIsT (mIsi .str (mNm 1))) (mRet (mAndV (mIsi .str (mNm 0)) (mBin dEq (mNm 0) (mNm 1)))) (mSkip)) (mSeq (mIfS (mIsT (mBin dIs (mNm 1) (mEx (mC .non)))) (mRet (mBin dIs (mNm 0) (mEx (mC .non)))) (mSkip)) (mSeq (mIfS (mOr (mIsT (mIsi .bool (mNm 1))) (mIsT (mIsi .bool (mNm 0)))) (mRet (mAndV (mIsi .bool (mNm 1)) (mAndV (mIsi .bool (mNm 0)) (mBin dEq (mNm 0) (mNm 1))))) (mSkip)) (mRet (mAndV (mIsi .int (mNm 0)) (mAndV (mIsi .int (mNm 1)) (mBin dEq (mNm 0) (mNm 1))))))))
noncomputable def r__law_same : Nat → Fn
  | 0 => fun _ => .bad
  | n + 1 => mkFn 2 3 (m__law_same (fun _ => r__law_same n) n)
noncomputable def f__law_same : Fn := r__law_same 5
noncomputable def m__law_ranks : MS := mSeq (mAsg (mOwns dLst (mCons (mEx (mOwns dTup (mCons (mEx (mOwns dTup (mCons (mEx (mC (.str "a"))) (mCons (mEx (mC (.int 0))) (mNil))))) (mCons (mEx (mOwns dTup (mCons (mEx (mC (.str "f"))) (mCons (mEx (mC (.int 2))) (mNil))))) (mNil))))) (mCons (mEx (mOwns dTup (mCons (mEx (mOwns dTup (mCons (mEx (mC (.str "a"))) (mCons (mEx (mC (.int 0))) (mNil))))) (mCons (mEx (mOwns dTup (mCons (mEx (mC (.str "b"))) (mCons (mEx (mC (.int 0))) (mNil))))) (mCons (mEx (mOwns dTup (mCons (mEx (mC (.str "f"))) (mCons (mEx (mC (.int 2))) (mNil))))) (mNil)))))) (mCons (mEx (mOwns dTup (mCons (mEx (mOwns dTup (mCons (mEx (mC (.str "a"))) (mCons (mEx (mC (.int 0))) (mNil))))) (mCons (mEx (mOwns dTup (mCons (mEx (mC (.str "b"))) (mCons (mEx (mC (.int 0))) (mNil))))) (mCons (mEx (mOwns dTup (mCons (mEx (mC (.str "f"))) (mCons (mEx (mC (.int 2))) (mNil))))) (mCons (mEx (mOwns dTup (mCons (mEx (mC (.str "g"))) (mCons (mEx (mC (.int 1))) (mNil))))) (mNil))))))) (mNil))))) (gN 1)) (mSeq (mAsg (mBin dAdd (mNm 1) (mEx (mOwns dLst (mCons (mEx (mOwns dTup (mCons (mEx (mOwns dTup (mCons (mEx (mC (.str "a"))) (mCons (mEx (mC (.int 0))) (mNil))))) (mCons (mEx (mOwns dTup (mCons (mEx (mC (.str "g"))) (mCons (mEx (mC (.int 1))) (mNil))))) (mNil))))) (mCons (mEx (mOwns dTup (mCons (mEx (mOwns dTup (mCons (mEx (mC (.str "a"))) (mCons (mEx (mC (.int 0))) (mNil))))) (mCons (mEx (mOwns dTup (mCons (mEx (mC (.str "b"))) (mCons (mEx (mC (.int 0))) (mNil))))) (mCons (mEx (mOwns dTup (mCons (mEx (mC (.str "g"))) (mCons (mEx (mC (.int 1))) (mNil))))) (mCons (mEx (mOwns dTup (mCons (mEx (mC (.str "h"))) (mCons (mEx (mC (.int 3))) (mNil))))) (mNil))))))) (mCons (mEx (mOwns dTup (mCons (mEx (mOwns dTup (mCons (mEx (mC (.str "c"))) (mCons (mEx (mC (.int 0))) (mNil))))) (mCons (mEx (mOwns dTup (mCons (mEx (mC (.str "f"))) (mCons (mEx (mC (.int 2))) (mNil))))) (mCons (mEx (mOwns dTup (mCons (mEx (mC (.str "g"))) (mCons (mEx (mC (.int 1))) (mNil))))) (mNil)))))) (mNil))))))) (gN 1)) (mRet (mBin dIxD (mNm 1) (mEx (mCall (f__law_draw) [true, false] (mCons (mNm 0) (mCons (mEx (mC (.int 6))) (mNil))))))))
noncomputable def f__law_ranks : Fn := mkFn 1 2 m__law_ranks
noncomputable def c1__law_tree : M Cell := mComp (mSrc (mNm 1)) (gT 2 (gCons' (gN 5) (gCons' (gN 6) (gNil')))) (mIsT (mBin dEq (mNm 6) (mEx (mC (.int 0))))) (mVal 5) [5, 6]
noncomputable def c2__law_tree : M Cell := mComp (mSrc (mNm 1)) (gT 2 (gCons' (gN 5) (gCons' (gN 6) (gNil')))) (mIsT (mBin dGt (mNm 6) (mEx (mC (.int 0))))) (mOwns dTup (mCons (mNm 5) (mCons (mNm 6) (mNil)))) [5, 6]
noncomputable def b1__law_tree : MS := mAsg (mBin dAdd (mNm 9) (mEx (mOwns dTup (mCons (mEx (mIf (mIsT (mBin dGt (mEx (mCallD dLen (mCons (mNm 3) (mNil)))) (mEx (mC (.int 0))))) (mMut "list" cPopAt 3 (mCons (mEx (mCall (f__law_draw) [true, false] (mCons (mNm 0) (mCons (mEx (mCallD dLen (mCons (mNm 3) (mNil)))) (mNil))))) (mNil))) (mOwns dTup (mCons (mEx (mBin dIxD (mNm 4) (mEx (mCall (f__law_draw) [true, false] (mCons (mNm 0) (mCons (mEx (mCallD dLen (mCons (mNm 4) (mNil)))) (mNil))))))) (mNil))))) (mNil))))) (gN 9)
noncomputable def l1__law_tree : MS := mFor (mRng dRng1 (mCons (mNm 6) (mNil))) (gN 10) (b1__law_tree)
noncomputable def b2__law_tree : MS := mIfS (mOr (mIsT (mBin dEq (mEx (mCallD dLen (mCons (mNm 3) (mNil)))) (mEx (mC (.int 0))))) (mIsT (mBin dEq (mEx (mCall (f__law_draw) [true, false] (mCons (mNm 0) (mCons (mEx (mC (.int 2))) (mNil))))) (mEx (mC (.int 0)))))) (mDrop (mMut "list" cAppend 3 (mCons (mEx (mOwns dTup (mCons (mEx (mBin dIxD (mNm 4) (mEx (mCall (f__law_draw) [true, false] (mCons (mNm 0) (mCons (mEx (mCallD dLen (mCons (mNm 4) (mNil)))) (mNil))))))) (mNil)))) (mNil)))) (mSeq (mAsg (mBin dIxD (mNm 7) (mEx (mCall (f__law_draw) [true, false] (mCons (mNm 0) (mCons (mEx (mCallD dLen (mCons (mNm 7) (mNil)))) (mNil)))))) (gT 2 (gCons' (gN 5) (gCons' (gN 6) (gNil'))))) (mSeq (mAsg (mOwns dTup (mCons (mNm 5) (mNil))) (gN 9)) (mSeq (l1__law_tree) (mDrop (mMut "list" cAppend 3 (mCons (mNm 9) (mNil)))))))
noncomputable def l2__law_tree : MS := mFor (mRng dRng1 (mCons (mEx (mBin dAdd (mEx (mC (.int 1))) (mEx (mCall (f__law_draw) [true, false] (mCons (mNm 0) (mCons (mNm 2) (mNil))))))) (mNil))) (gN 8) (b2__law_tree)
noncomputable def m__law_tree : MS := mSeq (mAsgNew 3 (mLstC (mNil))) (mSeq (mAsg (mFrL (c1__law_tree )) (gN 4)) (mSeq (mAsg (mFrL (c2__law_tree )) (gN 7)) (mSeq (l2__law_tree) (mRet (mBin dIxD (mNm 3) (mEx (mCall (f__law_draw) [true, false] (mCons (mNm 0) (mCons (mEx (mCallD dLen (mCons (mNm 3) (mNil)))) (mNil))))))))))
noncomputable def f__law_tree : Fn := mkFn 3 11 m__law_tree
noncomputable def c1__law_nodes : M Cell := mComp (mSrc (mEx (mSlice dSl (mNm 4) (mP (mC (.int 1))) (mNoP)))) (gN 5) (mYes) (mVal 5) [5]
noncomputable def b1__law_nodes : MS := mIfS (mIsT (mBin dGt (mEx (mCallD dLen (mCons (mNm 2) (mNil)))) (mEx (mC (.int 0))))) (mSeq (mAsg (mMut "list" cPop 2 mNil) (gN 4)) (mSeq (mDrop (mMut "list" cAppend 1 (mCons (mNm 4) (mNil)))) (mAsgNew 2 (mBinF fAdd (mNm 2) (mEx (mFr (c1__law_nodes ))))))) (mSkip)
noncomputable def l1__law_nodes : MS := mFor (mRng dRng1 (mCons (mEx (mC (.int 5000))) (mNil))) (gN 3) (b1__law_nodes)
noncomputable def m__law_nodes : MS := mSeq (mAsgNew 1 (mLstC (mNil))) (mSeq (mAsgNew 2 (mLstC (mCons (mNm 0) (mNil)))) (mSeq (l1__law_nodes) (mRet (mSlice dRev (mNm 1) (mNoP) (mNoP)))))
noncomputable def f__law_nodes : Fn := mkFn 1 6 m__law_nodes
noncomputable def c1__law_is_sign : M Cell := mComp (mSrc (mNm 0)) (gN 1) (mYes) (mBin dIn (mNm 1) (mEx (mC (.str "abcdefghijklmnopqrstuvwxyz")))) [1]
noncomputable def m__law_is_sign : MS := mRet (mAndV (mIsi .str (mNm 0)) (mAndV (mChain dLt dLt (mEx (mC (.int 0))) (mEx (mCallD dLen (mCons (mNm 0) (mNil)))) (mEx (mC (.int 9)))) (mCallD dAll (mCons (mEx (mFr (c1__law_is_sign ))) (mNil)))))
noncomputable def f__law_is_sign : Fn := mkFn 1 2 m__law_is_sign
noncomputable def m__law_number : MS := mRet (mAndV (mIsi .int (mNm 0)) (mNotV (mIsi .bool (mNm 0))))
noncomputable def f__law_number : Fn := mkFn 1 1 m__law_number
noncomputable def c1__law_are_ranks : M Cell := mComp (mSrc (mNm 0)) (gN 1) (mYes) (mAndV (mIsi .tuple (mNm 1)) (mBin dEq (mEx (mCallD dLen (mCons (mNm 1) (mNil)))) (mEx (mC (.int 2))))) [1]
noncomputable def c2__law_are_ranks : M Cell := mComp (mSrc (mNm 0)) (gT 2 (gCons' (gN 1) (gCons' (gN 2) (gNil')))) (mYes) (mAndV (mCall (f__law_is_sign) [false] (mCons (mNm 1) (mNil))) (mAndV (mCall (f__law_number) [false] (mCons (mNm 2) (mNil))) (mChain dLe dLe (mEx (mC (.int 0))) (mNm 2) (mEx (mC (.int 3)))))) [1, 2]
noncomputable def c3__law_are_ranks : M Cell := mComp (mSrc (mNm 0)) (gT 2 (gCons' (gN 1) (gCons' (gN 2) (gNil')))) (mYes) (mVal 1) [1, 2]
noncomputable def c4__law_are_ranks : M Cell := mComp (mSrc (mNm 0)) (gT 2 (gCons' (gN 1) (gCons' (gN 2) (gNil')))) (mYes) (mVal 2) [1, 2]
noncomputable def m__law_are_ranks : MS := mSeq (mIfS (mOr (mNot (mIsT (mIsi .tuple (mNm 0)))) (mOr (mNot (mIsT (mChain dLt dLt (mEx (mC (.int 0))) (mEx (mCallD dLen (mCons (mNm 0) (mNil)))) (mEx (mC (.int 9)))))) (mNot (mIsT (mCallD dAll (mCons (mEx (mFr (c1__law_are_ranks ))) (mNil))))))) (mRet (mC (.bl false))) (mSkip)) (mSeq (mIfS (mNot (mIsT (mCallD dAll (mCons (mEx (mFr (c2__law_are_ranks ))) (mNil))))) (mRet (mC (.bl false))) (mSkip)) (mSeq (mAsg (mFrL (c3__law_are_ranks )) (gN 3)) (mRet (mAndV (mBin dEq (mNm 3) (mEx (mFr (mSortSet (mNm 3))))) (mBin dIn (mEx (mC (.int 0))) (mEx (mFr (c4__law_are_ranks ))))))))
noncomputable def f__law_are_ranks : Fn := mkFn 1 4 m__law_are_ranks
noncomputable def c1__law_is_tree : M Cell := mComp (mSrc (mNm 2)) (gN 5) (mYes) (mAndV (mIsi .tuple (mNm 5)) (mAndV (mBin dGt (mEx (mCallD dLen (mCons (mNm 5) (mNil)))) (mEx (mC (.int 0)))) (mIsi .str (mEx (mBin dIxD (mNm 5) (mEx (mC (.int 0)))))))) [5]
noncomputable def c2__law_is_tree : M Cell := mComp (mSrc (mNm 2)) (gN 5) (mYes) (mBin dEq (mEx (mBin dSub (mEx (mCallD dLen (mCons (mNm 5) (mNil)))) (mEx (mC (.int 1))))) (mEx (mMeth "dict" dGetF (mEx (mFr (mCallF fDict (mCons (mNm 0) (mNil))))) (mCons (mEx (mBin dIxD (mNm 5) (mEx (mC (.int 0))))) (mCons (mEx (mUn dNeg (mEx (mC (.int 9))))) (mNil)))))) [5]
noncomputable def b1__law_is_tree : MS := mAsg (mBin dAdd (mNm 6) (mEx (mCallD dListOf (mCons (mEx (mSlice dSl (mNm 5) (mP (mC (.int 1))) (mNoP))) (mNil))))) (gN 6)
noncomputable def l1__law_is_tree : MS := mFor (mSrc (mNm 2)) (gN 5) (b1__law_is_tree)
noncomputable def b2__law_is_tree : MS := mSeq (mAsg (mBin dAdd (mNm 3) (mEx (mCallD dLen (mCons (mNm 2) (mNil))))) (gN 3)) (mSeq (mIfS (mIsT (mBin dEq (mEx (mCallD dLen (mCons (mNm 2) (mNil)))) (mEx (mC (.int 0))))) (mRet (mBin dLe (mNm 3) (mEx (mC (.int 4000))))) (mSkip)) (mSeq (mIfS (mNot (mIsT (mCallD dAll (mCons (mEx (mFr (c1__law_is_tree ))) (mNil))))) (mRet (mC (.bl false))) (mSkip)) (mSeq (mIfS (mNot (mIsT (mCallD dAll (mCons (mEx (mFr (c2__law_is_tree ))) (mNil))))) (mRet (mC (.bl false))) (mSkip)) (mSeq (mAsg (mOwns dLst (mNil)) (gN 6)) (mSeq (l1__law_is_tree) (mAsg (mVal 6) (gN 2)))))))
noncomputable def l2__law_is_tree : MS := mFor (mRng dRng1 (mCons (mEx (mC (.int 41))) (mNil))) (gN 4) (b2__law_is_tree)
noncomputable def m__law_is_tree : MS := mSeq (mParX [2, 3] (xVal (mOwns dLst (mCons (mNm 1) (mNil))) (xVal (mC (.int 0)) (xNil)))) (mSeq (l2__law_is_tree) (mRet (mC (.bl false))))
noncomputable def f__law_is_tree : Fn := mkFn 2 7 m__law_is_tree
noncomputable def m__law_asked : MS := mTry (mSeq (mIfS (mIsT (mBin dEq (mNm 0) (mEx (mC (.int 0))))) (mDrop (mCall (f_look_at_ranks) [false] (mCons (mNm 1) (mNil)))) (mDrop (mCall (f_look_at_tree) [false, false] (mCons (mNm 1) (mCons (mNm 2) (mNil)))))) (mRet (mC .non))) cat_TreeError 3 (fun c fs => mRet (mIf (mIsT (mIsE 3 (isa_BadRanks c))) (mC (.str "ranks")) (mIf (mIsT (mIsE 3 (isa_BadTree c))) (mC (.str "tree")) (mC (.str "other")))))
noncomputable def f__law_asked : Fn := mkFn 3 4 m__law_asked
noncomputable def m__law_changed : MS := mSeq (mAsg (mCall (f__law_draw) [true, false] (mCons (mNm 0) (mCons (mEx (mC (.int 8))) (mNil)))) (gN 2)) (mSeq (mIfS (mAnd (mIsT (mBin dLt (mNm 2) (mEx (mC (.int 4))))) (mIsT (mBin dGt (mEx (mCallD dLen (mCons (mNm 1) (mNil)))) (mEx (mC (.int 1)))))) (mSeq (mAsg (mBin dAdd (mEx (mC (.int 1))) (mEx (mCall (f__law_draw) [true, false] (mCons (mNm 0) (mCons (mEx (mBin dSub (mEx (mCallD dLen (mCons (mNm 1) (mNil)))) (mEx (mC (.int 1))))) (mNil)))))) (gN 3)) (mRet (mBin dAdd (mEx (mBin dAdd (mEx (mSlice dSl (mNm 1) (mNoP) (mP (mVal 3)))) (mEx (mOwns dTup (mCons (mEx (mBin dIxD (mEx (mOwns dLst (mCons (mEx (mBin dAdd (mEx (mBin dIxD (mNm 1) (mNm 3))) (mEx (mOwns dTup (mCons (mEx (mOwns dTup (mCons (mEx (mC (.str "a"))) (mNil)))) (mNil)))))) (mCons (mEx (mOwns dTup (mCons (mEx (mC (.str "zz"))) (mNil)))) (mCons (mEx (mCallD dListOf (mCons (mEx (mBin dIxD (mNm 1) (mNm 3))) (mNil)))) (mCons (mEx (mC .non)) (mNil))))))) (mNm 2))) (mNil)))))) (mEx (mSlice dSl (mNm 1) (mP (mBin dAdd (mNm 3) (mEx (mC (.int 1))))) (mNoP)))))) (mSkip)) (mRet (mBin dIxD (mEx (mOwns dLst (mCons (mNm 1) (mCons (mEx (mBin dAdd (mNm 1) (mEx (mOwns dTup (mCons (mEx (mOwns dTup (mCons (mEx (mC (.str "a"))) (mNil)))) (mNil)))))) (mCons (mEx (mCallD dListOf (mCons (mNm 1) (mNil)))) (mCons (mEx (mSlice dSl (mNm 1) (mNoP) (mP (mC (.int 1))))) (mCons (mEx (mSlice dSl (mNm 1) (mP (mC (.int 1))) (mNoP))) (mCons (mEx (mOwns dTup (mNil))) (mCons (mEx (mC .non)) (mCons (mEx (mBin dAdd (mEx (mOwns dTup (mCons (mEx (mMeth "str" dUpper (mEx (mBin dIxD (mNm 1) (mEx (mC (.int 0))))) mNil)) (mNil)))) (mEx (mSlice dSl (mNm 1) (mP (mC (.int 1))) (mNoP))))) (mNil))))))))))) (mNm 2))))
noncomputable def f__law_changed : Fn := mkFn 2 4 m__law_changed
noncomputable def b1_law : MS := mSeq (mAsg (mCall (f__law_changed) [true, false] (mCons (mNm 1) (mCons (mNm 4) (mNil)))) (gN 6)) (mSeq (mAsg (mCall (f__law_is_tree) [false, false] (mCons (mNm 3) (mCons (mNm 6) (mNil)))) (gN 7)) (mIfS (mOr (mNot (mIsT (mCall (f__law_same) [false, false] (mCons (mEx (mCall (f_is_tree) [false, false] (mCons (mNm 3) (mCons (mNm 6) (mNil))))) (mCons (mNm 7) (mNil)))))) (mIsT (mBin dNe (mEx (mCall (f__law_asked) [false, false, false] (mCons (mEx (mC (.int 1))) (mCons (mNm 3) (mCons (mNm 6) (mNil)))))) (mEx (mIf (mIsT (mVal 7)) (mC .non) (mC (.str "tree"))))))) (mRet (mC (.bl false))) (mSkip)))
noncomputable def l1_law : MS := mFor (mRng dRng1 (mCons (mEx (mC (.int 5))) (mNil))) (gN 5) (b1_law)
noncomputable def b2_law : MS := mSeq (mAsg (mCall (f__law_are_ranks) [false] (mCons (mNm 10) (mNil))) (gN 7)) (mIfS (mOr (mNot (mIsT (mCall (f__law_same) [false, false] (mCons (mEx (mCall (f_are_ranks) [false] (mCons (mNm 10) (mNil)))) (mCons (mNm 7) (mNil)))))) (mIsT (mBin dNe (mEx (mCall (f__law_asked) [false, false, false] (mCons (mEx (mC (.int 0))) (mCons (mNm 10) (mCons (mEx (mC .non)) (mNil)))))) (mEx (mIf (mIsT (mVal 7)) (mC .non) (mC (.str "ranks"))))))) (mRet (mC (.bl false))) (mSkip))
noncomputable def l2_law : MS := mFor (mSrc (mNm 9)) (gN 10) (b2_law)
noncomputable def c1_law : M Cell := mComp (mRng dRng1 (mCons (mEx (mCall (f__law_draw) [true, false] (mCons (mNm 1) (mCons (mEx (mC (.int 4))) (mNil))))) (mNil))) (gN 5) (mYes) (mBin dIxD (mEx (mC (.str "abyzA1 "))) (mEx (mCall (f__law_draw) [true, false] (mCons (mNm 1) (mCons (mEx (mC (.int 7))) (mNil)))))) [5]
noncomputable def b3_law : MS := mSeq (mAsg (mCall (f__law_ranks) [true] (mCons (mNm 1) (mNil))) (gN 3)) (mSeq (mAsg (mCall (f__law_tree) [true, false, false] (mCons (mNm 1) (mCons (mNm 3) (mCons (mEx (mC (.int 30))) (mNil))))) (gN 4)) (mSeq (mIfS (mOr (mNot (mIsT (mCall (f__law_same) [false, false] (mCons (mEx (mCall (f_is_tree) [false, false] (mCons (mNm 3) (mCons (mNm 4) (mNil))))) (mCons (mEx (mC (.bl true))) (mNil)))))) (mIsT (mBin dIsNot (mEx (mCall (f__law_asked) [false, false, false] (mCons (mEx (mC (.int 1))) (mCons (mNm 3) (mCons (mNm 4) (mNil)))))) (mEx (mC .non))))) (mRet (mC (.bl false))) (mSkip)) (mSeq (l1_law) (mSeq (mAsg (mCall (f__law_draw) [true, false] (mCons (mNm 1) (mCons (mEx (mCallD dLen (mCons (mNm 3) (mNil)))) (mNil)))) (gN 8)) (mSeq (mAsg (mOwns dLst (mCons (mNm 3) (mCons (mEx (mSlice dRev (mNm 3) (mNoP) (mNoP))) (mCons (mEx (mCallD dListOf (mCons (mNm 3) (mNil)))) (mCons (mEx (mBin dAdd (mNm 3) (mEx (mSlice dSl (mNm 3) (mNoP) (mP (mC (.int 1))))))) (mCons (mEx (mBin dAdd (mEx (mBin dAdd (mEx (mSlice dSl (mNm 3) (mNoP) (mP (mVal 8)))) (mEx (mOwns dTup (mCons (mEx (mOwns dTup (mCons (mEx (mBin dIxD (mEx (mBin dIxD (mNm 3) (mNm 8))) (mEx (mC (.int 0))))) (mCons (mEx (mC (.int 4))) (mNil))))) (mNil)))))) (mEx (mSlice dSl (mNm 3) (mP (mBin dAdd (mNm 8) (mEx (mC (.int 1))))) (mNoP))))) (mNil))))))) (gN 9)) (mSeq (mAsg (mBin dAdd (mNm 9) (mEx (mOwns dLst (mCons (mEx (mBin dAdd (mEx (mBin dAdd (mEx (mSlice dSl (mNm 3) (mNoP) (mP (mVal 8)))) (mEx (mOwns dTup (mCons (mEx (mOwns dTup (mCons (mEx (mBin dIxD (mEx (mBin dIxD (mNm 3) (mNm 8))) (mEx (mC (.int 0))))) (mCons (mEx (mC (.bl true))) (mNil))))) (mNil)))))) (mEx (mSlice dSl (mNm 3) (mP (mBin dAdd (mNm 8) (mEx (mC (.int 1))))) (mNoP))))) (mCons (mEx (mBin dAdd (mEx (mBin dAdd (mEx (mSlice dSl (mNm 3) (mNoP) (mP (mVal 8)))) (mEx (mOwns dTup (mCons (mEx (mOwns dTup (mCons (mEx (mC (.str "A"))) (mCons (mEx (mC (.int 1))) (mNil))))) (mNil)))))) (mEx (mSlice dSl (mNm 3) (mP (mBin dAdd (mNm 8) (mEx (mC (.int 1))))) (mNoP))))) (mCons (mEx (mOwns dTup (mCons (mEx (mOwns dTup (mCons (mEx (mC (.str "f"))) (mCons (mEx (mC (.int 1))) (mNil))))) (mNil)))) (mCons (mEx (mOwns dTup (mNil))) (mCons (mEx (mC .non)) (mNil))))))))) (gN 9)) (mSeq (mAsg (mBin dAdd (mNm 9) (mEx (mOwns dLst (mCons (mEx (mBin dAdd (mEx (mBin dAdd (mEx (mSlice dSl (mNm 3) (mNoP) (mP (mVal 8)))) (mEx (mOwns dTup (mCons (mEx (mSlice dSl (mEx (mBin dIxD (mNm 3) (mNm 8))) (mNoP) (mP (mC (.int 1))))) (mNil)))))) (mEx (mSlice dSl (mNm 3) (mP (mBin dAdd (mNm 8) (mEx (mC (.int 1))))) (mNoP))))) (mCons (mEx (mBin dAdd (mEx (mBin dAdd (mEx (mSlice dSl (mNm 3) (mNoP) (mP (mVal 8)))) (mEx (mOwns dTup (mCons (mEx (mOwns dTup (mCons (mEx (mBin dIxD (mEx (mBin dIxD (mNm 3) (mNm 8))) (mEx (mC (.int 0))))) (mCons (mEx (mUn dNeg (mEx (mC (.int 1))))) (mNil))))) (mNil)))))) (mEx (mSlice dSl (mNm 3) (mP (mBin dAdd (mNm 8) (mEx (mC (.int 1))))) (mNoP))))) (mNil)))))) (gN 9)) (mSeq (l2_law) (mSeq (mAsg (mBin dAdd (mEx (mMeth "str" dJoin (mEx (mC (.str ""))) (mCons (mEx (mFr (c1_law ))) (mNil)))) (mEx (mBin dMul (mEx (mC (.str "q"))) (mEx (mBin dIxD (mEx (mOwns dLst (mCons (mEx (mC (.int 0))) (mCons (mEx (mC (.int 0))) (mCons (mEx (mC (.int 6))) (mCons (mEx (mC (.int 8))) (mCons (mEx (mC (.int 9))) (mNil)))))))) (mEx (mCall (f__law_draw) [true, false] (mCons (mNm 1) (mCons (mEx (mC (.int 5))) (mNil)))))))))) (gN 11)) (mIfS (mOr (mNot (mIsT (mCall (f__law_same) [false, false] (mCons (mEx (mCall (f_is_sign) [false] (mCons (mNm 11) (mNil)))) (mCons (mEx (mCall (f__law_is_sign) [false] (mCons (mNm 11) (mNil)))) (mNil)))))) (mOr (mIsT (mBin dIsNot (mEx (mCall (f_is_sign) [false] (mCons (mEx (mC .non)) (mNil)))) (mEx (mC (.bl false))))) (mIsT (mBin dIsNot (mEx (mCall (f_is_sign) [false] (mCons (mEx (mOwns dTup (mCons (mEx (mC (.str "a"))) (mNil)))) (mNil)))) (mEx (mC (.bl false))))))) (mRet (mC (.bl false))) (mSkip)))))))))))
noncomputable def l3_law : MS := mFor (mRng dRng1 (mCons (mEx (mC (.int 5))) (mNil))) (gN 2) (b3_law)
noncomputable def b4_law : MS := mAsg (mOwns dTup (mCons (mEx (mC (.str "g"))) (mCons (mNm 12) (mNil)))) (gN 12)
noncomputable def l4_law : MS := mFor (mRng dRng1 (mCons (mEx (mC (.int 39))) (mNil))) (gN 5) (b4_law)
noncomputable def b5_law : MS := mAsg (mOwns dTup (mCons (mEx (mC (.str "f"))) (mCons (mNm 14) (mCons (mNm 14) (mNil))))) (gN 14)
noncomputable def l5_law : MS := mFor (mRng dRng1 (mCons (mEx (mC (.int 10))) (mNil))) (gN 5) (b5_law)
noncomputable def c2_law : M Cell := mComp (mSrc (mEx (mOwns dLst (mCons (mEx (mC (.int 0))) (mCons (mEx (mUn dNeg (mEx (mC (.int 5))))) (mCons (mEx (mC (.bl true))) (mCons (mEx (mC .non)) (mCons (mEx (mC (.str "1"))) (mCons (mEx (mOwns dTup (mCons (mEx (mC (.int 1))) (mNil)))) (mNil)))))))))) (gN 10) (mYes) (mCall (f_is_integer) [false] (mCons (mNm 10) (mNil))) [10]
noncomputable def m_law : MS := mSeq (mAsgNew 1 (mCallN (f__law_draws) [false] (mCons (mNm 0) (mNil)))) (mSeq (l3_law) (mSeq (mAsg (mOwns dTup (mCons (mEx (mC (.str "a"))) (mNil))) (gN 12)) (mSeq (l4_law) (mSeq (mAsg (mOwns dTup (mCons (mEx (mOwns dTup (mCons (mEx (mC (.str "a"))) (mCons (mEx (mC (.int 0))) (mNil))))) (mCons (mEx (mOwns dTup (mCons (mEx (mC (.str "f"))) (mCons (mEx (mC (.int 2))) (mNil))))) (mCons (mEx (mOwns dTup (mCons (mEx (mC (.str "g"))) (mCons (mEx (mC (.int 1))) (mNil))))) (mNil))))) (gN 13)) (mSeq (mAsg (mOwns dTup (mCons (mEx (mC (.str "a"))) (mNil))) (gN 14)) (mSeq (l5_law) (mSeq (mAsg (mOwns dTup (mCons (mEx (mC (.str "f"))) (mCons (mEx (mOwns dTup (mCons (mEx (mC (.str "f"))) (mCons (mNm 14) (mCons (mEx (mBin dIxD (mNm 14) (mEx (mC (.int 1))))) (mNil)))))) (mCons (mEx (mOwns dTup (mCons (mEx (mC (.str "f"))) (mCons (mEx (mBin dIxD (mEx (mBin dIxD (mNm 14) (mEx (mC (.int 1))))) (mEx (mC (.int 1))))) (mCons (mEx (mOwns dTup (mCons (mEx (mC (.str "a"))) (mNil)))) (mNil)))))) (mNil))))) (gN 15)) (mSeq (mAsg (mCallD dLen (mCons (mEx (mCall (f__law_nodes) [false] (mCons (mNm 15) (mNil)))) (mNil))) (gN 16)) (mSeq (mIfS (mNot (mIsT (mCall (f__law_same) [false, false] (mCons (mEx (mOwns dLst (mCons (mEx (mCall (f_is_tree) [false, false] (mCons (mNm 13) (mCons (mNm 12) (mNil))))) (mCons (mEx (mCall (f_is_tree) [false, false] (mCons (mNm 13) (mCons (mEx (mOwns dTup (mCons (mEx (mC (.str "g"))) (mCons (mNm 12) (mNil))))) (mNil))))) (mCons (mEx (mCall (f_is_tree) [false, false] (mCons (mNm 13) (mCons (mNm 14) (mNil))))) (mCons (mEx (mCall (f_is_tree) [false, false] (mCons (mNm 13) (mCons (mEx (mOwns dTup (mCons (mEx (mC (.str "f"))) (mCons (mNm 14) (mCons (mNm 14) (mNil)))))) (mNil))))) (mNil))))))) (mCons (mEx (mOwns dLst (mCons (mEx (mC (.bl true))) (mCons (mEx (mC (.bl false))) (mCons (mEx (mC (.bl true))) (mCons (mEx (mC (.bl false))) (mNil))))))) (mNil)))))) (mRet (mC (.bl false))) (mSkip)) (mSeq (mIfS (mOr (mNot (mIsT (mCall (f__law_same) [false, false] (mCons (mEx (mCall (f_is_tree) [false, false] (mCons (mNm 13) (mCons (mNm 15) (mNil))))) (mCons (mEx (mBin dLe (mNm 16) (mEx (mC (.int 4000))))) (mNil)))))) (mIsT (mBin dNe (mEx (mCall (f__law_asked) [false, false, false] (mCons (mEx (mC (.int 1))) (mCons (mEx (mOwns dTup (mNil))) (mCons (mEx (mOwns dTup (mCons (mEx (mC (.str "a"))) (mNil)))) (mNil)))))) (mEx (mC (.str "ranks")))))) (mRet (mC (.bl false))) (mSkip)) (mRet (mBin dEq (mEx (mFr (c2_law ))) (mEx (mOwns dLst (mCons (mEx (mC (.bl true))) (mCons (mEx (mC (.bl true))) (mCons (mEx (mC (.bl false))) (mCons (mEx (mC (.bl false))) (mCons (mEx (mC (.bl false))) (mCons (mEx (mC (.bl false))) (mNil)))))))))))))))))))))
noncomputable def f_law : Fn := mkFn 1 17 m_law
/-! ### the walks -/
section
variable {P : Program} {w : World} {K : PySem.W.Frag} {mg : Str → Option Value} {base : Heap}
theorem ok_is_integer (T : Txt K mg) : FnOk P w K mg base (L2.CX P w) 1 T.a_is_integer T.d_is_integer p_is_integer (spOf K ⟨mg, P, w, none⟩ f_is_integer) :=
  fn_ok (k := 0) (N := n_is_integer) (m := m_is_integer) T.F_is_integer sc_is_integer (fun cdv A outer s H E G hx hr tk hp => by
    have hu := room64 hr
    have hu1 := room1 hr
    have hu5 := room65 hr
    exact mss_one (mst_ret (me_and (me_isi (T := .int) rfl T.n_isinstance (mo_nm 0 (pv 0)) rfl T.n_int (by decide +kernel)) (me_one (me_not (me_isi (T := .bool) rfl T.n_isinstance (mo_nm 0 (pv 0)) rfl T.n_bool (by decide +kernel)))))))
theorem ok_is_sign (T : Txt K mg) : FnOk P w K mg base (L2.CX P w) 1 T.a_is_sign T.d_is_sign p_is_sign (spOf K ⟨mg, P, w, none⟩ f_is_sign) :=
  fn_ok (k := 0) (N := n_is_sign) (m := m_is_sign) T.F_is_sign sc_is_sign (fun cdv A outer s H E G hx hr tk hp => by
    have hu := room64 hr
    have hu1 := room1 hr
    have hu5 := room65 hr
    exact mss_one (mst_ret (me_and (me_isi (T := .str) rfl T.n_isinstance (mo_nm 0 (pv 0)) rfl T.n_str (by decide +kernel)) (me_and (me_chain opr_lt opr_le (mo_ex (me_int)) (mo_ex (me_callB cr_len rfl T.n_len PySem.boot_len (ma_cons (mo_nm 0 (pv 0)) (ma_nil)))) (mo_ex (me_globI (i := 8) rfl T.c_MOST_SIGNS ⟨_, rfl⟩))) (me_one (me_callB (cr_all' rfl) rfl T.n_all (by decide +kernel) (ma_cons (mo_ex (me_fr (mf_comp (own := [("letter", 1)]) rfl sc_is_sign.nd (mi_any (mo_nm 0 (pv 0))) (blkOk_by (N := n_is_sign) (sc := defScope s_is_sign) (by decide +kernel)) (by decide) (fun _ _ _ _ _ _ => mg_name (i := 1) (pg_name sc_is_sign.nd rfl (by first | exact Or.inl rfl | exact Or.inr rfl))) (fun _ _ _ _ _ _ => mts_nil) (fun _ _ _ _ _ _ => me_cmp (opr_in hu5) (mo_nm 1 (pv 1)) (mo_ex (me_globS (i := "abcdefghijklmnopqrstuvwxyz") rfl T.c_LETTERS ⟨_, rfl⟩)) (by rfl))))) (ma_nil))))))))
theorem ok_are_ranks (T : Txt K mg) : FnOk P w K mg base (L2.CX P w) 2 T.a_are_ranks T.d_are_ranks p_are_ranks (spOf K ⟨mg, P, w, none⟩ f_are_ranks) :=
  fn_ok (k := 1) (N := n_are_ranks) (m := m_are_ranks) T.F_are_ranks sc_are_ranks (fun cdv A outer s H E G hx hr tk hp => by
    have hu := room64 hr
    have hu1 := room1 hr
    have hu5 := room65 hr
    exact mss_cons (mst_if (mt_w (mw_or (mt_not (mt_val (me_isi (T := .tuple) rfl T.n_isinstance (mo_nm 0 (pv 0)) rfl T.n_tuple (by decide +kernel)))) (mw_or1 (mt_not (mt_chain opr_lt opr_le (mo_ex (me_int)) (mo_ex (me_callB cr_len rfl T.n_len PySem.boot_len (ma_cons (mo_nm 0 (pv 0)) (ma_nil)))) (mo_ex (me_globI (i := 8) rfl T.c_MOST_SIGNS ⟨_, rfl⟩))))))) (mss_one (mst_ret (me_bl))) (mss_nil)) (mss_cons (mst_if (mt_not (mt_val (me_callB (cr_all' rfl) rfl T.n_all (by decide +kernel) (ma_cons (mo_ex (me_fr (mf_comp (own := [("one", 1)]) rfl sc_are_ranks.nd (mi_any (mo_nm 0 (pv 0))) (blkOk_by (N := n_are_ranks) (sc := defScope s_are_ranks) (by decide +kernel)) (by decide) (fun _ _ _ _ _ _ => mg_name (i := 1) (pg_name sc_are_ranks.nd rfl (by first | exact Or.inl rfl | exact Or.inr rfl))) (fun _ _ _ _ _ _ => mts_nil) (fun _ _ _ _ _ _ => me_and (me_isi (T := .tuple) rfl T.n_isinstance (mo_nm 1 (pv 1)) rfl T.n_tuple (by decide +kernel)) (me_and (me_cmp (opr_eq hu) (mo_ex (me_callB cr_len rfl T.n_len PySem.boot_len (ma_cons (mo_nm 1 (pv 1)) (ma_nil)))) (mo_ex (me_int)) (by rfl)) (me_and (me_call (ok_is_sign T) hx (hr.mono (by omega)) rfl T.g_is_sign T.kp_is_sign T.b_is_sign takes_no (ma_cons (mo_ex (me_ix (ixr_dict hu1) (mo_nm 1 (pv 1)) (mo_ex (me_int)) (fun _ _ => rfl))) (ma_nil))) (me_one (me_call (ok_is_integer T) hx (hr.mono (by omega)) rfl T.g_is_integer T.kp_is_integer T.b_is_integer takes_no (ma_cons (mo_ex (me_ix (ixr_dict hu1) (mo_nm 1 (pv 1)) (mo_ex (me_int)) (fun _ _ => rfl))) (ma_nil)))))))))) (ma_nil))))) (mss_one (mst_ret (me_bl))) (mss_nil)) (mss_cons (mst_if (mt_w (mw_or (mt_not (mt_val (me_callB (cr_all' rfl) rfl T.n_all (by decide +kernel) (ma_cons (mo_ex (me_fr (mf_comp (own := [("_", 2), ("rank", 3)]) rfl sc_are_ranks.nd (mi_any (mo_nm 0 (pv 0))) (blkOk_by (N := n_are_ranks) (sc := defScope s_are_ranks) (by decide +kernel)) (by decide) (fun _ _ _ _ _ _ => mg_tup rfl (mgs_cons (mg_name (i := 2) (pg_name sc_are_ranks.nd rfl (by first | exact Or.inl rfl | exact Or.inr rfl))) (mgs_cons (mg_name (i := 3) (pg_name sc_are_ranks.nd rfl (by first | exact Or.inl rfl | exact Or.inr rfl))) (mgs_nil)))) (fun _ _ _ _ _ _ => mts_nil) (fun _ _ _ _ _ _ => me_chain opr_le opr_le (mo_ex (me_int)) (mo_nm 3 (pv 3)) (mo_ex (me_globI (i := 3) rfl T.c_MOST_RANK ⟨_, rfl⟩)))))) (ma_nil))))) (mw_or1 (mt_cmp (opr_notIn hu5) (mo_ex (me_int)) (mo_ex (me_fr (mf_comp (own := [("_", 2), ("rank", 3)]) rfl sc_are_ranks.nd (mi_any (mo_nm 0 (pv 0))) (blkOk_by (N := n_are_ranks) (sc := defScope s_are_ranks) (by decide +kernel)) (by decide) (fun _ _ _ _ _ _ => mg_tup rfl (mgs_cons (mg_name (i := 2) (pg_name sc_are_ranks.nd rfl (by first | exact Or.inl rfl | exact Or.inr rfl))) (mgs_cons (mg_name (i := 3) (pg_name sc_are_ranks.nd rfl (by first | exact Or.inl rfl | exact Or.inr rfl))) (mgs_nil)))) (fun _ _ _ _ _ _ => mts_nil) (fun _ _ _ _ _ _ => me_nm 3 (pv 3))))) (by rfl))))) (mss_one (mst_ret (me_bl))) (mss_nil)) (mss_cons ((mst_setComp (i := 4) (y := "signs") (own := [("sign", 5), ("_", 2)]) rfl sc_are_ranks.nd rfl rfl (sw_true rfl rfl rfl (by decide +kernel)) (mi_any (mo_nm 0 (pv 0))) (blkOk_by (N := n_are_ranks) (sc := defScope s_are_ranks) (by decide +kernel)) (by decide) (fun _ _ _ _ _ _ => mg_tup rfl (mgs_cons (mg_name (i := 5) (pg_name sc_are_ranks.nd rfl (by first | exact Or.inl rfl | exact Or.inr rfl))) (mgs_cons (mg_name (i := 2) (pg_name sc_are_ranks.nd rfl (by first | exact Or.inl rfl | exact Or.inr rfl))) (mgs_nil)))) (fun _ _ _ _ _ _ => mts_nil) (fun _ _ _ _ _ _ => me_nm 5 (pv 5))).2) (mss_one (mst_ret (me_cmp (opr_eq hu) (mo_nm 4 (pv 4)) (mo_ex (me_fr (mf_callB (cr_sorted' rfl hu) rfl T.n_sorted (by decide +kernel) (ma_cons (mo_ex (me_fr (mf_dcomp (own := [("sign", 5)]) rfl sc_are_ranks.nd (mi_any (mo_nm 4 (pv 4))) (blkOk_by (N := n_are_ranks) (sc := defScope s_are_ranks) (by decide +kernel)) (by decide) (fun _ _ _ _ _ _ => mg_name (i := 5) (pg_name sc_are_ranks.nd rfl (by first | exact Or.inl rfl | exact Or.inr rfl))) (fun _ _ _ _ _ _ => mts_nil) (fun _ _ _ _ _ _ => me_nm 5 (pv 5)) (fun _ _ _ _ _ _ => me_bl)))) (ma_nil))))) (by rfl))))))))
theorem ok_look_at_ranks (T : Txt K mg) : FnOk P w K mg base (L2.CX P w) 3 T.a_look_at_ranks T.d_look_at_ranks p_look_at_ranks (spOf K ⟨mg, P, w, none⟩ f_look_at_ranks) :=
  fn_ok (k := 2) (N := n_look_at_ranks) (m := m_look_at_ranks) T.F_look_at_ranks sc_look_at_ranks (fun cdv A outer s H E G hx hr tk hp => by
    have hu := room64 hr
    have hu1 := room1 hr
    have hu5 := room65 hr
    exact mss_one (mst_if (mt_not (mt_val (me_call (ok_are_ranks T) hx (hr.mono (by omega)) rfl T.g_are_ranks T.kp_are_ranks T.b_are_ranks tk (ma_cons (mo_nm 0 (pv 0)) (ma_nil))))) (mss_one (mst_raise rfl tk PySem.F.excBase_ValueError T.x_BadRanks T.g_BadRanks T.kp_BadRanks (raises_own T.bx_BadRanks T.ty_BadRanks) rfl)) (mss_nil)))
theorem ok_is_tree (T : Txt K mg) : FnOk P w K mg base (L2.CX P w) 4 T.a_is_tree T.d_is_tree p_is_tree (spOf K ⟨mg, P, w, none⟩ f_is_tree) :=
  fn_ok (k := 3) (N := n_is_tree) (m := m_is_tree) T.F_is_tree sc_is_tree (fun cdv A outer s H E G hx hr tk hp => by
    have hu := room64 hr
    have hu1 := room1 hr
    have hu5 := room65 hr
    exact mss_cons (mst_expr (me_call (ok_look_at_ranks T) hx (hr.mono (by omega)) rfl T.g_look_at_ranks T.kp_look_at_ranks T.b_look_at_ranks tk (ma_cons (mo_nm 0 (pv 0)) (ma_nil)))) (mss_cons (mst_set 2 sc_is_tree.nd rfl (by first | exact Or.inl rfl | exact Or.inr rfl) (me_fr (mf_callTy (cr_dict rfl) rfl T.n_dict (by decide +kernel) (ma_cons (mo_nm 0 (pv 0)) (ma_nil))))) (mss_cons (mst_setNew 3 sc_is_tree.nd rfl (by first | exact Or.inl rfl | exact Or.inr rfl) (mf_lst (ma_cons (mo_ex (me_tup (ma_cons (mo_nm 1 (pv 1)) (ma_cons (mo_ex (me_int)) (ma_nil))))) (ma_nil)))) (mss_cons (mst_set 4 sc_is_tree.nd rfl (by first | exact Or.inl rfl | exact Or.inr rfl) (me_int)) (mss_cons (mst_while hp (mt_cmp opr_gt (mo_ex (me_callB cr_len rfl T.n_len PySem.boot_len (ma_cons (mo_nm 3 (pv 3)) (ma_nil)))) (mo_ex (me_int)) (by rfl)) (mss_cons (mst_asg (me_mut0 (.inl rfl) (pe_bm0 PySem.F.plainAttrs_list PySem.F.slot_list_pop PySem.F.type_list_pop mt_pop (pv 3)) pop_lift) (mg_tup rfl (mgs_cons (mg_name (i := 5) (pg_name sc_is_tree.nd rfl (by first | exact Or.inl rfl | exact Or.inr rfl))) (mgs_cons (mg_name (i := 6) (pg_name sc_is_tree.nd rfl (by first | exact Or.inl rfl | exact Or.inr rfl))) (mgs_nil))))) (mss_cons (mst_aug (i := 4) sc_is_tree.nd rfl (by first | exact Or.inl rfl | exact Or.inr rfl) (me_int) ipr_add) (mss_cons (mst_if (mt_w (mw_or (mt_cmp opr_gt (mo_nm 6 (pv 6)) (mo_ex (me_globI (i := 40) rfl T.c_MOST_DEEP ⟨_, rfl⟩)) (by rfl)) (mw_or (mt_cmp opr_gt (mo_nm 4 (pv 4)) (mo_ex (me_globI (i := 4000) rfl T.c_MOST_NODES ⟨_, rfl⟩)) (by rfl)) (mw_or (mt_not (mt_val (me_isi (T := .tuple) rfl T.n_isinstance (mo_nm 5 (pv 5)) rfl T.n_tuple (by decide +kernel)))) (mw_or1 (mt_cmp (opr_eq hu) (mo_ex (me_callB cr_len rfl T.n_len PySem.boot_len (ma_cons (mo_nm 5 (pv 5)) (ma_nil)))) (mo_ex (me_int)) (by rfl))))))) (mss_one (mst_ret (me_bl))) (mss_nil)) (mss_cons (mst_if (mt_w (mw_or (mt_not (mt_val (me_isi (T := .str) rfl T.n_isinstance (mo_ex (me_ix (ixr_dict hu1) (mo_nm 5 (pv 5)) (mo_ex (me_int)) (fun _ _ => rfl))) rfl T.n_str (by decide +kernel)))) (mw_or1 (mt_cmp (opr_ne hu) (mo_ex (me_meth (pe_sm PySem.F.plainAttrs_dict PySem.F.slot_dict_get PySem.F.type_dict_get (mtr_get hu1) (mo_nm 2 (pv 2)) (ma_cons (mo_ex (me_ix (ixr_dict hu1) (mo_nm 5 (pv 5)) (mo_ex (me_int)) (fun _ _ => rfl))) (ma_cons (mo_ex (me_un unr_neg (mo_ex (me_int)))) (ma_nil)))) get_lift)) (mo_ex (me_bin opr_sub (mo_ex (me_callB cr_len rfl T.n_len PySem.boot_len (ma_cons (mo_nm 5 (pv 5)) (ma_nil)))) (mo_ex (me_int)))) (by rfl))))) (mss_one (mst_ret (me_bl))) (mss_nil)) (mss_one (mst_expr (me_mut (.inl rfl) (pe_bm PySem.F.plainAttrs_list PySem.F.slot_list_extend PySem.F.type_list_extend mt_extS (pv 3) (ma_cons (mo_ex (me_fr (mf_comp (own := [("part", 7)]) rfl sc_is_tree.nd (mi_any (mo_ex (me_slice slr_seq (mo_nm 5 (pv 5)) (mp_some (me_int)) (mp_none)))) (blkOk_by (N := n_is_tree) (sc := defScope s_is_tree) (by decide +kernel)) (by decide) (fun _ _ _ _ _ _ => mg_name (i := 7) (pg_name sc_is_tree.nd rfl (by first | exact Or.inl rfl | exact Or.inr rfl))) (fun _ _ _ _ _ _ => mts_nil) (fun _ _ _ _ _ _ => me_tup (ma_cons (mo_nm 7 (pv 7)) (ma_cons (mo_ex (me_bin opr_add (mo_nm 6 (pv 6)) (mo_ex (me_int)))) (ma_nil))))))) (ma_nil))) ext_lift)))))))) (mss_one (mst_ret (me_bl))))))))
theorem ok_look_at_tree (T : Txt K mg) : FnOk P w K mg base (L2.CX P w) 5 T.a_look_at_tree T.d_look_at_tree p_look_at_tree (spOf K ⟨mg, P, w, none⟩ f_look_at_tree) :=
  fn_ok (k := 4) (N := n_look_at_tree) (m := m_look_at_tree) T.F_look_at_tree sc_look_at_tree (fun cdv A outer s H E G hx hr tk hp => by
    have hu := room64 hr
    have hu1 := room1 hr
    have hu5 := room65 hr
    exact mss_one (mst_if (mt_not (mt_val (me_call (ok_is_tree T) hx (hr.mono (by omega)) rfl T.g_is_tree T.kp_is_tree T.b_is_tree tk (ma_cons (mo_nm 0 (pv 0)) (ma_cons (mo_nm 1 (pv 1)) (ma_nil)))))) (mss_one (mst_raise rfl tk PySem.F.excBase_ValueError T.x_BadTree T.g_BadTree T.kp_BadTree (raises_own T.bx_BadTree T.ty_BadTree) rfl)) (mss_nil)))
theorem ok__law_draws (T : Txt K mg) : FnOk P w K mg base (L2.CX P w) 1 T.a__law_draws T.d__law_draws p__law_draws (spOf K ⟨mg, P, w, none⟩ f__law_draws) :=
  fn_ok (k := 0) (N := n__law_draws) (m := m__law_draws) T.F__law_draws sc__law_draws (fun cdv A outer s H E G hx hr tk hp => by
    have hu := room64 hr
    have hu1 := room1 hr
    have hu5 := room65 hr
    exact mss_one (mst_retF (mf_lst (ma_cons (mo_ex (me_callTy cr_list rfl T.n_list (by decide +kernel) (ma_cons (mo_nm 0 (pv 0)) (ma_nil)))) (ma_cons (mo_ex (me_int)) (ma_cons (mo_ex (me_int)) (ma_cons (mo_ex (me_int)) (ma_nil))))))))
theorem ok__law_draw (T : Txt K mg) : FnOk P w K mg base (L2.CX P w) 1 T.a__law_draw T.d__law_draw p__law_draw (spOf K ⟨mg, P, w, none⟩ f__law_draw) :=
  fn_ok (k := 0) (N := n__law_draw) (m := m__law_draw) T.F__law_draw sc__law_draw (fun cdv A outer s H E G hx hr tk hp => by
    have hu := room64 hr
    have hu1 := room1 hr
    have hu5 := room65 hr
    exact mss_cons (mst_if (mt_w (mw_and (mt_cmp (opr_eq hu) (mo_ex (me_ix (ixr_dict hu1) (mo_nm 0 (pv 0)) (mo_ex (me_int)) (fun _ _ => rfl))) (mo_ex (me_int)) (by rfl)) (mw_and1 (mt_cmp opr_lt (mo_ex (me_ix (ixr_dict hu1) (mo_nm 0 (pv 0)) (mo_ex (me_int)) (fun _ _ => rfl))) (mo_ex (me_callB cr_len rfl T.n_len PySem.boot_len (ma_cons (mo_ex (me_ix (ixr_dict hu1) (mo_nm 0 (pv 0)) (mo_ex (me_int)) (fun _ _ => rfl))) (ma_nil)))) (by rfl))))) (mss_cons (mst_set 2 sc__law_draw.nd rfl (by first | exact Or.inl rfl | exact Or.inr rfl) (me_ix (ixr_dict hu1) (mo_ex (me_ix (ixr_dict hu1) (mo_nm 0 (pv 0)) (mo_ex (me_int)) (fun _ _ => rfl))) (mo_ex (me_ix (ixr_dict hu1) (mo_nm 0 (pv 0)) (mo_ex (me_int)) (fun _ _ => rfl))) (fun _ _ => rfl))) (mss_cons (mst_setItem (set_any hu1) (pv 0) (me_int) (me_bin opr_add (mo_ex (me_ix (ixr_dict hu1) (mo_nm 0 (pv 0)) (mo_ex (me_int)) (fun _ _ => rfl))) (mo_ex (me_int))) setX_lift) (mss_cons (mst_if (mt_cmp opr_ge (mo_nm 2 (pv 2)) (mo_ex (me_bin opr_pow (mo_ex (me_int)) (mo_ex (me_int)))) (by rfl)) (mss_one (mst_setItem (set_any hu1) (pv 0) (me_int) (me_nm 2 (pv 2)) setX_lift)) (mss_nil)) (mss_one (mst_setItem (set_any hu1) (pv 0) (me_int) (me_bin opr_mod (mo_ex (me_callTy cr_int rfl T.n_int (by decide +kernel) (ma_cons (mo_ex (me_bin opr_add (mo_ex (me_bin opr_add (mo_ex (me_bin opr_mul (mo_ex (me_ix (ixr_dict hu1) (mo_nm 0 (pv 0)) (mo_ex (me_int)) (fun _ _ => rfl))) (mo_ex (me_int)))) (mo_nm 2 (pv 2)))) (mo_ex (me_int)))) (ma_nil)))) (mo_ex (me_int))) setX_lift))))) (mss_nil)) (mss_cons (mst_if (mt_cmp opr_gt (mo_ex (me_ix (ixr_dict hu1) (mo_nm 0 (pv 0)) (mo_ex (me_int)) (fun _ _ => rfl))) (mo_ex (me_int)) (by rfl)) (mss_cons (mst_set 3 sc__law_draw.nd rfl (by first | exact Or.inl rfl | exact Or.inr rfl) (me_bin opr_mod (mo_ex (me_callTy cr_int rfl T.n_int (by decide +kernel) (ma_cons (mo_ex (me_ix (ixr_dict hu1) (mo_nm 0 (pv 0)) (mo_ex (me_int)) (fun _ _ => rfl))) (ma_nil)))) (mo_nm 1 (pv 1)))) (mss_cons (mst_setItem (set_any hu1) (pv 0) (me_int) (me_bin opr_div (mo_ex (me_ix (ixr_dict hu1) (mo_nm 0 (pv 0)) (mo_ex (me_int)) (fun _ _ => rfl))) (mo_nm 1 (pv 1))) setX_lift) (mss_one (mst_ret (me_nm 3 (pv 3)))))) (mss_nil)) (mss_cons (mst_setItem (set_any hu1) (pv 0) (me_int) (me_bin opr_mod (mo_ex (me_callTy cr_int rfl T.n_int (by decide +kernel) (ma_cons (mo_ex (me_bin opr_add (mo_ex (me_bin opr_mul (mo_ex (me_ix (ixr_dict hu1) (mo_nm 0 (pv 0)) (mo_ex (me_int)) (fun _ _ => rfl))) (mo_ex (me_int)))) (mo_ex (me_int)))) (ma_nil)))) (mo_ex (me_int))) setX_lift) (mss_one (mst_ret (me_bin opr_mod (mo_ex (me_callTy cr_int rfl T.n_int (by decide +kernel) (ma_cons (mo_ex (me_bin opr_div (mo_ex (me_ix (ixr_dict hu1) (mo_nm 0 (pv 0)) (mo_ex (me_int)) (fun _ _ => rfl))) (mo_ex (me_int)))) (ma_nil)))) (mo_nm 1 (pv 1))))))))
theorem okr__law_same (T : Txt K mg) : ∀ n : Nat, FnOk P w K mg base (L2.CX P w) (n + 1) T.a__law_same T.d__law_same p__law_same (spOf K ⟨mg, P, w, none⟩ (r__law_same n))
  | 0 => fn_ok (k := 0) (N := n__law_same) (m := fun _ => .bad) T.F__law_same sc__law_same (fun cdv A outer s H E G hx hr tk hp => mss_never) |>.imp fun vs H Q E h => by
    obtain ⟨z, p, ss, h1, h2, h3⟩ := h; exact False.elim h3
  | n + 1 => (fn_ok (k := n + 1) (N := n__law_same) (m := m__law_same (fun _ => r__law_same n) n) T.F__law_same sc__law_same (fun cdv A outer s H E G hx hr tk hp => by
    have hu := room64 hr
    have hu1 := room1 hr
    have hu5 := room65 hr
    have ih := okr__law_same T n
    have hr0 := hr
    exact mss_cons (mst_if (mt_w (mw_or (mt_val (me_isi (T := .tuple) rfl T.n_isinstance (mo_nm 1 (pv 1)) rfl T.n_tuple (by decide +kernel))) (mw_or1 (mt_val (me_isi (T := .list) rfl T.n_isinstance (mo_nm 1 (pv 1)) rfl T.n_list (by decide +kernel)))))) (mss_cons (mst_if (mt_w (mw_or (mt_cmp (opr_ne hu) (mo_ex (me_isi (T := .tuple) rfl T.n_isinstance (mo_nm 1 (pv 1)) rfl T.n_tuple (by decide +kernel))) (mo_ex (me_isi (T := .tuple) rfl T.n_isinstance (mo_nm 0 (pv 0)) rfl T.n_tuple (by decide +kernel))) (by rfl)) (mw_or1 (mt_cmp (opr_ne hu) (mo_ex (me_isi (T := .list) rfl T.n_isinstance (mo_nm 1 (pv 1)) rfl T.n_list (by decide +kernel))) (mo_ex (me_isi (T := .list) rfl T.n_isinstance (mo_nm 0 (pv 0)) rfl T.n_list (by decide +kernel))) (by rfl))))) (mss_one (mst_ret (me_bl))) (mss_nil)) (mss_cons (mst_if (mt_cmp (opr_ne hu) (mo_ex (me_callB cr_len rfl T.n_len PySem.boot_len (ma_cons (mo_nm 0 (pv 0)) (ma_nil)))) (mo_ex (me_callB cr_len rfl T.n_len PySem.boot_len (ma_cons (mo_nm 1 (pv 1)) (ma_nil)))) (by rfl)) (mss_one (mst_ret (me_bl))) (mss_nil)) (mss_one (mst_ret (me_cmp (opr_eq hu) (mo_ex (me_callB cr_len rfl T.n_len PySem.boot_len (ma_cons (mo_ex (me_fr (mf_comp (own := [("k", 2)]) rfl sc__law_same.nd (mi_rng1 rfl T.n_range (ma_cons (mo_ex (me_callB cr_len rfl T.n_len PySem.boot_len (ma_cons (mo_nm 1 (pv 1)) (ma_nil)))) (ma_nil))) (blkOk_by (N := n__law_same) (sc := defScope s__law_same) (by decide +kernel)) (by decide) (fun _ _ _ _ _ _ => mg_name (i := 2) (pg_name sc__law_same.nd rfl (by first | exact Or.inl rfl | exact Or.inr rfl))) (fun _ _ _ _ _ _ => mts_one (mt_not (mt_val (me_call ih hx hr0 rfl T.g__law_same T.kp__law_same T.b__law_same takes_no (ma_cons (mo_ex (me_ix (ixr_dict hu1) (mo_nm 0 (pv 0)) (mo_nm 2 (pv 2)) (fun _ _ => rfl))) (ma_cons (mo_ex (me_ix (ixr_dict hu1) (mo_nm 1 (pv 1)) (mo_nm 2 (pv 2)) (fun _ _ => rfl))) (ma_nil))))))) (fun _ _ _ _ _ _ => me_nm 2 (pv 2))))) (ma_nil)))) (mo_ex (me_int)) (by rfl)))))) (mss_nil)) (mss_cons (mst_if (mt_val (me_isi (T := .str) rfl T.n_isinstance (mo_nm 1 (pv 1)) rfl T.n_str (by decide +kernel))) (mss_one (mst_ret (me_and (me_isi (T := .str) rfl T.n_isinstance (mo_nm 0 (pv 0)) rfl T.n_str (by decide +kernel)) (me_one (me_cmp (opr_eq hu) (mo_nm 0 (pv 0)) (mo_nm 1 (pv 1)) (by rfl)))))) (mss_nil)) (mss_cons (mst_if (mt_cmp opr_is (mo_nm 1 (pv 1)) (mo_ex (me_non)) (by rfl)) (mss_one (mst_ret (me_cmp opr_is (mo_nm 0 (pv 0)) (mo_ex (me_non)) (by rfl)))) (mss_nil)) (mss_cons (mst_if (mt_w (mw_or (mt_val (me_isi (T := .bool) rfl T.n_isinstance (mo_nm 1 (pv 1)) rfl T.n_bool (by decide +kernel))) (mw_or1 (mt_val (me_isi (T := .bool) rfl T.n_isinstance (mo_nm 0 (pv 0)) rfl T.n_bool (by decide +kernel)))))) (mss_one (mst_ret (me_and (me_isi (T := .bool) rfl T.n_isinstance (mo_nm 1 (pv 1)) rfl T.n_bool (by decide +kernel)) (me_and (me_isi (T := .bool) rfl T.n_isinstance (mo_nm 0 (pv 0)) rfl T.n_bool (by decide +kernel)) (me_one (me_cmp (opr_eq hu) (mo_nm 0 (pv 0)) (mo_nm 1 (pv 1)) (by rfl))))))) (mss_nil)) (mss_one (mst_ret (me_and (me_isi (T := .int) rfl T.n_isinstance (mo_nm 0 (pv 0)) rfl T.n_int (by decide +kernel)) (me_and (me_isi (T := .int) rfl T.n_isinstance (mo_nm 1 (pv 1)) rfl T.n_int (by decide +kernel)) (me_one (me_cmp (opr_eq hu) (mo_nm 0 (pv 0)) (mo_nm 1 (pv 1)) (by rfl))))))))))) : FnOk P w K mg base (L2.CX P w) (n + 1 + 1) T.a__law_same T.d__law_same p__law_same _).mono (by omega)
theorem ok__law_same (T : Txt K mg) : FnOk P w K mg base (L2.CX P w) 6 T.a__law_same T.d__law_same p__law_same (spOf K ⟨mg, P, w, none⟩ f__law_same) := okr__law_same T 5
theorem ok__law_ranks (T : Txt K mg) : FnOk P w K mg base (L2.CX P w) 2 T.a__law_ranks T.d__law_ranks p__law_ranks (spOf K ⟨mg, P, w, none⟩ f__law_ranks) :=
  fn_ok (k := 1) (N := n__law_ranks) (m := m__law_ranks) T.F__law_ranks sc__law_ranks (fun cdv A outer s H E G hx hr tk hp => by
    have hu := room64 hr
    have hu1 := room1 hr
    have hu5 := room65 hr
    exact mss_cons (mst_set 1 sc__law_ranks.nd rfl (by first | exact Or.inl rfl | exact Or.inr rfl) (me_lst (ma_cons (mo_ex (me_tup (ma_cons (mo_ex (me_tup (ma_cons (mo_ex (me_str)) (ma_cons (mo_ex (me_int)) (ma_nil))))) (ma_cons (mo_ex (me_tup (ma_cons (mo_ex (me_str)) (ma_cons (mo_ex (me_int)) (ma_nil))))) (ma_nil))))) (ma_cons (mo_ex (me_tup (ma_cons (mo_ex (me_tup (ma_cons (mo_ex (me_str)) (ma_cons (mo_ex (me_int)) (ma_nil))))) (ma_cons (mo_ex (me_tup (ma_cons (mo_ex (me_str)) (ma_cons (mo_ex (me_int)) (ma_nil))))) (ma_cons (mo_ex (me_tup (ma_cons (mo_ex (me_str)) (ma_cons (mo_ex (me_int)) (ma_nil))))) (ma_nil)))))) (ma_cons (mo_ex (me_tup (ma_cons (mo_ex (me_tup (ma_cons (mo_ex (me_str)) (ma_cons (mo_ex (me_int)) (ma_nil))))) (ma_cons (mo_ex (me_tup (ma_cons (mo_ex (me_str)) (ma_cons (mo_ex (me_int)) (ma_nil))))) (ma_cons (mo_ex (me_tup (ma_cons (mo_ex (me_str)) (ma_cons (mo_ex (me_int)) (ma_nil))))) (ma_cons (mo_ex (me_tup (ma_cons (mo_ex (me_str)) (ma_cons (mo_ex (me_int)) (ma_nil))))) (ma_nil))))))) (ma_nil)))))) (mss_cons (mst_set 1 sc__law_ranks.nd rfl (by first | exact Or.inl rfl | exact Or.inr rfl) (me_bin opr_add (mo_nm 1 (pv 1)) (mo_ex (me_lst (ma_cons (mo_ex (me_tup (ma_cons (mo_ex (me_tup (ma_cons (mo_ex (me_str)) (ma_cons (mo_ex (me_int)) (ma_nil))))) (ma_cons (mo_ex (me_tup (ma_cons (mo_ex (me_str)) (ma_cons (mo_ex (me_int)) (ma_nil))))) (ma_nil))))) (ma_cons (mo_ex (me_tup (ma_cons (mo_ex (me_tup (ma_cons (mo_ex (me_str)) (ma_cons (mo_ex (me_int)) (ma_nil))))) (ma_cons (mo_ex (me_tup (ma_cons (mo_ex (me_str)) (ma_cons (mo_ex (me_int)) (ma_nil))))) (ma_cons (mo_ex (me_tup (ma_cons (mo_ex (me_str)) (ma_cons (mo_ex (me_int)) (ma_nil))))) (ma_cons (mo_ex (me_tup (ma_cons (mo_ex (me_str)) (ma_cons (mo_ex (me_int)) (ma_nil))))) (ma_nil))))))) (ma_cons (mo_ex (me_tup (ma_cons (mo_ex (me_tup (ma_cons (mo_ex (me_str)) (ma_cons (mo_ex (me_int)) (ma_nil))))) (ma_cons (mo_ex (me_tup (ma_cons (mo_ex (me_str)) (ma_cons (mo_ex (me_int)) (ma_nil))))) (ma_cons (mo_ex (me_tup (ma_cons (mo_ex (me_str)) (ma_cons (mo_ex (me_int)) (ma_nil))))) (ma_nil)))))) (ma_nil)))))))) (mss_one (mst_ret (me_ix (ixr_dict hu1) (mo_nm 1 (pv 1)) (mo_ex (me_call (ok__law_draw T) hx (hr.mono (by omega)) rfl T.g__law_draw T.kp__law_draw T.b__law_draw tk (ma_cons (mo_nm 0 (pv 0)) (ma_cons (mo_ex (me_int)) (ma_nil))))) (fun _ _ => rfl))))))
theorem ok__law_tree (T : Txt K mg) : FnOk P w K mg base (L2.CX P w) 2 T.a__law_tree T.d__law_tree p__law_tree (spOf K ⟨mg, P, w, none⟩ f__law_tree) :=
  fn_ok (k := 1) (N := n__law_tree) (m := m__law_tree) T.F__law_tree sc__law_tree (fun cdv A outer s H E G hx hr tk hp => by
    have hu := room64 hr
    have hu1 := room1 hr
    have hu5 := room65 hr
    exact mss_cons (mst_setNew 3 sc__law_tree.nd rfl (by first | exact Or.inl rfl | exact Or.inr rfl) (mf_lst (ma_nil))) (mss_cons ((mst_setComp (i := 4) (y := "tips") (own := [("sign", 5), ("rank", 6)]) rfl sc__law_tree.nd rfl rfl (sw_true rfl rfl rfl (by decide +kernel)) (mi_any (mo_nm 1 (pv 1))) (blkOk_by (N := n__law_tree) (sc := defScope s__law_tree) (by decide +kernel)) (by decide) (fun _ _ _ _ _ _ => mg_tup rfl (mgs_cons (mg_name (i := 5) (pg_name sc__law_tree.nd rfl (by first | exact Or.inl rfl | exact Or.inr rfl))) (mgs_cons (mg_name (i := 6) (pg_name sc__law_tree.nd rfl (by first | exact Or.inl rfl | exact Or.inr rfl))) (mgs_nil)))) (fun _ _ _ _ _ _ => mts_one (mt_cmp (opr_eq hu) (mo_nm 6 (pv 6)) (mo_ex (me_int)) (by rfl))) (fun _ _ _ _ _ _ => me_nm 5 (pv 5))).2) (mss_cons ((mst_setComp (i := 7) (y := "stems") (own := [("sign", 5), ("rank", 6)]) rfl sc__law_tree.nd rfl rfl (sw_true rfl rfl rfl (by decide +kernel)) (mi_any (mo_nm 1 (pv 1))) (blkOk_by (N := n__law_tree) (sc := defScope s__law_tree) (by decide +kernel)) (by decide) (fun _ _ _ _ _ _ => mg_tup rfl (mgs_cons (mg_name (i := 5) (pg_name sc__law_tree.nd rfl (by first | exact Or.inl rfl | exact Or.inr rfl))) (mgs_cons (mg_name (i := 6) (pg_name sc__law_tree.nd rfl (by first | exact Or.inl rfl | exact Or.inr rfl))) (mgs_nil)))) (fun _ _ _ _ _ _ => mts_one (mt_cmp opr_gt (mo_nm 6 (pv 6)) (mo_ex (me_int)) (by rfl))) (fun _ _ _ _ _ _ => me_tup (ma_cons (mo_nm 5 (pv 5)) (ma_cons (mo_nm 6 (pv 6)) (ma_nil))))).2) (mss_cons (mst_for hp rfl (mi_rng1 rfl T.n_range (ma_cons (mo_ex (me_bin opr_add (mo_ex (me_int)) (mo_ex (me_call (ok__law_draw T) hx (hr.mono (by omega)) rfl T.g__law_draw T.kp__law_draw T.b__law_draw tk (ma_cons (mo_nm 0 (pv 0)) (ma_cons (mo_nm 2 (pv 2)) (ma_nil))))))) (ma_nil))) (fun _ _ => mg_name (i := 8) (pg_name sc__law_tree.nd rfl (by first | exact Or.inl rfl | exact Or.inr rfl))) (fun _ _ => mss_one (mst_if (mt_w (mw_or (mt_cmp (opr_eq hu) (mo_ex (me_callB cr_len rfl T.n_len PySem.boot_len (ma_cons (mo_nm 3 (pv 3)) (ma_nil)))) (mo_ex (me_int)) (by rfl)) (mw_or1 (mt_cmp (opr_eq hu) (mo_ex (me_call (ok__law_draw T) hx (hr.mono (by omega)) rfl T.g__law_draw T.kp__law_draw T.b__law_draw tk (ma_cons (mo_nm 0 (pv 0)) (ma_cons (mo_ex (me_int)) (ma_nil))))) (mo_ex (me_int)) (by rfl))))) (mss_one (mst_expr (me_mut (.inl rfl) (pe_bm PySem.F.plainAttrs_list PySem.F.slot_list_append PySem.F.type_list_append mt_append (pv 3) (ma_cons (mo_ex (me_tup (ma_cons (mo_ex (me_ix (ixr_dict hu1) (mo_nm 4 (pv 4)) (mo_ex (me_call (ok__law_draw T) hx (hr.mono (by omega)) rfl T.g__law_draw T.kp__law_draw T.b__law_draw tk (ma_cons (mo_nm 0 (pv 0)) (ma_cons (mo_ex (me_callB cr_len rfl T.n_len PySem.boot_len (ma_cons (mo_nm 4 (pv 4)) (ma_nil)))) (ma_nil))))) (fun _ _ => rfl))) (ma_nil)))) (ma_nil))) append_lift))) (mss_cons (mst_asg (me_ix (ixr_dict hu1) (mo_nm 7 (pv 7)) (mo_ex (me_call (ok__law_draw T) hx (hr.mono (by omega)) rfl T.g__law_draw T.kp__law_draw T.b__law_draw tk (ma_cons (mo_nm 0 (pv 0)) (ma_cons (mo_ex (me_callB cr_len rfl T.n_len PySem.boot_len (ma_cons (mo_nm 7 (pv 7)) (ma_nil)))) (ma_nil))))) (fun _ _ => rfl)) (mg_tup rfl (mgs_cons (mg_name (i := 5) (pg_name sc__law_tree.nd rfl (by first | exact Or.inl rfl | exact Or.inr rfl))) (mgs_cons (mg_name (i := 6) (pg_name sc__law_tree.nd rfl (by first | exact Or.inl rfl | exact Or.inr rfl))) (mgs_nil))))) (mss_cons (mst_set 9 sc__law_tree.nd rfl (by first | exact Or.inl rfl | exact Or.inr rfl) (me_tup (ma_cons (mo_nm 5 (pv 5)) (ma_nil)))) (mss_cons (mst_for hp rfl (mi_rng1 rfl T.n_range (ma_cons (mo_nm 6 (pv 6)) (ma_nil))) (fun _ _ => mg_name (i := 10) (pg_name sc__law_tree.nd rfl (by first | exact Or.inl rfl | exact Or.inr rfl))) (fun _ _ => mss_one (mst_set 9 sc__law_tree.nd rfl (by first | exact Or.inl rfl | exact Or.inr rfl) (me_bin opr_add (mo_nm 9 (pv 9)) (mo_ex (me_tup (ma_cons (mo_ex (me_if (mt_cmp opr_gt (mo_ex (me_callB cr_len rfl T.n_len PySem.boot_len (ma_cons (mo_nm 3 (pv 3)) (ma_nil)))) (mo_ex (me_int)) (by rfl)) (me_mut (.inl rfl) (pe_bm PySem.F.plainAttrs_list PySem.F.slot_list_pop PySem.F.type_list_pop mt_popAt (pv 3) (ma_cons (mo_ex (me_call (ok__law_draw T) hx (hr.mono (by omega)) rfl T.g__law_draw T.kp__law_draw T.b__law_draw tk (ma_cons (mo_nm 0 (pv 0)) (ma_cons (mo_ex (me_callB cr_len rfl T.n_len PySem.boot_len (ma_cons (mo_nm 3 (pv 3)) (ma_nil)))) (ma_nil))))) (ma_nil))) popAt_lift) (me_tup (ma_cons (mo_ex (me_ix (ixr_dict hu1) (mo_nm 4 (pv 4)) (mo_ex (me_call (ok__law_draw T) hx (hr.mono (by omega)) rfl T.g__law_draw T.kp__law_draw T.b__law_draw tk (ma_cons (mo_nm 0 (pv 0)) (ma_cons (mo_ex (me_callB cr_len rfl T.n_len PySem.boot_len (ma_cons (mo_nm 4 (pv 4)) (ma_nil)))) (ma_nil))))) (fun _ _ => rfl))) (ma_nil))))) (ma_nil)))))))) (mss_one (mst_expr (me_mut (.inl rfl) (pe_bm PySem.F.plainAttrs_list PySem.F.slot_list_append PySem.F.type_list_append mt_append (pv 3) (ma_cons (mo_nm 9 (pv 9)) (ma_nil))) append_lift))))))))) (mss_one (mst_ret (me_ix (ixr_dict hu1) (mo_nm 3 (pv 3)) (mo_ex (me_call (ok__law_draw T) hx (hr.mono (by omega)) rfl T.g__law_draw T.kp__law_draw T.b__law_draw tk (ma_cons (mo_nm 0 (pv 0)) (ma_cons (mo_ex (me_callB cr_len rfl T.n_len PySem.boot_len (ma_cons (mo_nm 3 (pv 3)) (ma_nil)))) (ma_nil))))) (fun _ _ => rfl))))))))
theorem ok__law_nodes (T : Txt K mg) : FnOk P w K mg base (L2.CX P w) 1 T.a__law_nodes T.d__law_nodes p__law_nodes (spOf K ⟨mg, P, w, none⟩ f__law_nodes) :=
  fn_ok (k := 0) (N := n__law_nodes) (m := m__law_nodes) T.F__law_nodes sc__law_nodes (fun cdv A outer s H E G hx hr tk hp => by
    have hu := room64 hr
    have hu1 := room1 hr
    have hu5 := room65 hr
    exact mss_cons (mst_setNew 1 sc__law_nodes.nd rfl (by first | exact Or.inl rfl | exact Or.inr rfl) (mf_lst (ma_nil))) (mss_cons (mst_setNew 2 sc__law_nodes.nd rfl (by first | exact Or.inl rfl | exact Or.inr rfl) (mf_lst (ma_cons (mo_nm 0 (pv 0)) (ma_nil)))) (mss_cons (mst_for hp rfl (mi_rng1 rfl T.n_range (ma_cons (mo_ex (me_int)) (ma_nil))) (fun _ _ => mg_name (i := 3) (pg_name sc__law_nodes.nd rfl (by first | exact Or.inl rfl | exact Or.inr rfl))) (fun _ _ => mss_one (mst_if (mt_cmp opr_gt (mo_ex (me_callB cr_len rfl T.n_len PySem.boot_len (ma_cons (mo_nm 2 (pv 2)) (ma_nil)))) (mo_ex (me_int)) (by rfl)) (mss_cons (mst_set 4 sc__law_nodes.nd rfl (by first | exact Or.inl rfl | exact Or.inr rfl) (me_mut0 (.inl rfl) (pe_bm0 PySem.F.plainAttrs_list PySem.F.slot_list_pop PySem.F.type_list_pop mt_pop (pv 2)) pop_lift)) (mss_cons (mst_expr (me_mut (.inl rfl) (pe_bm PySem.F.plainAttrs_list PySem.F.slot_list_append PySem.F.type_list_append mt_append (pv 1) (ma_cons (mo_nm 4 (pv 4)) (ma_nil))) append_lift)) (mss_one (mst_setNew 2 sc__law_nodes.nd rfl (by first | exact Or.inl rfl | exact Or.inr rfl) (mf_bin opn_add (mo_nm 2 (pv 2)) (mo_ex (me_fr (mf_comp (own := [("part", 5)]) rfl sc__law_nodes.nd (mi_any (mo_ex (me_slice slr_seq (mo_nm 4 (pv 4)) (mp_some (me_int)) (mp_none)))) (blkOk_by (N := n__law_nodes) (sc := defScope s__law_nodes) (by decide +kernel)) (by decide) (fun _ _ _ _ _ _ => mg_name (i := 5) (pg_name sc__law_nodes.nd rfl (by first | exact Or.inl rfl | exact Or.inr rfl))) (fun _ _ _ _ _ _ => mts_nil) (fun _ _ _ _ _ _ => me_nm 5 (pv 5)))))))))) (mss_nil)))) (mss_one (mst_ret (me_rev (mo_nm 1 (pv 1)) (mp_none) (mp_none)))))))
theorem ok__law_is_sign (T : Txt K mg) : FnOk P w K mg base (L2.CX P w) 1 T.a__law_is_sign T.d__law_is_sign p__law_is_sign (spOf K ⟨mg, P, w, none⟩ f__law_is_sign) :=
  fn_ok (k := 0) (N := n__law_is_sign) (m := m__law_is_sign) T.F__law_is_sign sc__law_is_sign (fun cdv A outer s H E G hx hr tk hp => by
    have hu := room64 hr
    have hu1 := room1 hr
    have hu5 := room65 hr
    exact mss_one (mst_ret (me_and (me_isi (T := .str) rfl T.n_isinstance (mo_nm 0 (pv 0)) rfl T.n_str (by decide +kernel)) (me_and (me_chain opr_lt opr_lt (mo_ex (me_int)) (mo_ex (me_callB cr_len rfl T.n_len PySem.boot_len (ma_cons (mo_nm 0 (pv 0)) (ma_nil)))) (mo_ex (me_int))) (me_one (me_callB (cr_all' rfl) rfl T.n_all (by decide +kernel) (ma_cons (mo_ex (me_fr (mf_comp (own := [("letter", 1)]) rfl sc__law_is_sign.nd (mi_any (mo_nm 0 (pv 0))) (blkOk_by (N := n__law_is_sign) (sc := defScope s__law_is_sign) (by decide +kernel)) (by decide) (fun _ _ _ _ _ _ => mg_name (i := 1) (pg_name sc__law_is_sign.nd rfl (by first | exact Or.inl rfl | exact Or.inr rfl))) (fun _ _ _ _ _ _ => mts_nil) (fun _ _ _ _ _ _ => me_cmp (opr_in hu5) (mo_nm 1 (pv 1)) (mo_ex (me_str)) (by rfl))))) (ma_nil))))))))
theorem ok__law_number (T : Txt K mg) : FnOk P w K mg base (L2.CX P w) 1 T.a__law_number T.d__law_number p__law_number (spOf K ⟨mg, P, w, none⟩ f__law_number) :=
  fn_ok (k := 0) (N := n__law_number) (m := m__law_number) T.F__law_number sc__law_number (fun cdv A outer s H E G hx hr tk hp => by
    have hu := room64 hr
    have hu1 := room1 hr
    have hu5 := room65 hr
    exact mss_one (mst_ret (me_and (me_isi (T := .int) rfl T.n_isinstance (mo_nm 0 (pv 0)) rfl T.n_int (by decide +kernel)) (me_one (me_not (me_isi (T := .bool) rfl T.n_isinstance (mo_nm 0 (pv 0)) rfl T.n_bool (by decide +kernel)))))))
theorem ok__law_are_ranks (T : Txt K mg) : FnOk P w K mg base (L2.CX P w) 2 T.a__law_are_ranks T.d__law_are_ranks p__law_are_ranks (spOf K ⟨mg, P, w, none⟩ f__law_are_ranks) :=
  fn_ok (k := 1) (N := n__law_are_ranks) (m := m__law_are_ranks) T.F__law_are_ranks sc__law_are_ranks (fun cdv A outer s H E G hx hr tk hp => by
    have hu := room64 hr
    have hu1 := room1 hr
    have hu5 := room65 hr
    exact mss_cons (mst_if (mt_w (mw_or (mt_not (mt_val (me_isi (T := .tuple) rfl T.n_isinstance (mo_nm 0 (pv 0)) rfl T.n_tuple (by decide +kernel)))) (mw_or (mt_not (mt_chain opr_lt opr_lt (mo_ex (me_int)) (mo_ex (me_callB cr_len rfl T.n_len PySem.boot_len (ma_cons (mo_nm 0 (pv 0)) (ma_nil)))) (mo_ex (me_int)))) (mw_or1 (mt_not (mt_val (me_callB (cr_all' rfl) rfl T.n_all (by decide +kernel) (ma_cons (mo_ex (me_fr (mf_comp (own := [("one", 1)]) rfl sc__law_are_ranks.nd (mi_any (mo_nm 0 (pv 0))) (blkOk_by (N := n__law_are_ranks) (sc := defScope s__law_are_ranks) (by decide +kernel)) (by decide) (fun _ _ _ _ _ _ => mg_name (i := 1) (pg_name sc__law_are_ranks.nd rfl (by first | exact Or.inl rfl | exact Or.inr rfl))) (fun _ _ _ _ _ _ => mts_nil) (fun _ _ _ _ _ _ => me_and (me_isi (T := .tuple) rfl T.n_isinstance (mo_nm 1 (pv 1)) rfl T.n_tuple (by decide +kernel)) (me_one (me_cmp (opr_eq hu) (mo_ex (me_callB cr_len rfl T.n_len PySem.boot_len (ma_cons (mo_nm 1 (pv 1)) (ma_nil)))) (mo_ex (me_int)) (by rfl))))))) (ma_nil))))))))) (mss_one (mst_ret (me_bl))) (mss_nil)) (mss_cons (mst_if (mt_not (mt_val (me_callB (cr_all' rfl) rfl T.n_all (by decide +kernel) (ma_cons (mo_ex (me_fr (mf_comp (own := [("one", 1), ("two", 2)]) rfl sc__law_are_ranks.nd (mi_any (mo_nm 0 (pv 0))) (blkOk_by (N := n__law_are_ranks) (sc := defScope s__law_are_ranks) (by decide +kernel)) (by decide) (fun _ _ _ _ _ _ => mg_tup rfl (mgs_cons (mg_name (i := 1) (pg_name sc__law_are_ranks.nd rfl (by first | exact Or.inl rfl | exact Or.inr rfl))) (mgs_cons (mg_name (i := 2) (pg_name sc__law_are_ranks.nd rfl (by first | exact Or.inl rfl | exact Or.inr rfl))) (mgs_nil)))) (fun _ _ _ _ _ _ => mts_nil) (fun _ _ _ _ _ _ => me_and (me_call (ok__law_is_sign T) hx (hr.mono (by omega)) rfl T.g__law_is_sign T.kp__law_is_sign T.b__law_is_sign takes_no (ma_cons (mo_nm 1 (pv 1)) (ma_nil))) (me_and (me_call (ok__law_number T) hx (hr.mono (by omega)) rfl T.g__law_number T.kp__law_number T.b__law_number takes_no (ma_cons (mo_nm 2 (pv 2)) (ma_nil))) (me_one (me_chain opr_le opr_le (mo_ex (me_int)) (mo_nm 2 (pv 2)) (mo_ex (me_int))))))))) (ma_nil))))) (mss_one (mst_ret (me_bl))) (mss_nil)) (mss_cons ((mst_setComp (i := 3) (y := "signs") (own := [("one", 1), ("two", 2)]) rfl sc__law_are_ranks.nd rfl rfl (sw_true rfl rfl rfl (by decide +kernel)) (mi_any (mo_nm 0 (pv 0))) (blkOk_by (N := n__law_are_ranks) (sc := defScope s__law_are_ranks) (by decide +kernel)) (by decide) (fun _ _ _ _ _ _ => mg_tup rfl (mgs_cons (mg_name (i := 1) (pg_name sc__law_are_ranks.nd rfl (by first | exact Or.inl rfl | exact Or.inr rfl))) (mgs_cons (mg_name (i := 2) (pg_name sc__law_are_ranks.nd rfl (by first | exact Or.inl rfl | exact Or.inr rfl))) (mgs_nil)))) (fun _ _ _ _ _ _ => mts_nil) (fun _ _ _ _ _ _ => me_nm 1 (pv 1))).2) (mss_one (mst_ret (me_and (me_cmp (opr_eq hu) (mo_nm 3 (pv 3)) (mo_ex (me_fr (mf_sortSet rfl hu rfl T.n_sorted rfl T.n_set (mo_nm 3 (pv 3))))) (by rfl)) (me_one (me_cmp (opr_in hu5) (mo_ex (me_int)) (mo_ex (me_fr (mf_comp (own := [("one", 1), ("two", 2)]) rfl sc__law_are_ranks.nd (mi_any (mo_nm 0 (pv 0))) (blkOk_by (N := n__law_are_ranks) (sc := defScope s__law_are_ranks) (by decide +kernel)) (by decide) (fun _ _ _ _ _ _ => mg_tup rfl (mgs_cons (mg_name (i := 1) (pg_name sc__law_are_ranks.nd rfl (by first | exact Or.inl rfl | exact Or.inr rfl))) (mgs_cons (mg_name (i := 2) (pg_name sc__law_are_ranks.nd rfl (by first | exact Or.inl rfl | exact Or.inr rfl))) (mgs_nil)))) (fun _ _ _ _ _ _ => mts_nil) (fun _ _ _ _ _ _ => me_nm 2 (pv 2))))) (by rfl)))))))))
theorem ok__law_is_tree (T : Txt K mg) : FnOk P w K mg base (L2.CX P w) 1 T.a__law_is_tree T.d__law_is_tree p__law_is_tree (spOf K ⟨mg, P, w, none⟩ f__law_is_tree) :=
  fn_ok (k := 0) (N := n__law_is_tree) (m := m__law_is_tree) T.F__law_is_tree sc__law_is_tree (fun cdv A outer s H E G hx hr tk hp => by
    have hu := room64 hr
    have hu1 := room1 hr
    have hu5 := room65 hr
    exact mss_cons (mst_par2 (i := 2) (j := 3) rfl sc__law_is_tree.nd rfl rfl (by decide) rfl rfl (mx_val (me_lst (ma_cons (mo_nm 1 (pv 1)) (ma_nil))) (mx_val (me_int) (mx_nil))) (by rfl)) (mss_cons (mst_for hp rfl (mi_rng1 rfl T.n_range (ma_cons (mo_ex (me_int)) (ma_nil))) (fun _ _ => mg_name (i := 4) (pg_name sc__law_is_tree.nd rfl (by first | exact Or.inl rfl | exact Or.inr rfl))) (fun _ _ => mss_cons (mst_set 3 sc__law_is_tree.nd rfl (by first | exact Or.inl rfl | exact Or.inr rfl) (me_bin opr_add (mo_nm 3 (pv 3)) (mo_ex (me_callB cr_len rfl T.n_len PySem.boot_len (ma_cons (mo_nm 2 (pv 2)) (ma_nil)))))) (mss_cons (mst_if (mt_cmp (opr_eq hu) (mo_ex (me_callB cr_len rfl T.n_len PySem.boot_len (ma_cons (mo_nm 2 (pv 2)) (ma_nil)))) (mo_ex (me_int)) (by rfl)) (mss_one (mst_ret (me_cmp opr_le (mo_nm 3 (pv 3)) (mo_ex (me_int)) (by rfl)))) (mss_nil)) (mss_cons (mst_if (mt_not (mt_val (me_callB (cr_all' rfl) rfl T.n_all (by decide +kernel) (ma_cons (mo_ex (me_fr (mf_comp (own := [("one", 5)]) rfl sc__law_is_tree.nd (mi_any (mo_nm 2 (pv 2))) (blkOk_by (N := n__law_is_tree) (sc := defScope s__law_is_tree) (by decide +kernel)) (by decide) (fun _ _ _ _ _ _ => mg_name (i := 5) (pg_name sc__law_is_tree.nd rfl (by first | exact Or.inl rfl | exact Or.inr rfl))) (fun _ _ _ _ _ _ => mts_nil) (fun _ _ _ _ _ _ => me_and (me_isi (T := .tuple) rfl T.n_isinstance (mo_nm 5 (pv 5)) rfl T.n_tuple (by decide +kernel)) (me_and (me_cmp opr_gt (mo_ex (me_callB cr_len rfl T.n_len PySem.boot_len (ma_cons (mo_nm 5 (pv 5)) (ma_nil)))) (mo_ex (me_int)) (by rfl)) (me_one (me_isi (T := .str) rfl T.n_isinstance (mo_ex (me_ix (ixr_dict hu1) (mo_nm 5 (pv 5)) (mo_ex (me_int)) (fun _ _ => rfl))) rfl T.n_str (by decide +kernel)))))))) (ma_nil))))) (mss_one (mst_ret (me_bl))) (mss_nil)) (mss_cons (mst_if (mt_not (mt_val (me_callB (cr_all' rfl) rfl T.n_all (by decide +kernel) (ma_cons (mo_ex (me_fr (mf_comp (own := [("one", 5)]) rfl sc__law_is_tree.nd (mi_any (mo_nm 2 (pv 2))) (blkOk_by (N := n__law_is_tree) (sc := defScope s__law_is_tree) (by decide +kernel)) (by decide) (fun _ _ _ _ _ _ => mg_name (i := 5) (pg_name sc__law_is_tree.nd rfl (by first | exact Or.inl rfl | exact Or.inr rfl))) (fun _ _ _ _ _ _ => mts_nil) (fun _ _ _ _ _ _ => me_cmp (opr_eq hu) (mo_ex (me_bin opr_sub (mo_ex (me_callB cr_len rfl T.n_len PySem.boot_len (ma_cons (mo_nm 5 (pv 5)) (ma_nil)))) (mo_ex (me_int)))) (mo_ex (me_meth (pe_sm PySem.F.plainAttrs_dict PySem.F.slot_dict_get PySem.F.type_dict_get (mtr_get hu1) (mo_ex (me_fr (mf_callTy (cr_dict rfl) rfl T.n_dict (by decide +kernel) (ma_cons (mo_nm 0 (pv 0)) (ma_nil))))) (ma_cons (mo_ex (me_ix (ixr_dict hu1) (mo_nm 5 (pv 5)) (mo_ex (me_int)) (fun _ _ => rfl))) (ma_cons (mo_ex (me_un unr_neg (mo_ex (me_int)))) (ma_nil)))) get_lift)) (by rfl))))) (ma_nil))))) (mss_one (mst_ret (me_bl))) (mss_nil)) (mss_cons (mst_set 6 sc__law_is_tree.nd rfl (by first | exact Or.inl rfl | exact Or.inr rfl) (me_lst (ma_nil))) (mss_cons (mst_for hp rfl (mi_any (mo_nm 2 (pv 2))) (fun _ _ => mg_name (i := 5) (pg_name sc__law_is_tree.nd rfl (by first | exact Or.inl rfl | exact Or.inr rfl))) (fun _ _ => mss_one (mst_set 6 sc__law_is_tree.nd rfl (by first | exact Or.inl rfl | exact Or.inr rfl) (me_bin opr_add (mo_nm 6 (pv 6)) (mo_ex (me_callTy cr_list rfl T.n_list (by decide +kernel) (ma_cons (mo_ex (me_slice slr_seq (mo_nm 5 (pv 5)) (mp_some (me_int)) (mp_none))) (ma_nil)))))))) (mss_one (mst_set 2 sc__law_is_tree.nd rfl (by first | exact Or.inl rfl | exact Or.inr rfl) (me_nm 6 (pv 6))))))))))) (mss_one (mst_ret (me_bl)))))
theorem ok__law_asked (T : Txt K mg) : FnOk P w K mg base (L2.CX P w) 6 T.a__law_asked T.d__law_asked p__law_asked (spOf K ⟨mg, P, w, none⟩ f__law_asked) :=
  fn_ok (k := 5) (N := n__law_asked) (m := m__law_asked) T.F__law_asked sc__law_asked (fun cdv A outer s H E G hx hr tk hp => by
    have hu := room64 hr
    have hu1 := room1 hr
    have hu5 := room65 hr
    exact mss_one (mst_try (i := 3) rfl rfl sc__law_asked.nd rfl rfl ⟨rfl, by decide, .inl T.g_TreeError⟩ tk hx (T.cat_TreeError) (fun _ _ _ tk1 hp1 => mss_cons (mst_if (mt_cmp (opr_eq hu) (mo_nm 0 (pv 0)) (mo_ex (me_int)) (by rfl)) (mss_one (mst_expr (me_call (ok_look_at_ranks T) hx (hr.mono (by omega)) rfl T.g_look_at_ranks T.kp_look_at_ranks T.b_look_at_ranks tk1 (ma_cons (mo_nm 1 (pv 1)) (ma_nil))))) (mss_one (mst_expr (me_call (ok_look_at_tree T) hx (hr.mono (by omega)) rfl T.g_look_at_tree T.kp_look_at_tree T.b_look_at_tree tk1 (ma_cons (mo_nm 1 (pv 1)) (ma_cons (mo_nm 2 (pv 2)) (ma_nil))))))) (mss_one (mst_ret (me_non)))) (fun c fs fvs _ ca d oe pn e1 e2 e3 e4 hz hf => mss_one (mst_ret (me_if (mt_val (me_isE (i := 3) (T.e_TreeError c ca e1 e2).1 hz hf rfl rfl rfl T.n_isinstance (pv 3) rfl T.g_BadRanks (T.k_TreeError_BadRanks c ca e1 e2))) (me_str) (me_if (mt_val (me_isE (i := 3) (T.e_TreeError c ca e1 e2).1 hz hf rfl rfl rfl T.n_isinstance (pv 3) rfl T.g_BadTree (T.k_TreeError_BadTree c ca e1 e2))) (me_str) (me_str)))))))
theorem ok__law_changed (T : Txt K mg) : FnOk P w K mg base (L2.CX P w) 2 T.a__law_changed T.d__law_changed p__law_changed (spOf K ⟨mg, P, w, none⟩ f__law_changed) :=
  fn_ok (k := 1) (N := n__law_changed) (m := m__law_changed) T.F__law_changed sc__law_changed (fun cdv A outer s H E G hx hr tk hp => by
    have hu := room64 hr
    have hu1 := room1 hr
    have hu5 := room65 hr
    exact mss_cons (mst_set 2 sc__law_changed.nd rfl (by first | exact Or.inl rfl | exact Or.inr rfl) (me_call (ok__law_draw T) hx (hr.mono (by omega)) rfl T.g__law_draw T.kp__law_draw T.b__law_draw tk (ma_cons (mo_nm 0 (pv 0)) (ma_cons (mo_ex (me_int)) (ma_nil))))) (mss_cons (mst_if (mt_w (mw_and (mt_cmp opr_lt (mo_nm 2 (pv 2)) (mo_ex (me_int)) (by rfl)) (mw_and1 (mt_cmp opr_gt (mo_ex (me_callB cr_len rfl T.n_len PySem.boot_len (ma_cons (mo_nm 1 (pv 1)) (ma_nil)))) (mo_ex (me_int)) (by rfl))))) (mss_cons (mst_set 3 sc__law_changed.nd rfl (by first | exact Or.inl rfl | exact Or.inr rfl) (me_bin opr_add (mo_ex (me_int)) (mo_ex (me_call (ok__law_draw T) hx (hr.mono (by omega)) rfl T.g__law_draw T.kp__law_draw T.b__law_draw tk (ma_cons (mo_nm 0 (pv 0)) (ma_cons (mo_ex (me_bin opr_sub (mo_ex (me_callB cr_len rfl T.n_len PySem.boot_len (ma_cons (mo_nm 1 (pv 1)) (ma_nil)))) (mo_ex (me_int)))) (ma_nil))))))) (mss_one (mst_ret (me_bin opr_add (mo_ex (me_bin opr_add (mo_ex (me_slice slr_seq (mo_nm 1 (pv 1)) (mp_none) (mp_some (me_nm 3 (pv 3))))) (mo_ex (me_tup (ma_cons (mo_ex (me_ix (ixr_dict hu1) (mo_ex (me_lst (ma_cons (mo_ex (me_bin opr_add (mo_ex (me_ix (ixr_dict hu1) (mo_nm 1 (pv 1)) (mo_nm 3 (pv 3)) (fun _ _ => rfl))) (mo_ex (me_tup (ma_cons (mo_ex (me_tup (ma_cons (mo_ex (me_str)) (ma_nil)))) (ma_nil)))))) (ma_cons (mo_ex (me_tup (ma_cons (mo_ex (me_str)) (ma_nil)))) (ma_cons (mo_ex (me_callTy cr_list rfl T.n_list (by decide +kernel) (ma_cons (mo_ex (me_ix (ixr_dict hu1) (mo_nm 1 (pv 1)) (mo_nm 3 (pv 3)) (fun _ _ => rfl))) (ma_nil)))) (ma_cons (mo_ex (me_non)) (ma_nil))))))) (mo_nm 2 (pv 2)) (fun _ _ => rfl))) (ma_nil)))))) (mo_ex (me_slice slr_seq (mo_nm 1 (pv 1)) (mp_some (me_bin opr_add (mo_nm 3 (pv 3)) (mo_ex (me_int)))) (mp_none))))))) (mss_nil)) (mss_one (mst_ret (me_ix (ixr_dict hu1) (mo_ex (me_lst (ma_cons (mo_nm 1 (pv 1)) (ma_cons (mo_ex (me_bin opr_add (mo_nm 1 (pv 1)) (mo_ex (me_tup (ma_cons (mo_ex (me_tup (ma_cons (mo_ex (me_str)) (ma_nil)))) (ma_nil)))))) (ma_cons (mo_ex (me_callTy cr_list rfl T.n_list (by decide +kernel) (ma_cons (mo_nm 1 (pv 1)) (ma_nil)))) (ma_cons (mo_ex (me_slice slr_seq (mo_nm 1 (pv 1)) (mp_none) (mp_some (me_int)))) (ma_cons (mo_ex (me_slice slr_seq (mo_nm 1 (pv 1)) (mp_some (me_int)) (mp_none))) (ma_cons (mo_ex (me_tup (ma_nil))) (ma_cons (mo_ex (me_non)) (ma_cons (mo_ex (me_bin opr_add (mo_ex (me_tup (ma_cons (mo_ex (me_meth0 (pe_sm0 PySem.F.plainAttrs_str PySem.F.slot_str_upper PySem.F.type_str_upper mt_upper (mo_ex (me_ix (ixr_dict hu1) (mo_nm 1 (pv 1)) (mo_ex (me_int)) (fun _ _ => rfl)))) upper_lift)) (ma_nil)))) (mo_ex (me_slice slr_seq (mo_nm 1 (pv 1)) (mp_some (me_int)) (mp_none))))) (ma_nil))))))))))) (mo_nm 2 (pv 2)) (fun _ _ => rfl))))))
theorem ok_law (T : Txt K mg) : FnOk P w K mg base (L2.CX P w) 7 T.a_law T.d_law p_law (spOf K ⟨mg, P, w, none⟩ f_law) :=
  fn_ok (k := 6) (N := n_law) (m := m_law) T.F_law sc_law (fun cdv A outer s H E G hx hr tk hp => by
    have hu := room64 hr
    have hu1 := room1 hr
    have hu5 := room65 hr
    exact mss_cons (mst_setNew 1 sc_law.nd rfl (by first | exact Or.inl rfl | exact Or.inr rfl) (mf_call (ok__law_draws T) hx (hr.mono (by omega)) rfl T.g__law_draws T.kp__law_draws T.b__law_draws tk (ma_cons (mo_nm 0 (pv 0)) (ma_nil)))) (mss_cons (mst_for hp rfl (mi_rng1 rfl T.n_range (ma_cons (mo_ex (me_int)) (ma_nil))) (fun _ _ => mg_name (i := 2) (pg_name sc_law.nd rfl (by first | exact Or.inl rfl | exact Or.inr rfl))) (fun _ _ => mss_cons (mst_set 3 sc_law.nd rfl (by first | exact Or.inl rfl | exact Or.inr rfl) (me_call (ok__law_ranks T) hx (hr.mono (by omega)) rfl T.g__law_ranks T.kp__law_ranks T.b__law_ranks tk (ma_cons (mo_nm 1 (pv 1)) (ma_nil)))) (mss_cons (mst_set 4 sc_law.nd rfl (by first | exact Or.inl rfl | exact Or.inr rfl) (me_call (ok__law_tree T) hx (hr.mono (by omega)) rfl T.g__law_tree T.kp__law_tree T.b__law_tree tk (ma_cons (mo_nm 1 (pv 1)) (ma_cons (mo_nm 3 (pv 3)) (ma_cons (mo_ex (me_int)) (ma_nil)))))) (mss_cons (mst_if (mt_w (mw_or (mt_not (mt_val (me_call (ok__law_same T) hx (hr.mono (by omega)) rfl T.g__law_same T.kp__law_same T.b__law_same tk (ma_cons (mo_ex (me_call (ok_is_tree T) hx (hr.mono (by omega)) rfl T.g_is_tree T.kp_is_tree T.b_is_tree tk (ma_cons (mo_nm 3 (pv 3)) (ma_cons (mo_nm 4 (pv 4)) (ma_nil))))) (ma_cons (mo_ex (me_bl)) (ma_nil)))))) (mw_or1 (mt_cmp opr_isNot (mo_ex (me_call (ok__law_asked T) hx (hr.mono (by omega)) rfl T.g__law_asked T.kp__law_asked T.b__law_asked tk (ma_cons (mo_ex (me_int)) (ma_cons (mo_nm 3 (pv 3)) (ma_cons (mo_nm 4 (pv 4)) (ma_nil)))))) (mo_ex (me_non)) (by rfl))))) (mss_one (mst_ret (me_bl))) (mss_nil)) (mss_cons (mst_for hp rfl (mi_rng1 rfl T.n_range (ma_cons (mo_ex (me_int)) (ma_nil))) (fun _ _ => mg_name (i := 5) (pg_name sc_law.nd rfl (by first | exact Or.inl rfl | exact Or.inr rfl))) (fun _ _ => mss_cons (mst_set 6 sc_law.nd rfl (by first | exact Or.inl rfl | exact Or.inr rfl) (me_call (ok__law_changed T) hx (hr.mono (by omega)) rfl T.g__law_changed T.kp__law_changed T.b__law_changed tk (ma_cons (mo_nm 1 (pv 1)) (ma_cons (mo_nm 4 (pv 4)) (ma_nil))))) (mss_cons (mst_set 7 sc_law.nd rfl (by first | exact Or.inl rfl | exact Or.inr rfl) (me_call (ok__law_is_tree T) hx (hr.mono (by omega)) rfl T.g__law_is_tree T.kp__law_is_tree T.b__law_is_tree tk (ma_cons (mo_nm 3 (pv 3)) (ma_cons (mo_nm 6 (pv 6)) (ma_nil))))) (mss_one (mst_if (mt_w (mw_or (mt_not (mt_val (me_call (ok__law_same T) hx (hr.mono (by omega)) rfl T.g__law_same T.kp__law_same T.b__law_same tk (ma_cons (mo_ex (me_call (ok_is_tree T) hx (hr.mono (by omega)) rfl T.g_is_tree T.kp_is_tree T.b_is_tree tk (ma_cons (mo_nm 3 (pv 3)) (ma_cons (mo_nm 6 (pv 6)) (ma_nil))))) (ma_cons (mo_nm 7 (pv 7)) (ma_nil)))))) (mw_or1 (mt_cmp (opr_ne hu) (mo_ex (me_call (ok__law_asked T) hx (hr.mono (by omega)) rfl T.g__law_asked T.kp__law_asked T.b__law_asked tk (ma_cons (mo_ex (me_int)) (ma_cons (mo_nm 3 (pv 3)) (ma_cons (mo_nm 6 (pv 6)) (ma_nil)))))) (mo_ex (me_if (mt_val (me_nm 7 (pv 7))) (me_non) (me_str))) (by rfl))))) (mss_one (mst_ret (me_bl))) (mss_nil)))))) (mss_cons (mst_set 8 sc_law.nd rfl (by first | exact Or.inl rfl | exact Or.inr rfl) (me_call (ok__law_draw T) hx (hr.mono (by omega)) rfl T.g__law_draw T.kp__law_draw T.b__law_draw tk (ma_cons (mo_nm 1 (pv 1)) (ma_cons (mo_ex (me_callB cr_len rfl T.n_len PySem.boot_len (ma_cons (mo_nm 3 (pv 3)) (ma_nil)))) (ma_nil))))) (mss_cons (mst_set 9 sc_law.nd rfl (by first | exact Or.inl rfl | exact Or.inr rfl) (me_lst (ma_cons (mo_nm 3 (pv 3)) (ma_cons (mo_ex (me_rev (mo_nm 3 (pv 3)) (mp_none) (mp_none))) (ma_cons (mo_ex (me_callTy cr_list rfl T.n_list (by decide +kernel) (ma_cons (mo_nm 3 (pv 3)) (ma_nil)))) (ma_cons (mo_ex (me_bin opr_add (mo_nm 3 (pv 3)) (mo_ex (me_slice slr_seq (mo_nm 3 (pv 3)) (mp_none) (mp_some (me_int)))))) (ma_cons (mo_ex (me_bin opr_add (mo_ex (me_bin opr_add (mo_ex (me_slice slr_seq (mo_nm 3 (pv 3)) (mp_none) (mp_some (me_nm 8 (pv 8))))) (mo_ex (me_tup (ma_cons (mo_ex (me_tup (ma_cons (mo_ex (me_ix (ixr_dict hu1) (mo_ex (me_ix (ixr_dict hu1) (mo_nm 3 (pv 3)) (mo_nm 8 (pv 8)) (fun _ _ => rfl))) (mo_ex (me_int)) (fun _ _ => rfl))) (ma_cons (mo_ex (me_int)) (ma_nil))))) (ma_nil)))))) (mo_ex (me_slice slr_seq (mo_nm 3 (pv 3)) (mp_some (me_bin opr_add (mo_nm 8 (pv 8)) (mo_ex (me_int)))) (mp_none))))) (ma_nil)))))))) (mss_cons (mst_set 9 sc_law.nd rfl (by first | exact Or.inl rfl | exact Or.inr rfl) (me_bin opr_add (mo_nm 9 (pv 9)) (mo_ex (me_lst (ma_cons (mo_ex (me_bin opr_add (mo_ex (me_bin opr_add (mo_ex (me_slice slr_seq (mo_nm 3 (pv 3)) (mp_none) (mp_some (me_nm 8 (pv 8))))) (mo_ex (me_tup (ma_cons (mo_ex (me_tup (ma_cons (mo_ex (me_ix (ixr_dict hu1) (mo_ex (me_ix (ixr_dict hu1) (mo_nm 3 (pv 3)) (mo_nm 8 (pv 8)) (fun _ _ => rfl))) (mo_ex (me_int)) (fun _ _ => rfl))) (ma_cons (mo_ex (me_bl)) (ma_nil))))) (ma_nil)))))) (mo_ex (me_slice slr_seq (mo_nm 3 (pv 3)) (mp_some (me_bin opr_add (mo_nm 8 (pv 8)) (mo_ex (me_int)))) (mp_none))))) (ma_cons (mo_ex (me_bin opr_add (mo_ex (me_bin opr_add (mo_ex (me_slice slr_seq (mo_nm 3 (pv 3)) (mp_none) (mp_some (me_nm 8 (pv 8))))) (mo_ex (me_tup (ma_cons (mo_ex (me_tup (ma_cons (mo_ex (me_str)) (ma_cons (mo_ex (me_int)) (ma_nil))))) (ma_nil)))))) (mo_ex (me_slice slr_seq (mo_nm 3 (pv 3)) (mp_some (me_bin opr_add (mo_nm 8 (pv 8)) (mo_ex (me_int)))) (mp_none))))) (ma_cons (mo_ex (me_tup (ma_cons (mo_ex (me_tup (ma_cons (mo_ex (me_str)) (ma_cons (mo_ex (me_int)) (ma_nil))))) (ma_nil)))) (ma_cons (mo_ex (me_tup (ma_nil))) (ma_cons (mo_ex (me_non)) (ma_nil)))))))))) (mss_cons (mst_set 9 sc_law.nd rfl (by first | exact Or.inl rfl | exact Or.inr rfl) (me_bin opr_add (mo_nm 9 (pv 9)) (mo_ex (me_lst (ma_cons (mo_ex (me_bin opr_add (mo_ex (me_bin opr_add (mo_ex (me_slice slr_seq (mo_nm 3 (pv 3)) (mp_none) (mp_some (me_nm 8 (pv 8))))) (mo_ex (me_tup (ma_cons (mo_ex (me_slice slr_seq (mo_ex (me_ix (ixr_dict hu1) (mo_nm 3 (pv 3)) (mo_nm 8 (pv 8)) (fun _ _ => rfl))) (mp_none) (mp_some (me_int)))) (ma_nil)))))) (mo_ex (me_slice slr_seq (mo_nm 3 (pv 3)) (mp_some (me_bin opr_add (mo_nm 8 (pv 8)) (mo_ex (me_int)))) (mp_none))))) (ma_cons (mo_ex (me_bin opr_add (mo_ex (me_bin opr_add (mo_ex (me_slice slr_seq (mo_nm 3 (pv 3)) (mp_none) (mp_some (me_nm 8 (pv 8))))) (mo_ex (me_tup (ma_cons (mo_ex (me_tup (ma_cons (mo_ex (me_ix (ixr_dict hu1) (mo_ex (me_ix (ixr_dict hu1) (mo_nm 3 (pv 3)) (mo_nm 8 (pv 8)) (fun _ _ => rfl))) (mo_ex (me_int)) (fun _ _ => rfl))) (ma_cons (mo_ex (me_un unr_neg (mo_ex (me_int)))) (ma_nil))))) (ma_nil)))))) (mo_ex (me_slice slr_seq (mo_nm 3 (pv 3)) (mp_some (me_bin opr_add (mo_nm 8 (pv 8)) (mo_ex (me_int)))) (mp_none))))) (ma_nil))))))) (mss_cons (mst_for hp rfl (mi_any (mo_nm 9 (pv 9))) (fun _ _ => mg_name (i := 10) (pg_name sc_law.nd rfl (by first | exact Or.inl rfl | exact Or.inr rfl))) (fun _ _ => mss_cons (mst_set 7 sc_law.nd rfl (by first | exact Or.inl rfl | exact Or.inr rfl) (me_call (ok__law_are_ranks T) hx (hr.mono (by omega)) rfl T.g__law_are_ranks T.kp__law_are_ranks T.b__law_are_ranks tk (ma_cons (mo_nm 10 (pv 10)) (ma_nil)))) (mss_one (mst_if (mt_w (mw_or (mt_not (mt_val (me_call (ok__law_same T) hx (hr.mono (by omega)) rfl T.g__law_same T.kp__law_same T.b__law_same tk (ma_cons (mo_ex (me_call (ok_are_ranks T) hx (hr.mono (by omega)) rfl T.g_are_ranks T.kp_are_ranks T.b_are_ranks tk (ma_cons (mo_nm 10 (pv 10)) (ma_nil)))) (ma_cons (mo_nm 7 (pv 7)) (ma_nil)))))) (mw_or1 (mt_cmp (opr_ne hu) (mo_ex (me_call (ok__law_asked T) hx (hr.mono (by omega)) rfl T.g__law_asked T.kp__law_asked T.b__law_asked tk (ma_cons (mo_ex (me_int)) (ma_cons (mo_nm 10 (pv 10)) (ma_cons (mo_ex (me_non)) (ma_nil)))))) (mo_ex (me_if (mt_val (me_nm 7 (pv 7))) (me_non) (me_str))) (by rfl))))) (mss_one (mst_ret (me_bl))) (mss_nil))))) (mss_cons (mst_set 11 sc_law.nd rfl (by first | exact Or.inl rfl | exact Or.inr rfl) (me_bin opr_add (mo_ex (me_meth (pe_sm PySem.F.plainAttrs_str PySem.F.slot_str_join PySem.F.type_str_join mt_join (mo_ex (me_str)) (ma_cons (mo_ex (me_fr (mf_comp (own := [("k", 5)]) rfl sc_law.nd (mi_rng1 rfl T.n_range (ma_cons (mo_ex (me_call (ok__law_draw T) hx (hr.mono (by omega)) rfl T.g__law_draw T.kp__law_draw T.b__law_draw tk (ma_cons (mo_nm 1 (pv 1)) (ma_cons (mo_ex (me_int)) (ma_nil))))) (ma_nil))) (blkOk_by (N := n_law) (sc := defScope s_law) (by decide +kernel)) (by decide) (fun _ _ _ _ _ _ => mg_name (i := 5) (pg_name sc_law.nd rfl (by first | exact Or.inl rfl | exact Or.inr rfl))) (fun _ _ _ _ _ _ => mts_nil) (fun _ _ _ _ _ _ => me_ix (ixr_dict hu1) (mo_ex (me_str)) (mo_ex (me_call (ok__law_draw T) hx (hr.mono (by omega)) rfl T.g__law_draw T.kp__law_draw T.b__law_draw takes_no (ma_cons (mo_nm 1 (pv 1)) (ma_cons (mo_ex (me_int)) (ma_nil))))) (fun _ _ => rfl))))) (ma_nil))) join_lift)) (mo_ex (me_bin opr_mul (mo_ex (me_str)) (mo_ex (me_ix (ixr_dict hu1) (mo_ex (me_lst (ma_cons (mo_ex (me_int)) (ma_cons (mo_ex (me_int)) (ma_cons (mo_ex (me_int)) (ma_cons (mo_ex (me_int)) (ma_cons (mo_ex (me_int)) (ma_nil)))))))) (mo_ex (me_call (ok__law_draw T) hx (hr.mono (by omega)) rfl T.g__law_draw T.kp__law_draw T.b__law_draw tk (ma_cons (mo_nm 1 (pv 1)) (ma_cons (mo_ex (me_int)) (ma_nil))))) (fun _ _ => rfl))))))) (mss_one (mst_if (mt_w (mw_or (mt_not (mt_val (me_call (ok__law_same T) hx (hr.mono (by omega)) rfl T.g__law_same T.kp__law_same T.b__law_same tk (ma_cons (mo_ex (me_call (ok_is_sign T) hx (hr.mono (by omega)) rfl T.g_is_sign T.kp_is_sign T.b_is_sign tk (ma_cons (mo_nm 11 (pv 11)) (ma_nil)))) (ma_cons (mo_ex (me_call (ok__law_is_sign T) hx (hr.mono (by omega)) rfl T.g__law_is_sign T.kp__law_is_sign T.b__law_is_sign tk (ma_cons (mo_nm 11 (pv 11)) (ma_nil)))) (ma_nil)))))) (mw_or (mt_cmp opr_isNot (mo_ex (me_call (ok_is_sign T) hx (hr.mono (by omega)) rfl T.g_is_sign T.kp_is_sign T.b_is_sign tk (ma_cons (mo_ex (me_non)) (ma_nil)))) (mo_ex (me_bl)) (by rfl)) (mw_or1 (mt_cmp opr_isNot (mo_ex (me_call (ok_is_sign T) hx (hr.mono (by omega)) rfl T.g_is_sign T.kp_is_sign T.b_is_sign tk (ma_cons (mo_ex (me_tup (ma_cons (mo_ex (me_str)) (ma_nil)))) (ma_nil)))) (mo_ex (me_bl)) (by rfl)))))) (mss_one (mst_ret (me_bl))) (mss_nil)))))))))))))) (mss_cons (mst_set 12 sc_law.nd rfl (by first | exact Or.inl rfl | exact Or.inr rfl) (me_tup (ma_cons (mo_ex (me_str)) (ma_nil)))) (mss_cons (mst_for hp rfl (mi_rng1 rfl T.n_range (ma_cons (mo_ex (me_int)) (ma_nil))) (fun _ _ => mg_name (i := 5) (pg_name sc_law.nd rfl (by first | exact Or.inl rfl | exact Or.inr rfl))) (fun _ _ => mss_one (mst_set 12 sc_law.nd rfl (by first | exact Or.inl rfl | exact Or.inr rfl) (me_tup (ma_cons (mo_ex (me_str)) (ma_cons (mo_nm 12 (pv 12)) (ma_nil))))))) (mss_cons (mst_set 13 sc_law.nd rfl (by first | exact Or.inl rfl | exact Or.inr rfl) (me_tup (ma_cons (mo_ex (me_tup (ma_cons (mo_ex (me_str)) (ma_cons (mo_ex (me_int)) (ma_nil))))) (ma_cons (mo_ex (me_tup (ma_cons (mo_ex (me_str)) (ma_cons (mo_ex (me_int)) (ma_nil))))) (ma_cons (mo_ex (me_tup (ma_cons (mo_ex (me_str)) (ma_cons (mo_ex (me_int)) (ma_nil))))) (ma_nil)))))) (mss_cons (mst_set 14 sc_law.nd rfl (by first | exact Or.inl rfl | exact Or.inr rfl) (me_tup (ma_cons (mo_ex (me_str)) (ma_nil)))) (mss_cons (mst_for hp rfl (mi_rng1 rfl T.n_range (ma_cons (mo_ex (me_int)) (ma_nil))) (fun _ _ => mg_name (i := 5) (pg_name sc_law.nd rfl (by first | exact Or.inl rfl | exact Or.inr rfl))) (fun _ _ => mss_one (mst_set 14 sc_law.nd rfl (by first | exact Or.inl rfl | exact Or.inr rfl) (me_tup (ma_cons (mo_ex (me_str)) (ma_cons (mo_nm 14 (pv 14)) (ma_cons (mo_nm 14 (pv 14)) (ma_nil)))))))) (mss_cons (mst_set 15 sc_law.nd rfl (by first | exact Or.inl rfl | exact Or.inr rfl) (me_tup (ma_cons (mo_ex (me_str)) (ma_cons (mo_ex (me_tup (ma_cons (mo_ex (me_str)) (ma_cons (mo_nm 14 (pv 14)) (ma_cons (mo_ex (me_ix (ixr_dict hu1) (mo_nm 14 (pv 14)) (mo_ex (me_int)) (fun _ _ => rfl))) (ma_nil)))))) (ma_cons (mo_ex (me_tup (ma_cons (mo_ex (me_str)) (ma_cons (mo_ex (me_ix (ixr_dict hu1) (mo_ex (me_ix (ixr_dict hu1) (mo_nm 14 (pv 14)) (mo_ex (me_int)) (fun _ _ => rfl))) (mo_ex (me_int)) (fun _ _ => rfl))) (ma_cons (mo_ex (me_tup (ma_cons (mo_ex (me_str)) (ma_nil)))) (ma_nil)))))) (ma_nil)))))) (mss_cons (mst_set 16 sc_law.nd rfl (by first | exact Or.inl rfl | exact Or.inr rfl) (me_callB cr_len rfl T.n_len PySem.boot_len (ma_cons (mo_ex (me_call (ok__law_nodes T) hx (hr.mono (by omega)) rfl T.g__law_nodes T.kp__law_nodes T.b__law_nodes tk (ma_cons (mo_nm 15 (pv 15)) (ma_nil)))) (ma_nil)))) (mss_cons (mst_if (mt_not (mt_val (me_call (ok__law_same T) hx (hr.mono (by omega)) rfl T.g__law_same T.kp__law_same T.b__law_same tk (ma_cons (mo_ex (me_lst (ma_cons (mo_ex (me_call (ok_is_tree T) hx (hr.mono (by omega)) rfl T.g_is_tree T.kp_is_tree T.b_is_tree tk (ma_cons (mo_nm 13 (pv 13)) (ma_cons (mo_nm 12 (pv 12)) (ma_nil))))) (ma_cons (mo_ex (me_call (ok_is_tree T) hx (hr.mono (by omega)) rfl T.g_is_tree T.kp_is_tree T.b_is_tree tk (ma_cons (mo_nm 13 (pv 13)) (ma_cons (mo_ex (me_tup (ma_cons (mo_ex (me_str)) (ma_cons (mo_nm 12 (pv 12)) (ma_nil))))) (ma_nil))))) (ma_cons (mo_ex (me_call (ok_is_tree T) hx (hr.mono (by omega)) rfl T.g_is_tree T.kp_is_tree T.b_is_tree tk (ma_cons (mo_nm 13 (pv 13)) (ma_cons (mo_nm 14 (pv 14)) (ma_nil))))) (ma_cons (mo_ex (me_call (ok_is_tree T) hx (hr.mono (by omega)) rfl T.g_is_tree T.kp_is_tree T.b_is_tree tk (ma_cons (mo_nm 13 (pv 13)) (ma_cons (mo_ex (me_tup (ma_cons (mo_ex (me_str)) (ma_cons (mo_nm 14 (pv 14)) (ma_cons (mo_nm 14 (pv 14)) (ma_nil)))))) (ma_nil))))) (ma_nil))))))) (ma_cons (mo_ex (me_lst (ma_cons (mo_ex (me_bl)) (ma_cons (mo_ex (me_bl)) (ma_cons (mo_ex (me_bl)) (ma_cons (mo_ex (me_bl)) (ma_nil))))))) (ma_nil)))))) (mss_one (mst_ret (me_bl))) (mss_nil)) (mss_cons (mst_if (mt_w (mw_or (mt_not (mt_val (me_call (ok__law_same T) hx (hr.mono (by omega)) rfl T.g__law_same T.kp__law_same T.b__law_same tk (ma_cons (mo_ex (me_call (ok_is_tree T) hx (hr.mono (by omega)) rfl T.g_is_tree T.kp_is_tree T.b_is_tree tk (ma_cons (mo_nm 13 (pv 13)) (ma_cons (mo_nm 15 (pv 15)) (ma_nil))))) (ma_cons (mo_ex (me_cmp opr_le (mo_nm 16 (pv 16)) (mo_ex (me_int)) (by rfl))) (ma_nil)))))) (mw_or1 (mt_cmp (opr_ne hu) (mo_ex (me_call (ok__law_asked T) hx (hr.mono (by omega)) rfl T.g__law_asked T.kp__law_asked T.b__law_asked tk (ma_cons (mo_ex (me_int)) (ma_cons (mo_ex (me_tup (ma_nil))) (ma_cons (mo_ex (me_tup (ma_cons (mo_ex (me_str)) (ma_nil)))) (ma_nil)))))) (mo_ex (me_str)) (by rfl))))) (mss_one (mst_ret (me_bl))) (mss_nil)) (mss_one (mst_ret (me_cmp (opr_eq hu) (mo_ex (me_fr (mf_comp (own := [("value", 10)]) rfl sc_law.nd (mi_any (mo_ex (me_lst (ma_cons (mo_ex (me_int)) (ma_cons (mo_ex (me_un unr_neg (mo_ex (me_int)))) (ma_cons (mo_ex (me_bl)) (ma_cons (mo_ex (me_non)) (ma_cons (mo_ex (me_str)) (ma_cons (mo_ex (me_tup (ma_cons (mo_ex (me_int)) (ma_nil)))) (ma_nil)))))))))) (blkOk_by (N := n_law) (sc := defScope s_law) (by decide +kernel)) (by decide) (fun _ _ _ _ _ _ => mg_name (i := 10) (pg_name sc_law.nd rfl (by first | exact Or.inl rfl | exact Or.inr rfl))) (fun _ _ _ _ _ _ => mts_nil) (fun _ _ _ _ _ _ => me_call (ok_is_integer T) hx (hr.mono (by omega)) rfl T.g_is_integer T.kp_is_integer T.b_is_integer takes_no (ma_cons (mo_nm 10 (pv 10)) (ma_nil)))))) (mo_ex (me_lst (ma_cons (mo_ex (me_bl)) (ma_cons (mo_ex (me_bl)) (ma_cons (mo_ex (me_bl)) (ma_cons (mo_ex (me_bl)) (ma_cons (mo_ex (me_bl)) (ma_cons (mo_ex (me_bl)) (ma_nil))))))))) (by rfl)))))))))))))))
end
/-! ### the end -/
def mkTxt {K : PySem.W.Frag} {h : Heap} {mg : Str → Option Value} (X : K.In h) (G : h.Ns mainGlobals mg)
    {tk_LETTERS : Tok}
    {tk_MOST_DEEP : Tok}
    {tk_MOST_NODES : Tok}
    {tk_MOST_RANK : Tok}
    {tk_MOST_SIGNS : Tok}
    {A_TreeError : Addr}
    {A_BadTree : Addr}
    {A_BadRanks : Addr}
    {A_is_integer : Addr} {od_is_integer an_is_integer : Option Addr} {sl_is_integer : Array (Option Value)} {oc_is_integer kV_is_integer dc_is_integer pm_is_integer cd_is_integer ct_is_integer : Value}
    {A_is_sign : Addr} {od_is_sign an_is_sign : Option Addr} {sl_is_sign : Array (Option Value)} {oc_is_sign kV_is_sign dc_is_sign pm_is_sign cd_is_sign ct_is_sign : Value}
    {A_are_ranks : Addr} {od_are_ranks an_are_ranks : Option Addr} {sl_are_ranks : Array (Option Value)} {oc_are_ranks kV_are_ranks dc_are_ranks pm_are_ranks cd_are_ranks ct_are_ranks : Value}
    {A_look_at_ranks : Addr} {od_look_at_ranks an_look_at_ranks : Option Addr} {sl_look_at_ranks : Array (Option Value)} {oc_look_at_ranks kV_look_at_ranks dc_look_at_ranks pm_look_at_ranks cd_look_at_ranks ct_look_at_ranks : Value}
    {A_is_tree : Addr} {od_is_tree an_is_tree : Option Addr} {sl_is_tree : Array (Option Value)} {oc_is_tree kV_is_tree dc_is_tree pm_is_tree cd_is_tree ct_is_tree : Value}
    {A_look_at_tree : Addr} {od_look_at_tree an_look_at_tree : Option Addr} {sl_look_at_tree : Array (Option Value)} {oc_look_at_tree kV_look_at_tree dc_look_at_tree pm_look_at_tree cd_look_at_tree ct_look_at_tree : Value}
    {A__law_draws : Addr} {od__law_draws an__law_draws : Option Addr} {sl__law_draws : Array (Option Value)} {oc__law_draws kV__law_draws dc__law_draws pm__law_draws cd__law_draws ct__law_draws : Value}
    {A__law_draw : Addr} {od__law_draw an__law_draw : Option Addr} {sl__law_draw : Array (Option Value)} {oc__law_draw kV__law_draw dc__law_draw pm__law_draw cd__law_draw ct__law_draw : Value}
    {A__law_same : Addr} {od__law_same an__law_same : Option Addr} {sl__law_same : Array (Option Value)} {oc__law_same kV__law_same dc__law_same pm__law_same cd__law_same ct__law_same : Value}
    {A__law_ranks : Addr} {od__law_ranks an__law_ranks : Option Addr} {sl__law_ranks : Array (Option Value)} {oc__law_ranks kV__law_ranks dc__law_ranks pm__law_ranks cd__law_ranks ct__law_ranks : Value}
    {A__law_tree : Addr} {od__law_tree an__law_tree : Option Addr} {sl__law_tree : Array (Option Value)} {oc__law_tree kV__law_tree dc__law_tree pm__law_tree cd__law_tree ct__law_tree : Value}
    {A__law_nodes : Addr} {od__law_nodes an__law_nodes : Option Addr} {sl__law_nodes : Array (Option Value)} {oc__law_nodes kV__law_nodes dc__law_nodes pm__law_nodes cd__law_nodes ct__law_nodes : Value}
    {A__law_is_sign : Addr} {od__law_is_sign an__law_is_sign : Option Addr} {sl__law_is_sign : Array (Option Value)} {oc__law_is_sign kV__law_is_sign dc__law_is_sign pm__law_is_sign cd__law_is_sign ct__law_is_sign : Value}
    {A__law_number : Addr} {od__law_number an__law_number : Option Addr} {sl__law_number : Array (Option Value)} {oc__law_number kV__law_number dc__law_number pm__law_number cd__law_number ct__law_number : Value}
    {A__law_are_ranks : Addr} {od__law_are_ranks an__law_are_ranks : Option Addr} {sl__law_are_ranks : Array (Option Value)} {oc__law_are_ranks kV__law_are_ranks dc__law_are_ranks pm__law_are_ranks cd__law_are_ranks ct__law_are_ranks : Value}
    {A__law_is_tree : Addr} {od__law_is_tree an__law_is_tree : Option Addr} {sl__law_is_tree : Array (Option Value)} {oc__law_is_tree kV__law_is_tree dc__law_is_tree pm__law_is_tree cd__law_is_tree ct__law_is_tree : Value}
    {A__law_asked : Addr} {od__law_asked an__law_asked : Option Addr} {sl__law_asked : Array (Option Value)} {oc__law_asked kV__law_asked dc__law_asked pm__law_asked cd__law_asked ct__law_asked : Value}
    {A__law_changed : Addr} {od__law_changed an__law_changed : Option Addr} {sl__law_changed : Array (Option Value)} {oc__law_changed kV__law_changed dc__law_changed pm__law_changed cd__law_changed ct__law_changed : Value}
    {A_law : Addr} {od_law an_law : Option Addr} {sl_law : Array (Option Value)} {oc_law kV_law dc_law pm_law cd_law ct_law : Value}
    (zb_all : PySem.W.nsIn K mainGlobals "all" = some none)
    (zb_bool : PySem.W.nsIn K mainGlobals "bool" = some none)
    (zb_dict : PySem.W.nsIn K mainGlobals "dict" = some none)
    (zb_int : PySem.W.nsIn K mainGlobals "int" = some none)
    (zb_isinstance : PySem.W.nsIn K mainGlobals "isinstance" = some none)
    (zb_len : PySem.W.nsIn K mainGlobals "len" = some none)
    (zb_list : PySem.W.nsIn K mainGlobals "list" = some none)
    (zb_range : PySem.W.nsIn K mainGlobals "range" = some none)
    (zb_set : PySem.W.nsIn K mainGlobals "set" = some none)
    (zb_sorted : PySem.W.nsIn K mainGlobals "sorted" = some none)
    (zb_str : PySem.W.nsIn K mainGlobals "str" = some none)
    (zb_tuple : PySem.W.nsIn K mainGlobals "tuple" = some none)
    (zc_LETTERS : PySem.W.nsIn K mainGlobals "LETTERS" = some (some (.str "abcdefghijklmnopqrstuvwxyz" tk_LETTERS)))
    (zc_MOST_DEEP : PySem.W.nsIn K mainGlobals "MOST_DEEP" = some (some (.int 40 tk_MOST_DEEP)))
    (zc_MOST_NODES : PySem.W.nsIn K mainGlobals "MOST_NODES" = some (some (.int 4000 tk_MOST_NODES)))
    (zc_MOST_RANK : PySem.W.nsIn K mainGlobals "MOST_RANK" = some (some (.int 3 tk_MOST_RANK)))
    (zc_MOST_SIGNS : PySem.W.nsIn K mainGlobals "MOST_SIGNS" = some (some (.int 8 tk_MOST_SIGNS)))
    (ns_TreeError : PySem.W.nsIn K mainGlobals "TreeError" = some (some (.ref A_TreeError)))
    (xx_TreeError : PySem.W.excIn K A_TreeError [.type "ValueError", .type "Exception", .type "BaseException", .type "object"] "ValueError.__new__" = true)
    (kk_TreeError : PySem.W.keepIn K (.ref A_TreeError) = true)
    (sb_TreeError : PySem.W.subIn K (.ref A_TreeError) (.type "BaseException") = some true)
    (tt_TreeError : PySem.W.typeIn K (.ref A_TreeError) = some (.type "type"))
    (e1_TreeError : PySem.W.findIn K (.ref A_TreeError) "__getattribute__" = some (some (.builtin "BaseException.__getattribute__")))
    (e2_TreeError : PySem.W.findIn K (.ref A_TreeError) "__getattr__" = some none)
    (e3_TreeError : PySem.W.hasDictIn K A_TreeError = true)
    (e4_TreeError : PySem.W.findIn K (.ref A_TreeError) "__class__" = some (some (.builtin "object.__class__")))
    (e7_TreeError : PySem.W.mroIn K A_TreeError (.type "object") = some true)
    (ns_BadTree : PySem.W.nsIn K mainGlobals "BadTree" = some (some (.ref A_BadTree)))
    (xx_BadTree : PySem.W.excIn K A_BadTree [.type "ValueError", .type "Exception", .type "BaseException", .type "object"] "ValueError.__new__" = true)
    (kk_BadTree : PySem.W.keepIn K (.ref A_BadTree) = true)
    (sb_BadTree : PySem.W.subIn K (.ref A_BadTree) (.type "BaseException") = some true)
    (tt_BadTree : PySem.W.typeIn K (.ref A_BadTree) = some (.type "type"))
    (e1_BadTree : PySem.W.findIn K (.ref A_BadTree) "__getattribute__" = some (some (.builtin "BaseException.__getattribute__")))
    (e2_BadTree : PySem.W.findIn K (.ref A_BadTree) "__getattr__" = some none)
    (e3_BadTree : PySem.W.hasDictIn K A_BadTree = true)
    (e4_BadTree : PySem.W.findIn K (.ref A_BadTree) "__class__" = some (some (.builtin "object.__class__")))
    (e7_BadTree : PySem.W.mroIn K A_BadTree (.type "object") = some true)
    (ns_BadRanks : PySem.W.nsIn K mainGlobals "BadRanks" = some (some (.ref A_BadRanks)))
    (xx_BadRanks : PySem.W.excIn K A_BadRanks [.type "ValueError", .type "Exception", .type "BaseException", .type "object"] "ValueError.__new__" = true)
    (kk_BadRanks : PySem.W.keepIn K (.ref A_BadRanks) = true)
    (sb_BadRanks : PySem.W.subIn K (.ref A_BadRanks) (.type "BaseException") = some true)
    (tt_BadRanks : PySem.W.typeIn K (.ref A_BadRanks) = some (.type "type"))
    (e1_BadRanks : PySem.W.findIn K (.ref A_BadRanks) "__getattribute__" = some (some (.builtin "BaseException.__getattribute__")))
    (e2_BadRanks : PySem.W.findIn K (.ref A_BadRanks) "__getattr__" = some none)
    (e3_BadRanks : PySem.W.hasDictIn K A_BadRanks = true)
    (e4_BadRanks : PySem.W.findIn K (.ref A_BadRanks) "__class__" = some (some (.builtin "object.__class__")))
    (e7_BadRanks : PySem.W.mroIn K A_BadRanks (.type "object") = some true)
    (e5 : PySem.W.specialIn K (.builtin "object.__class__") "__get__" = some (some (.builtin "getset_descriptor.__get__")))
    (e6 : PySem.W.takesIn K (.builtin "object.__class__") = some true)
    (em_TreeError_TreeError : PySem.W.exmOne K (.ref A_TreeError) (.ref A_TreeError) = some true)
    (em_BadTree_TreeError : PySem.W.exmOne K (.ref A_BadTree) (.ref A_TreeError) = some true)
    (em_BadRanks_TreeError : PySem.W.exmOne K (.ref A_BadRanks) (.ref A_TreeError) = some true)
    (ki_TreeError_BadRanks : PySem.W.kitOne K (.ref A_TreeError) (.ref A_BadRanks) = some false)
    (ki_BadTree_BadRanks : PySem.W.kitOne K (.ref A_BadTree) (.ref A_BadRanks) = some false)
    (ki_BadRanks_BadRanks : PySem.W.kitOne K (.ref A_BadRanks) (.ref A_BadRanks) = some true)
    (ki_TreeError_BadTree : PySem.W.kitOne K (.ref A_TreeError) (.ref A_BadTree) = some false)
    (ki_BadTree_BadTree : PySem.W.kitOne K (.ref A_BadTree) (.ref A_BadTree) = some true)
    (ki_BadRanks_BadTree : PySem.W.kitOne K (.ref A_BadRanks) (.ref A_BadTree) = some false)
    (ki_TreeError_TreeError : PySem.W.kitOne K (.ref A_TreeError) (.ref A_TreeError) = some true)
    (ki_BadTree_TreeError : PySem.W.kitOne K (.ref A_BadTree) (.ref A_TreeError) = some true)
    (ki_BadRanks_TreeError : PySem.W.kitOne K (.ref A_BadRanks) (.ref A_TreeError) = some true)
    (ns_is_integer : PySem.W.nsIn K mainGlobals "is_integer" = some (some (.ref A_is_integer)))
    (lk_is_integer : K.lookup A_is_integer = some ⟨oc_is_integer, od_is_integer, .func (PySem.W.fnOf "is_integer" "is_integer" (defArgs s_is_integer) (defBody s_is_integer) (defScope s_is_integer) .none kV_is_integer dc_is_integer pm_is_integer an_is_integer cd_is_integer ct_is_integer), sl_is_integer⟩)
    (co_is_integer : PySem.W.codeIn K cd_is_integer "is_integer" = true)
    (kk_is_integer : PySem.W.keepIn K (.ref A_is_integer) = true)
    (ns_is_sign : PySem.W.nsIn K mainGlobals "is_sign" = some (some (.ref A_is_sign)))
    (lk_is_sign : K.lookup A_is_sign = some ⟨oc_is_sign, od_is_sign, .func (PySem.W.fnOf "is_sign" "is_sign" (defArgs s_is_sign) (defBody s_is_sign) (defScope s_is_sign) .none kV_is_sign dc_is_sign pm_is_sign an_is_sign cd_is_sign ct_is_sign), sl_is_sign⟩)
    (co_is_sign : PySem.W.codeIn K cd_is_sign "is_sign" = true)
    (kk_is_sign : PySem.W.keepIn K (.ref A_is_sign) = true)
    (ns_are_ranks : PySem.W.nsIn K mainGlobals "are_ranks" = some (some (.ref A_are_ranks)))
    (lk_are_ranks : K.lookup A_are_ranks = some ⟨oc_are_ranks, od_are_ranks, .func (PySem.W.fnOf "are_ranks" "are_ranks" (defArgs s_are_ranks) (defBody s_are_ranks) (defScope s_are_ranks) .none kV_are_ranks dc_are_ranks pm_are_ranks an_are_ranks cd_are_ranks ct_are_ranks), sl_are_ranks⟩)
    (co_are_ranks : PySem.W.codeIn K cd_are_ranks "are_ranks" = true)
    (kk_are_ranks : PySem.W.keepIn K (.ref A_are_ranks) = true)
    (ns_look_at_ranks : PySem.W.nsIn K mainGlobals "look_at_ranks" = some (some (.ref A_look_at_ranks)))
    (lk_look_at_ranks : K.lookup A_look_at_ranks = some ⟨oc_look_at_ranks, od_look_at_ranks, .func (PySem.W.fnOf "look_at_ranks" "look_at_ranks" (defArgs s_look_at_ranks) (defBody s_look_at_ranks) (defScope s_look_at_ranks) .none kV_look_at_ranks dc_look_at_ranks pm_look_at_ranks an_look_at_ranks cd_look_at_ranks ct_look_at_ranks), sl_look_at_ranks⟩)
    (co_look_at_ranks : PySem.W.codeIn K cd_look_at_ranks "look_at_ranks" = true)
    (kk_look_at_ranks : PySem.W.keepIn K (.ref A_look_at_ranks) = true)
    (ns_is_tree : PySem.W.nsIn K mainGlobals "is_tree" = some (some (.ref A_is_tree)))
    (lk_is_tree : K.lookup A_is_tree = some ⟨oc_is_tree, od_is_tree, .func (PySem.W.fnOf "is_tree" "is_tree" (defArgs s_is_tree) (defBody s_is_tree) (defScope s_is_tree) .none kV_is_tree dc_is_tree pm_is_tree an_is_tree cd_is_tree ct_is_tree), sl_is_tree⟩)
    (co_is_tree : PySem.W.codeIn K cd_is_tree "is_tree" = true)
    (kk_is_tree : PySem.W.keepIn K (.ref A_is_tree) = true)
    (ns_look_at_tree : PySem.W.nsIn K mainGlobals "look_at_tree" = some (some (.ref A_look_at_tree)))
    (lk_look_at_tree : K.lookup A_look_at_tree = some ⟨oc_look_at_tree, od_look_at_tree, .func (PySem.W.fnOf "look_at_tree" "look_at_tree" (defArgs s_look_at_tree) (defBody s_look_at_tree) (defScope s_look_at_tree) .none kV_look_at_tree dc_look_at_tree pm_look_at_tree an_look_at_tree cd_look_at_tree ct_look_at_tree), sl_look_at_tree⟩)
    (co_look_at_tree : PySem.W.codeIn K cd_look_at_tree "look_at_tree" = true)
    (kk_look_at_tree : PySem.W.keepIn K (.ref A_look_at_tree) = true)
    (ns__law_draws : PySem.W.nsIn K mainGlobals "_law_draws" = some (some (.ref A__law_draws)))
    (lk__law_draws : K.lookup A__law_draws = some ⟨oc__law_draws, od__law_draws, .func (PySem.W.fnOf "_law_draws" "_law_draws" (defArgs s__law_draws) (defBody s__law_draws) (defScope s__law_draws) .none kV__law_draws dc__law_draws pm__law_draws an__law_draws cd__law_draws ct__law_draws), sl__law_draws⟩)
    (co__law_draws : PySem.W.codeIn K cd__law_draws "_law_draws" = true)
    (kk__law_draws : PySem.W.keepIn K (.ref A__law_draws) = true)
    (ns__law_draw : PySem.W.nsIn K mainGlobals "_law_draw" = some (some (.ref A__law_draw)))
    (lk__law_draw : K.lookup A__law_draw = some ⟨oc__law_draw, od__law_draw, .func (PySem.W.fnOf "_law_draw" "_law_draw" (defArgs s__law_draw) (defBody s__law_draw) (defScope s__law_draw) .none kV__law_draw dc__law_draw pm__law_draw an__law_draw cd__law_draw ct__law_draw), sl__law_draw⟩)
    (co__law_draw : PySem.W.codeIn K cd__law_draw "_law_draw" = true)
    (kk__law_draw : PySem.W.keepIn K (.ref A__law_draw) = true)
    (ns__law_same : PySem.W.nsIn K mainGlobals "_law_same" = some (some (.ref A__law_same)))
    (lk__law_same : K.lookup A__law_same = some ⟨oc__law_same, od__law_same, .func (PySem.W.fnOf "_law_same" "_law_same" (defArgs s__law_same) (defBody s__law_same) (defScope s__law_same) .none kV__law_same dc__law_same pm__law_same an__law_same cd__law_same ct__law_same), sl__law_same⟩)
    (co__law_same : PySem.W.codeIn K cd__law_same "_law_same" = true)
    (kk__law_same : PySem.W.keepIn K (.ref A__law_same) = true)
    (ns__law_ranks : PySem.W.nsIn K mainGlobals "_law_ranks" = some (some (.ref A__law_ranks)))
    (lk__law_ranks : K.lookup A__law_ranks = some ⟨oc__law_ranks, od__law_ranks, .func (PySem.W.fnOf "_law_ranks" "_law_ranks" (defArgs s__law_ranks) (defBody s__law_ranks) (defScope s__law_ranks) .none kV__law_ranks dc__law_ranks pm__law_ranks an__law_ranks cd__law_ranks ct__law_ranks), sl__law_ranks⟩)
    (co__law_ranks : PySem.W.codeIn K cd__law_ranks "_law_ranks" = true)
    (kk__law_ranks : PySem.W.keepIn K (.ref A__law_ranks) = true)
    (ns__law_tree : PySem.W.nsIn K mainGlobals "_law_tree" = some (some (.ref A__law_tree)))
    (lk__law_tree : K.lookup A__law_tree = some ⟨oc__law_tree, od__law_tree, .func (PySem.W.fnOf "_law_tree" "_law_tree" (defArgs s__law_tree) (defBody s__law_tree) (defScope s__law_tree) .none kV__law_tree dc__law_tree pm__law_tree an__law_tree cd__law_tree ct__law_tree), sl__law_tree⟩)
    (co__law_tree : PySem.W.codeIn K cd__law_tree "_law_tree" = true)
    (kk__law_tree : PySem.W.keepIn K (.ref A__law_tree) = true)
    (ns__law_nodes : PySem.W.nsIn K mainGlobals "_law_nodes" = some (some (.ref A__law_nodes)))
    (lk__law_nodes : K.lookup A__law_nodes = some ⟨oc__law_nodes, od__law_nodes, .func (PySem.W.fnOf "_law_nodes" "_law_nodes" (defArgs s__law_nodes) (defBody s__law_nodes) (defScope s__law_nodes) .none kV__law_nodes dc__law_nodes pm__law_nodes an__law_nodes cd__law_nodes ct__law_nodes), sl__law_nodes⟩)
    (co__law_nodes : PySem.W.codeIn K cd__law_nodes "_law_nodes" = true)
    (kk__law_nodes : PySem.W.keepIn K (.ref A__law_nodes) = true)
    (ns__law_is_sign : PySem.W.nsIn K mainGlobals "_law_is_sign" = some (some (.ref A__law_is_sign)))
    (lk__law_is_sign : K.lookup A__law_is_sign = some ⟨oc__law_is_sign, od__law_is_sign, .func (PySem.W.fnOf "_law_is_sign" "_law_is_sign" (defArgs s__law_is_sign) (defBody s__law_is_sign) (defScope s__law_is_sign) .none kV__law_is_sign dc__law_is_sign pm__law_is_sign an__law_is_sign cd__law_is_sign ct__law_is_sign), sl__law_is_sign⟩)
    (co__law_is_sign : PySem.W.codeIn K cd__law_is_sign "_law_is_sign" = true)
    (kk__law_is_sign : PySem.W.keepIn K (.ref A__law_is_sign) = true)
    (ns__law_number : PySem.W.nsIn K mainGlobals "_law_number" = some (some (.ref A__law_number)))
    (lk__law_number : K.lookup A__law_number = some ⟨oc__law_number, od__law_number, .func (PySem.W.fnOf "_law_number" "_law_number" (defArgs s__law_number) (defBody s__law_number) (defScope s__law_number) .none kV__law_number dc__law_number pm__law_number an__law_number cd__law_number ct__law_number), sl__law_number⟩)
    (co__law_number : PySem.W.codeIn K cd__law_number "_law_number" = true)
    (kk__law_number : PySem.W.keepIn K (.ref A__law_number) = true)
    (ns__law_are_ranks : PySem.W.nsIn K mainGlobals "_law_are_ranks" = some (some (.ref A__law_are_ranks)))
    (lk__law_are_ranks : K.lookup A__law_are_ranks = some ⟨oc__law_are_ranks, od__law_are_ranks, .func (PySem.W.fnOf "_law_are_ranks" "_law_are_ranks" (defArgs s__law_are_ranks) (defBody s__law_are_ranks) (defScope s__law_are_ranks) .none kV__law_are_ranks dc__law_are_ranks pm__law_are_ranks an__law_are_ranks cd__law_are_ranks ct__law_are_ranks), sl__law_are_ranks⟩)
    (co__law_are_ranks : PySem.W.codeIn K cd__law_are_ranks "_law_are_ranks" = true)
    (kk__law_are_ranks : PySem.W.keepIn K (.ref A__law_are_ranks) = true)
    (ns__law_is_tree : PySem.W.nsIn K mainGlobals "_law_is_tree" = some (some (.ref A__law_is_tree)))
    (lk__law_is_tree : K.lookup A__law_is_tree = some ⟨oc__law_is_tree, od__law_is_tree, .func (PySem.W.fnOf "_law_is_tree" "_law_is_tree" (defArgs s__law_is_tree) (defBody s__law_is_tree) (defScope s__law_is_tree) .none kV__law_is_tree dc__law_is_tree pm__law_is_tree an__law_is_tree cd__law_is_tree ct__law_is_tree), sl__law_is_tree⟩)
    (co__law_is_tree : PySem.W.codeIn K cd__law_is_tree "_law_is_tree" = true)
    (kk__law_is_tree : PySem.W.keepIn K (.ref A__law_is_tree) = true)
    (ns__law_asked : PySem.W.nsIn K mainGlobals "_law_asked" = some (some (.ref A__law_asked)))
    (lk__law_asked : K.lookup A__law_asked = some ⟨oc__law_asked, od__law_asked, .func (PySem.W.fnOf "_law_asked" "_law_asked" (defArgs s__law_asked) (defBody s__law_asked) (defScope s__law_asked) .none kV__law_asked dc__law_asked pm__law_asked an__law_asked cd__law_asked ct__law_asked), sl__law_asked⟩)
    (co__law_asked : PySem.W.codeIn K cd__law_asked "_law_asked" = true)
    (kk__law_asked : PySem.W.keepIn K (.ref A__law_asked) = true)
    (ns__law_changed : PySem.W.nsIn K mainGlobals "_law_changed" = some (some (.ref A__law_changed)))
    (lk__law_changed : K.lookup A__law_changed = some ⟨oc__law_changed, od__law_changed, .func (PySem.W.fnOf "_law_changed" "_law_changed" (defArgs s__law_changed) (defBody s__law_changed) (defScope s__law_changed) .none kV__law_changed dc__law_changed pm__law_changed an__law_changed cd__law_changed ct__law_changed), sl__law_changed⟩)
    (co__law_changed : PySem.W.codeIn K cd__law_changed "_law_changed" = true)
    (kk__law_changed : PySem.W.keepIn K (.ref A__law_changed) = true)
    (ns_law : PySem.W.nsIn K mainGlobals "law" = some (some (.ref A_law)))
    (lk_law : K.lookup A_law = some ⟨oc_law, od_law, .func (PySem.W.fnOf "law" "law" (defArgs s_law) (defBody s_law) (defScope s_law) .none kV_law dc_law pm_law an_law cd_law ct_law), sl_law⟩)
    (co_law : PySem.W.codeIn K cd_law "law" = true)
    (kk_law : PySem.W.keepIn K (.ref A_law) = true)
    : Txt K mg where
  n_all := PySem.W.mg_none_of X G zb_all
  n_bool := PySem.W.mg_none_of X G zb_bool
  n_dict := PySem.W.mg_none_of X G zb_dict
  n_int := PySem.W.mg_none_of X G zb_int
  n_isinstance := PySem.W.mg_none_of X G zb_isinstance
  n_len := PySem.W.mg_none_of X G zb_len
  n_list := PySem.W.mg_none_of X G zb_list
  n_range := PySem.W.mg_none_of X G zb_range
  n_set := PySem.W.mg_none_of X G zb_set
  n_sorted := PySem.W.mg_none_of X G zb_sorted
  n_str := PySem.W.mg_none_of X G zb_str
  n_tuple := PySem.W.mg_none_of X G zb_tuple
  t_LETTERS := _
  c_LETTERS := PySem.W.mg_of X G zc_LETTERS
  t_MOST_DEEP := _
  c_MOST_DEEP := PySem.W.mg_of X G zc_MOST_DEEP
  t_MOST_NODES := _
  c_MOST_NODES := PySem.W.mg_of X G zc_MOST_NODES
  t_MOST_RANK := _
  c_MOST_RANK := PySem.W.mg_of X G zc_MOST_RANK
  t_MOST_SIGNS := _
  c_MOST_SIGNS := PySem.W.mg_of X G zc_MOST_SIGNS
  a_TreeError := A_TreeError
  g_TreeError := PySem.W.mg_of X G ns_TreeError
  x_TreeError := xx_TreeError
  kp_TreeError := kk_TreeError
  bx_TreeError := sb_TreeError
  ty_TreeError := tt_TreeError
  ec_TreeError := ⟨e1_TreeError, e2_TreeError, sb_TreeError, e3_TreeError, e4_TreeError, e5, e6, e7_TreeError⟩
  a_BadTree := A_BadTree
  g_BadTree := PySem.W.mg_of X G ns_BadTree
  x_BadTree := xx_BadTree
  kp_BadTree := kk_BadTree
  bx_BadTree := sb_BadTree
  ty_BadTree := tt_BadTree
  ec_BadTree := ⟨e1_BadTree, e2_BadTree, sb_BadTree, e3_BadTree, e4_BadTree, e5, e6, e7_BadTree⟩
  a_BadRanks := A_BadRanks
  g_BadRanks := PySem.W.mg_of X G ns_BadRanks
  x_BadRanks := xx_BadRanks
  kp_BadRanks := kk_BadRanks
  bx_BadRanks := sb_BadRanks
  ty_BadRanks := tt_BadRanks
  ec_BadRanks := ⟨e1_BadRanks, e2_BadRanks, sb_BadRanks, e3_BadRanks, e4_BadRanks, e5, e6, e7_BadRanks⟩
  em_TreeError_TreeError := em_TreeError_TreeError
  em_BadTree_TreeError := em_BadTree_TreeError
  em_BadRanks_TreeError := em_BadRanks_TreeError
  ki_TreeError_BadRanks := ki_TreeError_BadRanks
  ki_BadTree_BadRanks := ki_BadTree_BadRanks
  ki_BadRanks_BadRanks := ki_BadRanks_BadRanks
  ki_TreeError_BadTree := ki_TreeError_BadTree
  ki_BadTree_BadTree := ki_BadTree_BadTree
  ki_BadRanks_BadTree := ki_BadRanks_BadTree
  ki_TreeError_TreeError := ki_TreeError_TreeError
  ki_BadTree_TreeError := ki_BadTree_TreeError
  ki_BadRanks_TreeError := ki_BadRanks_TreeError
  a_is_integer := A_is_integer
  d_is_integer := (PySem.W.fnOf "is_integer" "is_integer" (defArgs s_is_integer) (defBody s_is_integer) (defScope s_is_integer) .none kV_is_integer dc_is_integer pm_is_integer an_is_integer cd_is_integer ct_is_integer)
  F_is_integer := fun_mk (st := s_is_integer) lk_is_integer co_is_integer kk_is_integer
  g_is_integer := PySem.W.mg_of X G ns_is_integer
  kp_is_integer := kk_is_integer
  b_is_integer := (fun_mk (st := s_is_integer) lk_is_integer co_is_integer kk_is_integer).binds (ps := p_is_integer) fun _ _ _ _ _ _ us hl => match us, hl with | [_], _ => rfl
  a_is_sign := A_is_sign
  d_is_sign := (PySem.W.fnOf "is_sign" "is_sign" (defArgs s_is_sign) (defBody s_is_sign) (defScope s_is_sign) .none kV_is_sign dc_is_sign pm_is_sign an_is_sign cd_is_sign ct_is_sign)
  F_is_sign := fun_mk (st := s_is_sign) lk_is_sign co_is_sign kk_is_sign
  g_is_sign := PySem.W.mg_of X G ns_is_sign
  kp_is_sign := kk_is_sign
  b_is_sign := (fun_mk (st := s_is_sign) lk_is_sign co_is_sign kk_is_sign).binds (ps := p_is_sign) fun _ _ _ _ _ _ us hl => match us, hl with | [_], _ => rfl
  a_are_ranks := A_are_ranks
  d_are_ranks := (PySem.W.fnOf "are_ranks" "are_ranks" (defArgs s_are_ranks) (defBody s_are_ranks) (defScope s_are_ranks) .none kV_are_ranks dc_are_ranks pm_are_ranks an_are_ranks cd_are_ranks ct_are_ranks)
  F_are_ranks := fun_mk (st := s_are_ranks) lk_are_ranks co_are_ranks kk_are_ranks
  g_are_ranks := PySem.W.mg_of X G ns_are_ranks
  kp_are_ranks := kk_are_ranks
  b_are_ranks := (fun_mk (st := s_are_ranks) lk_are_ranks co_are_ranks kk_are_ranks).binds (ps := p_are_ranks) fun _ _ _ _ _ _ us hl => match us, hl with | [_], _ => rfl
  a_look_at_ranks := A_look_at_ranks
  d_look_at_ranks := (PySem.W.fnOf "look_at_ranks" "look_at_ranks" (defArgs s_look_at_ranks) (defBody s_look_at_ranks) (defScope s_look_at_ranks) .none kV_look_at_ranks dc_look_at_ranks pm_look_at_ranks an_look_at_ranks cd_look_at_ranks ct_look_at_ranks)
  F_look_at_ranks := fun_mk (st := s_look_at_ranks) lk_look_at_ranks co_look_at_ranks kk_look_at_ranks
  g_look_at_ranks := PySem.W.mg_of X G ns_look_at_ranks
  kp_look_at_ranks := kk_look_at_ranks
  b_look_at_ranks := (fun_mk (st := s_look_at_ranks) lk_look_at_ranks co_look_at_ranks kk_look_at_ranks).binds (ps := p_look_at_ranks) fun _ _ _ _ _ _ us hl => match us, hl with | [_], _ => rfl
  a_is_tree := A_is_tree
  d_is_tree := (PySem.W.fnOf "is_tree" "is_tree" (defArgs s_is_tree) (defBody s_is_tree) (defScope s_is_tree) .none kV_is_tree dc_is_tree pm_is_tree an_is_tree cd_is_tree ct_is_tree)
  F_is_tree := fun_mk (st := s_is_tree) lk_is_tree co_is_tree kk_is_tree
  g_is_tree := PySem.W.mg_of X G ns_is_tree
  kp_is_tree := kk_is_tree
  b_is_tree := (fun_mk (st := s_is_tree) lk_is_tree co_is_tree kk_is_tree).binds (ps := p_is_tree) fun _ _ _ _ _ _ us hl => match us, hl with | [_, _], _ => rfl
  a_look_at_tree := A_look_at_tree
  d_look_at_tree := (PySem.W.fnOf "look_at_tree" "look_at_tree" (defArgs s_look_at_tree) (defBody s_look_at_tree) (defScope s_look_at_tree) .none kV_look_at_tree dc_look_at_tree pm_look_at_tree an_look_at_tree cd_look_at_tree ct_look_at_tree)
  F_look_at_tree := fun_mk (st := s_look_at_tree) lk_look_at_tree co_look_at_tree kk_look_at_tree
  g_look_at_tree := PySem.W.mg_of X G ns_look_at_tree
  kp_look_at_tree := kk_look_at_tree
  b_look_at_tree := (fun_mk (st := s_look_at_tree) lk_look_at_tree co_look_at_tree kk_look_at_tree).binds (ps := p_look_at_tree) fun _ _ _ _ _ _ us hl => match us, hl with | [_, _], _ => rfl
  a__law_draws := A__law_draws
  d__law_draws := (PySem.W.fnOf "_law_draws" "_law_draws" (defArgs s__law_draws) (defBody s__law_draws) (defScope s__law_draws) .none kV__law_draws dc__law_draws pm__law_draws an__law_draws cd__law_draws ct__law_draws)
  F__law_draws := fun_mk (st := s__law_draws) lk__law_draws co__law_draws kk__law_draws
  g__law_draws := PySem.W.mg_of X G ns__law_draws
  kp__law_draws := kk__law_draws
  b__law_draws := (fun_mk (st := s__law_draws) lk__law_draws co__law_draws kk__law_draws).binds (ps := p__law_draws) fun _ _ _ _ _ _ us hl => match us, hl with | [_], _ => rfl
  a__law_draw := A__law_draw
  d__law_draw := (PySem.W.fnOf "_law_draw" "_law_draw" (defArgs s__law_draw) (defBody s__law_draw) (defScope s__law_draw) .none kV__law_draw dc__law_draw pm__law_draw an__law_draw cd__law_draw ct__law_draw)
  F__law_draw := fun_mk (st := s__law_draw) lk__law_draw co__law_draw kk__law_draw
  g__law_draw := PySem.W.mg_of X G ns__law_draw
  kp__law_draw := kk__law_draw
  b__law_draw := (fun_mk (st := s__law_draw) lk__law_draw co__law_draw kk__law_draw).binds (ps := p__law_draw) fun _ _ _ _ _ _ us hl => match us, hl with | [_, _], _ => rfl
  a__law_same := A__law_same
  d__law_same := (PySem.W.fnOf "_law_same" "_law_same" (defArgs s__law_same) (defBody s__law_same) (defScope s__law_same) .none kV__law_same dc__law_same pm__law_same an__law_same cd__law_same ct__law_same)
  F__law_same := fun_mk (st := s__law_same) lk__law_same co__law_same kk__law_same
  g__law_same := PySem.W.mg_of X G ns__law_same
  kp__law_same := kk__law_same
  b__law_same := (fun_mk (st := s__law_same) lk__law_same co__law_same kk__law_same).binds (ps := p__law_same) fun _ _ _ _ _ _ us hl => match us, hl with | [_, _], _ => rfl
  a__law_ranks := A__law_ranks
  d__law_ranks := (PySem.W.fnOf "_law_ranks" "_law_ranks" (defArgs s__law_ranks) (defBody s__law_ranks) (defScope s__law_ranks) .none kV__law_ranks dc__law_ranks pm__law_ranks an__law_ranks cd__law_ranks ct__law_ranks)
  F__law_ranks := fun_mk (st := s__law_ranks) lk__law_ranks co__law_ranks kk__law_ranks
  g__law_ranks := PySem.W.mg_of X G ns__law_ranks
  kp__law_ranks := kk__law_ranks
  b__law_ranks := (fun_mk (st := s__law_ranks) lk__law_ranks co__law_ranks kk__law_ranks).binds (ps := p__law_ranks) fun _ _ _ _ _ _ us hl => match us, hl with | [_], _ => rfl
  a__law_tree := A__law_tree
  d__law_tree := (PySem.W.fnOf "_law_tree" "_law_tree" (defArgs s__law_tree) (defBody s__law_tree) (defScope s__law_tree) .none kV__law_tree dc__law_tree pm__law_tree an__law_tree cd__law_tree ct__law_tree)
  F__law_tree := fun_mk (st := s__law_tree) lk__law_tree co__law_tree kk__law_tree
  g__law_tree := PySem.W.mg_of X G ns__law_tree
  kp__law_tree := kk__law_tree
  b__law_tree := (fun_mk (st := s__law_tree) lk__law_tree co__law_tree kk__law_tree).binds (ps := p__law_tree) fun _ _ _ _ _ _ us hl => match us, hl with | [_, _, _], _ => rfl
  a__law_nodes := A__law_nodes
  d__law_nodes := (PySem.W.fnOf "_law_nodes" "_law_nodes" (defArgs s__law_nodes) (defBody s__law_nodes) (defScope s__law_nodes) .none kV__law_nodes dc__law_nodes pm__law_nodes an__law_nodes cd__law_nodes ct__law_nodes)
  F__law_nodes := fun_mk (st := s__law_nodes) lk__law_nodes co__law_nodes kk__law_nodes
  g__law_nodes := PySem.W.mg_of X G ns__law_nodes
  kp__law_nodes := kk__law_nodes
  b__law_nodes := (fun_mk (st := s__law_nodes) lk__law_nodes co__law_nodes kk__law_nodes).binds (ps := p__law_nodes) fun _ _ _ _ _ _ us hl => match us, hl with | [_], _ => rfl
  a__law_is_sign := A__law_is_sign
  d__law_is_sign := (PySem.W.fnOf "_law_is_sign" "_law_is_sign" (defArgs s__law_is_sign) (defBody s__law_is_sign) (defScope s__law_is_sign) .none kV__law_is_sign dc__law_is_sign pm__law_is_sign an__law_is_sign cd__law_is_sign ct__law_is_sign)
  F__law_is_sign := fun_mk (st := s__law_is_sign) lk__law_is_sign co__law_is_sign kk__law_is_sign
  g__law_is_sign := PySem.W.mg_of X G ns__law_is_sign
  kp__law_is_sign := kk__law_is_sign
  b__law_is_sign := (fun_mk (st := s__law_is_sign) lk__law_is_sign co__law_is_sign kk__law_is_sign).binds (ps := p__law_is_sign) fun _ _ _ _ _ _ us hl => match us, hl with | [_], _ => rfl
  a__law_number := A__law_number
  d__law_number := (PySem.W.fnOf "_law_number" "_law_number" (defArgs s__law_number) (defBody s__law_number) (defScope s__law_number) .none kV__law_number dc__law_number pm__law_number an__law_number cd__law_number ct__law_number)
  F__law_number := fun_mk (st := s__law_number) lk__law_number co__law_number kk__law_number
  g__law_number := PySem.W.mg_of X G ns__law_number
  kp__law_number := kk__law_number
  b__law_number := (fun_mk (st := s__law_number) lk__law_number co__law_number kk__law_number).binds (ps := p__law_number) fun _ _ _ _ _ _ us hl => match us, hl with | [_], _ => rfl
  a__law_are_ranks := A__law_are_ranks
  d__law_are_ranks := (PySem.W.fnOf "_law_are_ranks" "_law_are_ranks" (defArgs s__law_are_ranks) (defBody s__law_are_ranks) (defScope s__law_are_ranks) .none kV__law_are_ranks dc__law_are_ranks pm__law_are_ranks an__law_are_ranks cd__law_are_ranks ct__law_are_ranks)
  F__law_are_ranks := fun_mk (st := s__law_are_ranks) lk__law_are_ranks co__law_are_ranks kk__law_are_ranks
  g__law_are_ranks := PySem.W.mg_of X G ns__law_are_ranks
  kp__law_are_ranks := kk__law_are_ranks
  b__law_are_ranks := (fun_mk (st := s__law_are_ranks) lk__law_are_ranks co__law_are_ranks kk__law_are_ranks).binds (ps := p__law_are_ranks) fun _ _ _ _ _ _ us hl => match us, hl with | [_], _ => rfl
  a__law_is_tree := A__law_is_tree
  d__law_is_tree := (PySem.W.fnOf "_law_is_tree" "_law_is_tree" (defArgs s__law_is_tree) (defBody s__law_is_tree) (defScope s__law_is_tree) .none kV__law_is_tree dc__law_is_tree pm__law_is_tree an__law_is_tree cd__law_is_tree ct__law_is_tree)
  F__law_is_tree := fun_mk (st := s__law_is_tree) lk__law_is_tree co__law_is_tree kk__law_is_tree
  g__law_is_tree := PySem.W.mg_of X G ns__law_is_tree
  kp__law_is_tree := kk__law_is_tree
  b__law_is_tree := (fun_mk (st := s__law_is_tree) lk__law_is_tree co__law_is_tree kk__law_is_tree).binds (ps := p__law_is_tree) fun _ _ _ _ _ _ us hl => match us, hl with | [_, _], _ => rfl
  a__law_asked := A__law_asked
  d__law_asked := (PySem.W.fnOf "_law_asked" "_law_asked" (defArgs s__law_asked) (defBody s__law_asked) (defScope s__law_asked) .none kV__law_asked dc__law_asked pm__law_asked an__law_asked cd__law_asked ct__law_asked)
  F__law_asked := fun_mk (st := s__law_asked) lk__law_asked co__law_asked kk__law_asked
  g__law_asked := PySem.W.mg_of X G ns__law_asked
  kp__law_asked := kk__law_asked
  b__law_asked := (fun_mk (st := s__law_asked) lk__law_asked co__law_asked kk__law_asked).binds (ps := p__law_asked) fun _ _ _ _ _ _ us hl => match us, hl with | [_, _, _], _ => rfl
  a__law_changed := A__law_changed
  d__law_changed := (PySem.W.fnOf "_law_changed" "_law_changed" (defArgs s__law_changed) (defBody s__law_changed) (defScope s__law_changed) .none kV__law_changed dc__law_changed pm__law_changed an__law_changed cd__law_changed ct__law_changed)
  F__law_changed := fun_mk (st := s__law_changed) lk__law_changed co__law_changed kk__law_changed
  g__law_changed := PySem.W.mg_of X G ns__law_changed
  kp__law_changed := kk__law_changed
  b__law_changed := (fun_mk (st := s__law_changed) lk__law_changed co__law_changed kk__law_changed).binds (ps := p__law_changed) fun _ _ _ _ _ _ us hl => match us, hl with | [_, _], _ => rfl
  a_law := A_law
  d_law := (PySem.W.fnOf "law" "law" (defArgs s_law) (defBody s_law) (defScope s_law) .none kV_law dc_law pm_law an_law cd_law ct_law)
  F_law := fun_mk (st := s_law) lk_law co_law kk_law
  g_law := PySem.W.mg_of X G ns_law
  kp_law := kk_law
  b_law := (fun_mk (st := s_law) lk_law co_law kk_law).binds (ps := p_law) fun _ _ _ _ _ _ us hl => match us, hl with | [_], _ => rfl
  bb_law := fun s v => .of_eq rfl
theorem all_mk {P : Program} {w : World} {K : PySem.W.Frag} {mg : Str → Option Value} {fa : Addr} (T : Txt K mg) (hfa : mg "law" = some (.ref fa)) (plain : PlainOf f_law) :
    ∃ fd : FuncData, (∀ (s : Shared) (v : Value), BindsTo s fd ⟨[v], []⟩ [("script", v)]) ∧ ∀ base : Heap, K.In base → base.Ns mainGlobals mg → FnOk P w K mg base (L2.CX P w) 7 fa fd ["script"] (spLaw K) := by
  have e := hfa.symm.trans T.g_law
  cases e
  exact ⟨T.d_law, T.bb_law, fun base _ _ => (ok_law T).imp fun vs H Q E h => law_sp plain h⟩
theorem walk {l : PySem.W.OpenLaw} {q : Program} {loose : List Str} {XP : (Str → Option Value) → Heap → Prop} {YP : World → Heap → Prop} {d : DefRec} {K : Params → PySem.W.Frag} (hn : l.most = some 63) (hdf : d.params.defaults = []) (plain : PlainOf f_law)
    (hY : ∀ (w : World) (h : Heap), YP w h → (K w.params).In h)
    (F : ∀ (w : World) (mg : Str → Option Value) (fa : Addr) (h : Heap), (K w.params).In h → h.Ns mainGlobals mg → mg d.name = some (.ref fa) → Σ' (T : Txt (K w.params) mg), mg "law" = some (.ref fa)) :
    PySem.W.WalkO q loose XP YP l.row.toRowW d [] (fun f vs => PySem.call f vs) :=
  L2.walk_of (n := 63) (k := 7) (x := "script") (CX := fun w => L2.CX l.prog w) (sp := fun w => spLaw (K w.params)) hn (by decide) hdf ⟨rfl, by decide, by decide⟩ hY
    (fun w mg fa h KX G hm => all_mk (F w mg fa h KX G hm).1 (F w mg fa h KX G hm).2 plain) (fun _ _ a ns hl _ hS => ⟨a, ns, rfl, hS, hl, fun _ => rfl⟩) fun w => law_quiet _ w
end K00
end Mi
namespace Mi
open PySem PySem.Spec L2
open PyProof.Rows hiding St
local macro_rules | `(tactic| dsimp! only [$ls,*]) => `(tactic| (simp -dsimp only [xb_ok, xb_exc, xb_bad, xb_ite, xo_ok, xo_exc, xo_bad, xo_ite, xp_some, xp_none, xp_ite, xe_some, xe_none, xs_nx, xs_bk, xs_ct, xs_ret, xs_rnew, xs_exc, xs_bad, xs_ite,
     xf_ite, xk_ite, xm_seq, xm_fn, xm_call, xm_callN, xm_and, xm_or, xk_and, xk_or, xa_0, xa_1, xa_n, xa_nat, xi_n, xi_nat, Int.ofNat_lt, Int.ofNat_le,
     xf_ret, xf_rnew, xf_nx, xf_exc, xf_bad, xk_ret, xk_exc, xk_bad, xn_new, xn_exc, finS, backE, argSlots, mutIx, frzAt, xm_skip, xm_drop, xm_ret, xm_retN, xm_retF, xm_ifS, xm_asg, xm_asgNew, xm_lstC, xm_mut, xm_set, xm_aug, xm_pre, xm_C, xm_nm, xm_ex, xm_val, xm_nil, xm_cons, xm_bin, xm_binF, xm_un, xm_isi, xm_callD, xm_callF, xm_owns, xm_isT, xm_andT, xm_orT, xm_not, xm_notV, xm_if, xm_meth, xm_slice, xm_noP, xm_P, xm_chain, xk_chain, xm_fr, xm_frL, xm_raise, xm_yes, xm_newD, xg_N, xg_nil, xg_cons, xg_T,
     slotD, slotV, Arg.rd, Arg.own, rds, owns, Cell.frz, Cell.ty, dTup, dLst, dAdd, dSub, dMod, dDiv, dPow, dMulI, dMul, dInts, dNeg, dLt, dLe, dGt, dGe, dCmpI, dIxD, dIx, dIs, dIsNot, D.isNon, dLen, isTy, dIntOf, dListOf, dTupOf, cAppend, xpop, cSetX, cSetL, dAddI,
     List.length_cons, List.length_nil, List.getElem?_cons_zero, List.getElem?_cons_succ, List.getElem?_nil, List.set_cons_zero, List.set_cons_succ, List.set_nil, List.cons_append, List.nil_append, List.append_nil, List.replicate, List.nodup_cons, List.not_mem_nil, List.nodup_nil, List.mem_singleton,
     Option.map_some, Option.map_none, Option.bind_some, Option.bind_none, if_true, if_false, ite_true, ite_false, reduceIte, reduceCtorEq, not_false_eq_true, not_true_eq_false, and_true, true_and, and_false, false_and, or_true, true_or, or_false, false_or, decide_eq_true_eq, Bool.not_true, Bool.not_false, Bool.true_eq_false, Bool.false_eq_true, Nat.reduceAdd, Nat.reduceSub, Nat.reduceEqDiff, Nat.reduceLeDiff, Nat.reduceLT, Nat.reduceMul, Int.reduceAdd, Int.reduceLT, Int.reduceLE, Int.reduceNeg, Int.reduceSub, Int.reduceToNat, Int.reducePow, Int.reduceMul, Int.natCast_add, Int.cast_ofNat_Int, Int.sub_zero, gt_iff_lt, ge_iff_le, String.reduceEq, String.reduceBEq, beq_self_eq_true, Nat.zero_add, sizeLine, Nat.reducePow, decide_true, decide_false, $ls,*]))
namespace K00
theorem draw_eq (s : DS) (n : Int) (h : 0 < n) (h2 : n < 1073741824) : f__law_draw [.cel false s.c, .val (.int n)] = .ret (.int (s.val n)) [.cel false (s.next n).c, .val (.int n)] := by
  obtain ⟨sc, pos, big, seed⟩ := s
  have hd : ∀ i, CDiv i n := fun _ => ⟨h, h2⟩
  have hm1 : ∀ i : Int, CMul i 48271 := fun i => cmul_r (by decide) (by decide)
  have hm2 : ∀ i : Int, CMul i 69621 := fun i => cmul_r (by decide) (by decide)
  have hd2 : ∀ i : Int, CDiv i 11 := fun i => ⟨by decide, by decide⟩
  have e1 : (sc.map D.int)[pos]? = if pos < sc.length then some (.int (sc.getD pos 0)) else none := by
    split
    · simp [*]
    · rw [List.getElem?_eq_none (by rw [List.length_map]; omega)]
  by_cases hp : big = 0 ∧ pos < sc.length
  · obtain ⟨hb, hp⟩ := hp
    subst hb
    by_cases hc : (1000000000000000000 : Int) ≤ sc.getD pos 0
    · have hc2 : 0 < sc.getD pos 0 := by omega
      dsimp! only [f__law_draw, m__law_draw, DS.c, eq_ii, List.length_map, e1, hp, hc, hc2, h, hd, hm1, hm2, hd2, cpow_18, DS.val, DS.next, DS.fill]
    · have hc2 : ¬ (0 : Int) < 0 := by omega
      dsimp! only [f__law_draw, m__law_draw, DS.c, eq_ii, List.length_map, e1, hp, hc, hc2, h, hd, hm1, hm2, hd2, cpow_18, DS.val, DS.next, DS.fill]
  · by_cases hb : big = 0
    · subst hb
      have hp : ¬ pos < sc.length := fun q => hp ⟨rfl, q⟩
      have hc2 : ¬ (0 : Int) < 0 := by omega
      dsimp! only [f__law_draw, m__law_draw, DS.c, eq_ii, List.length_map, e1, hp, hc2, h, hd, hm1, hm2, hd2, cpow_18, DS.val, DS.next, DS.fill]
    · by_cases hc2 : 0 < big
      · dsimp! only [f__law_draw, m__law_draw, DS.c, eq_ii, List.length_map, e1, hb, hc2, h, hd, hm1, hm2, hd2, cpow_18, DS.val, DS.next, DS.fill]
      · dsimp! only [f__law_draw, m__law_draw, DS.c, eq_ii, List.length_map, e1, hb, hc2, h, hd, hm1, hm2, hd2, cpow_18, DS.val, DS.next, DS.fill]

def isLet : D → Bool
  | .str x => !(Builtin.Str.occurrences "abcdefghijklmnopqrstuvwxyz" x 0 26 1).isEmpty
  | _ => false
def isSign : D → Bool
  | .str x => decide (0 < x.length) && decide (x.length ≤ 8) && (chars x).all isLet
  | _ => false
theorem c1_is_sign_eq (x : Str) (h : x.length ≤ sizeLine) : c1_is_sign [.val (.str x), .emp] = .ok (.lst ((chars x).map fun d => .bl (isLet d))) [.val (.str x), .emp] := by
  refine mcomp_map (ds := chars x) _ rfl rfl (by rw [length_chars]; exact h) rfl fun d hd => ?_
  obtain ⟨c, -, rfl⟩ := List.mem_map.mp hd
  rfl
theorem is_sign_eq (d : D) (h : d.pl = true) : f_is_sign [.val d] = .ret (.bl (isSign d)) [.val d] := by
  cases d with
  | str x =>
    have hl : x.length ≤ 100 := of_decide_eq_true h
    have hl2 : x.length ≤ 16777216 := by omega
    dsimp! only [f_is_sign, m_is_sign, c1_is_sign_eq x hl2, hl2, xd_all, isSign]
    by_cases h1 : 0 < x.length
    · by_cases h2 : x.length ≤ 8
      · have a : (0 : Int) < x.length := by omega
        have b : (x.length : Int) ≤ 8 := by omega
        simp [h1, h2, a, b]
      · have a : (0 : Int) < x.length := by omega
        have b : ¬ (x.length : Int) ≤ 8 := by omega
        simp [h1, h2, a, b]
    · have a : ¬ (0 : Int) < x.length := by omega
      simp [h1, a]
  | dct _ => cases h
  | ins _ _ => cases h
  | exo => cases h
  | _ => dsimp! only [f_is_sign, m_is_sign, isSign]
theorem c1__law_is_sign_eq (x : Str) (h : x.length ≤ sizeLine) : c1__law_is_sign [.val (.str x), .emp] = .ok (.lst ((chars x).map fun d => .bl (isLet d))) [.val (.str x), .emp] := c1_is_sign_eq x h
theorem law_is_sign_eq (d : D) (h : d.pl = true) : f__law_is_sign [.val d] = .ret (.bl (isSign d)) [.val d] := by
  cases d with
  | str x =>
    have hl : x.length ≤ 100 := of_decide_eq_true h
    have hl2 : x.length ≤ 16777216 := by omega
    dsimp! only [f__law_is_sign, m__law_is_sign, c1__law_is_sign_eq x hl2, hl2, xd_all, isSign]
    by_cases h1 : 0 < x.length
    · by_cases h2 : x.length ≤ 8
      · have a : (0 : Int) < x.length := by omega
        have b : (x.length : Int) < 9 := by omega
        simp [h1, h2, a, b]
      · have a : (0 : Int) < x.length := by omega
        have b : ¬ (x.length : Int) < 9 := by omega
        simp [h1, h2, a, b]
    · have a : ¬ (0 : Int) < x.length := by omega
      simp [h1, a]
  | dct _ => cases h
  | ins _ _ => cases h
  | exo => cases h
  | _ => dsimp! only [f__law_is_sign, m__law_is_sign, isSign]
def isInt : D → Bool
  | .int _ => true
  | _ => false
theorem is_integer_eq (d : D) (h : d.pl = true) : f_is_integer [.val d] = .ret (.bl (isInt d)) [.val d] := by
  cases d with
  | dct _ => cases h
  | ins _ _ => cases h
  | exo => cases h
  | _ => dsimp! only [f_is_integer, m_is_integer, isInt]
theorem law_number_eq (d : D) (h : d.pl = true) : f__law_number [.val d] = .ret (.bl (isInt d)) [.val d] := by
  cases d with
  | dct _ => cases h
  | ins _ _ => cases h
  | exo => cases h
  | _ => dsimp! only [f__law_number, m__law_number, isInt]
end K00
end Mi
namespace Mi
open PySem PySem.Spec L2
open PyProof.Rows hiding St
local macro_rules | `(tactic| dsimp! only [$ls,*]) => `(tactic| (simp -dsimp only [xb_ok, xb_exc, xb_bad, xb_ite, xo_ok, xo_exc, xo_bad, xo_ite, xp_some, xp_none, xp_ite, xe_some, xe_none, xs_nx, xs_bk, xs_ct, xs_ret, xs_rnew, xs_exc, xs_bad, xs_ite,
     xf_ite, xk_ite, xm_seq, xm_fn, xm_call, xm_callN, xm_and, xm_or, xk_and, xk_or, xa_0, xa_1, xa_n, xa_nat, xi_n, xi_nat, Int.ofNat_lt, Int.ofNat_le,
     xf_ret, xf_rnew, xf_nx, xf_exc, xf_bad, xk_ret, xk_exc, xk_bad, xn_new, xn_exc, finS, backE, argSlots, mutIx, frzAt, xm_skip, xm_drop, xm_ret, xm_retN, xm_retF, xm_ifS, xm_asg, xm_asgNew, xm_lstC, xm_mut, xm_set, xm_aug, xm_pre, xm_C, xm_nm, xm_ex, xm_val, xm_nil, xm_cons, xm_bin, xm_binF, xm_un, xm_isi, xm_callD, xm_callF, xm_owns, xm_isT, xm_andT, xm_orT, xm_not, xm_notV, xm_if, xm_meth, xm_slice, xm_noP, xm_P, xm_chain, xk_chain, xm_fr, xm_frL, xm_raise, xm_yes, xm_newD, xg_N, xg_nil, xg_cons, xg_T,
     slotD, slotV, Arg.rd, Arg.own, rds, owns, Cell.frz, Cell.ty, dTup, dLst, dAdd, dSub, dMod, dDiv, dPow, dMulI, dMul, dInts, dNeg, dLt, dLe, dGt, dGe, dCmpI, dIxD, dIx, dIs, dIsNot, D.isNon, dLen, isTy, dIntOf, dListOf, dTupOf, cAppend, xpop, cSetX, cSetL, dAddI,
     List.length_cons, List.length_nil, List.getElem?_cons_zero, List.getElem?_cons_succ, List.getElem?_nil, List.set_cons_zero, List.set_cons_succ, List.set_nil, List.cons_append, List.nil_append, List.append_nil, List.replicate, List.nodup_cons, List.not_mem_nil, List.nodup_nil, List.mem_singleton,
     Option.map_some, Option.map_none, Option.bind_some, Option.bind_none, if_true, if_false, ite_true, ite_false, reduceIte, reduceCtorEq, not_false_eq_true, not_true_eq_false, and_true, true_and, and_false, false_and, or_true, true_or, or_false, false_or, decide_eq_true_eq, Bool.not_true, Bool.not_false, Bool.true_eq_false, Bool.false_eq_true, Nat.reduceAdd, Nat.reduceSub, Nat.reduceEqDiff, Nat.reduceLeDiff, Nat.reduceLT, Nat.reduceMul, Int.reduceAdd, Int.reduceLT, Int.reduceLE, Int.reduceNeg, Int.reduceSub, Int.reduceToNat, Int.reducePow, Int.reduceMul, Int.natCast_add, Int.cast_ofNat_Int, Int.sub_zero, gt_iff_lt, ge_iff_le, String.reduceEq, String.reduceBEq, beq_self_eq_true, Nat.zero_add, sizeLine, Nat.reducePow, decide_true, decide_false, $ls,*]))
namespace K00
def rankOk : D → Bool
  | .tup [a, b] => isSign a && isInt b
  | _ => false
def isPair : D → Bool
  | .tup [_, _] => true
  | _ => false
abbrev mkR (q : Str × Int) : D := .tup [.str q.1, .int q.2]
def rksOk (rs : List (Str × Int)) : Bool := (rs.all fun q => decide (0 ≤ q.2 ∧ q.2 ≤ 3)) && (rs.map (·.2)).contains 0 && decide (rs.map (·.1) = sortS (rs.map (·.1)))
def rankOf : D → Option (Str × Int)
  | .tup [.str s, .int r] => some (s, r)
  | _ => none
def areRanks : D → Bool
  | .tup xs => decide (0 < xs.length ∧ xs.length ≤ 8) && xs.all rankOk && rksOk (xs.filterMap rankOf)
  | _ => false
theorem ranks_of : ∀ {xs : List D}, xs.all rankOk = true → xs = (xs.filterMap rankOf).map mkR
  | [], _ => rfl
  | x :: xs, h => by
    rw [List.all_cons, Bool.and_eq_true] at h
    obtain ⟨h1, h2⟩ := h
    have ih := ranks_of h2
    match x, h1 with
    | .tup [a, b], h1 =>
      have h1 : (isSign a && isInt b) = true := h1
      rw [Bool.and_eq_true] at h1
      match a, b, h1 with
      | .str s, .int r, _ =>
        show D.tup [.str s, .int r] :: xs = ((s, r) :: xs.filterMap rankOf).map mkR
        rw [List.map_cons, ← ih]
theorem c1_are_ranks_eq (xs : List D) (h : oks xs = true) (hl : xs.length ≤ sizeLine) : c1_are_ranks [.val (.tup xs), .emp, .emp, .emp, .emp, .emp] = .ok (.lst (xs.map fun d => .bl (rankOk d))) [.val (.tup xs), .emp, .emp, .emp, .emp, .emp] := by
  refine mcomp_map (ds := xs) _ rfl rfl hl rfl fun d hd => ?_
  have hd := oks_iff.mp h d hd
  match d, hd with
  | .non, _ => dsimp! only [cStep, xl_0, xl_1, xx_ok, rankOk]
  | .bl _, _ => dsimp! only [cStep, xl_0, xl_1, xx_ok, rankOk]
  | .int _, _ => dsimp! only [cStep, xl_0, xl_1, xx_ok, rankOk]
  | .str _, _ => dsimp! only [cStep, xl_0, xl_1, xx_ok, rankOk]
  | .lst _, _ => dsimp! only [cStep, xl_0, xl_1, xx_ok, rankOk]
  | .tup [], _ => dsimp! only [cStep, xl_0, xl_1, xx_ok, rankOk, eq_ii]; rfl
  | .tup [a], _ => dsimp! only [cStep, xl_0, xl_1, xx_ok, rankOk, eq_ii]; rfl
  | .tup [a, b], hd =>
    have ha : a.pl = true := D.ok_pl (oks_iff.mp hd a (by simp))
    have hb : b.pl = true := D.ok_pl (oks_iff.mp hd b (by simp))
    dsimp! only [cStep, xl_0, xl_1, xx_ok, rankOk, eq_ii, is_sign_eq a ha, is_integer_eq b hb]
    cases isSign a <;> rfl
  | .tup (a :: b :: c :: r), _ =>
    have : ¬ ((r.length : Int) + 1 + 1 + 1 = 2) := by omega
    dsimp! only [cStep, xl_0, xl_1, xx_ok, rankOk, eq_ii, this]
theorem c2_are_ranks_eq (rs : List (Str × Int)) (hl : rs.length ≤ sizeLine) : c2_are_ranks [.val (.tup (rs.map mkR)), .emp, .emp, .emp, .emp, .emp] = .ok (.lst ((rs.map mkR).map fun d => .bl ((rankOf d).any fun q => decide (0 ≤ q.2 ∧ q.2 ≤ 3)))) [.val (.tup (rs.map mkR)), .emp, .emp, .emp, .emp, .emp] := by
  refine mcomp_map (ds := rs.map mkR) _ rfl rfl (by simpa using hl) rfl fun d hd => ?_
  obtain ⟨q, _, rfl⟩ := List.mem_map.mp hd
  dsimp! only [cStep, xl_0, xl_1, xx_ok, xx_ite, rankOf, Option.any]
  by_cases h : 0 ≤ q.2 <;> simp [h]
theorem c3_are_ranks_eq (rs : List (Str × Int)) (hl : rs.length ≤ sizeLine) : c3_are_ranks [.val (.tup (rs.map mkR)), .emp, .emp, .emp, .emp, .emp] = .ok (.lst ((rs.map (·.2)).map .int)) [.val (.tup (rs.map mkR)), .emp, .emp, .emp, .emp, .emp] := by
  have := mcomp_map (mi := mSrc (mNm 0)) (g := gT 2 (gCons' (gN 2) (gCons' (gN 3) (gNil')))) (t := mYes) (m := mVal 3) (vs := [2, 3]) (env := [.val (.tup (rs.map mkR)), .emp, .emp, .emp, .emp, .emp]) (ds := rs.map mkR) (fun d => match rankOf d with | some q => .int q.2 | none => .non) rfl rfl (by simpa using hl) rfl fun d hd => by
    obtain ⟨q, _, rfl⟩ := List.mem_map.mp hd
    dsimp! only [cStep, xl_0, xl_1, xx_ok, xx_ite, rankOf]
  rw [List.map_map] at this
  rw [List.map_map]
  exact this
theorem c4_are_ranks_eq (rs : List (Str × Int)) (hl : rs.length ≤ sizeLine) : c4_are_ranks [.val (.tup (rs.map mkR)), .emp, .emp, .emp, .emp, .emp] = .ok (.lst ((rs.map (·.1)).map .str)) [.val (.tup (rs.map mkR)), .emp, .emp, .emp, .emp, .emp] := by
  have := mcomp_map (mi := mSrc (mNm 0)) (g := gT 2 (gCons' (gN 5) (gCons' (gN 2) (gNil')))) (t := mYes) (m := mVal 5) (vs := [5, 2]) (env := [.val (.tup (rs.map mkR)), .emp, .emp, .emp, .emp, .emp]) (ds := rs.map mkR) (fun d => match rankOf d with | some q => .str q.1 | none => .non) rfl rfl (by simpa using hl) rfl fun d hd => by
    obtain ⟨q, _, rfl⟩ := List.mem_map.mp hd
    dsimp! only [cStep, xl_0, xl_1, xx_ok, xx_ite, rankOf]
  rw [List.map_map] at this
  rw [List.map_map]
  exact this
theorem c5_are_ranks_eq (a b c e : Slot) (ss : List Str) (hl : ss.length ≤ sizeLine) : c5_are_ranks [a, b, c, e, .val (.lst (ss.map .str)), .emp] = .ok (.dct ((ss.map D.str).foldl (fun acc d => putO acc (kvS (fun _ => .bl true) d)) [])) [a, b, c, e, .val (.lst (ss.map .str)), .emp] := by
  refine mdcomp (ds := ss.map D.str) (kvS fun _ => .bl true) rfl rfl (by simpa using hl) rfl fun d hd => ?_
  obtain ⟨q, _, rfl⟩ := List.mem_map.mp hd
  rfl
theorem are_ranks_eq (d : D) (h : d.ok = true) : f_are_ranks [.val d] = .ret (.bl (areRanks d)) [.val d] := by
  cases d with
  | dct _ => cases h
  | ins _ _ => cases h
  | exo => cases h
  | tup xs =>
    by_cases hl : 0 < xs.length ∧ xs.length ≤ 8
    · obtain ⟨h1, h2⟩ := hl
      have a1 : (0 : Int) < xs.length := by omega
      have a2 : (xs.length : Int) ≤ 8 := by omega
      have hs : xs.length ≤ sizeLine := by show xs.length ≤ 16777216; omega
      have hs' : xs.length ≤ 16777216 := hs
      by_cases hr : xs.all rankOk = true
      · have e := ranks_of hr
        have hlen : (xs.filterMap rankOf).length = xs.length := by
          have := congrArg List.length e
          rw [List.length_map] at this
          exact this.symm
        have hok : ∀ x ∈ (xs.filterMap rankOf).map (·.1), PyData.strOk x = true := fun x hx => by
          obtain ⟨q, hq, rfl⟩ := List.mem_map.mp hx
          have : mkR q ∈ xs := by rw [e]; exact List.mem_map.mpr ⟨q, hq, rfl⟩
          have := oks_iff.mp h _ this
          have : oks [.str q.1, .int q.2] = true := this
          have := oks_iff.mp this (.str q.1) (by simp)
          have this : (PyData.strOk q.1 && decide (q.1.length ≤ 100)) = true := this
          rw [Bool.and_eq_true] at this
          exact this.1
        have hok2 : ∀ x ∈ sortS ((xs.filterMap rankOf).map (·.1)), PyData.strOk x = true := fun x hx => hok x (mem_dedS.mp ((List.mergeSort_perm _ leS).mem_iff.mp hx))
        have hc2 := c2_are_ranks_eq (xs.filterMap rankOf) (by rw [hlen]; exact hs)
        have hc3 := c3_are_ranks_eq (xs.filterMap rankOf) (by rw [hlen]; exact hs)
        have hc4 := c4_are_ranks_eq (xs.filterMap rankOf) (by rw [hlen]; exact hs)
        rw [← e] at hc2 hc3 hc4
        have hc5 := fun a b c e => c5_are_ranks_eq a b c e ((xs.filterMap rankOf).map (·.1)) (by rw [List.length_map, hlen]; exact hs)
        have hd := dSorted_dct ((xs.filterMap rankOf).map (·.1)) (fun _ => .bl true) (by rw [List.length_map, hlen]; omega)
        have hall : (xs.all fun d => (rankOf d).any fun q => decide (0 ≤ q.2 ∧ q.2 ≤ 3)) = ((xs.filterMap rankOf).all fun q => decide (0 ≤ q.2 ∧ q.2 ≤ 3)) := by
          conv => lhs; rw [e]
          rw [List.all_map]
          rfl
        dsimp! only [f_are_ranks, m_are_ranks, c1_are_ranks_eq xs h hs, hc2, hc3, hc4, hc5, xd_all, hr, a1, a2, hall, notIn_ints, hd, eq_strs hok hok2]
        have ear : areRanks (.tup xs) = rksOk (xs.filterMap rankOf) := by
          show (decide (0 < xs.length ∧ xs.length ≤ 8) && xs.all rankOk && rksOk _) = _
          rw [hr, decide_eq_true ⟨h1, h2⟩]; rfl
        rw [ear]
        unfold rksOk
        cases ((xs.filterMap rankOf).all fun q => decide (0 ≤ q.2 ∧ q.2 ≤ 3)) with
        | false => rfl
        | true =>
          cases (((xs.filterMap rankOf).map (·.2)).contains 0) with
          | false => rfl
          | true => rfl
      · have hr : xs.all rankOk = false := by simpa using hr
        have ear : areRanks (.tup xs) = false := by
          show (decide (0 < xs.length ∧ xs.length ≤ 8) && xs.all rankOk && rksOk _) = _
          rw [hr]; simp
        dsimp! only [f_are_ranks, m_are_ranks, c1_are_ranks_eq xs h hs, xd_all, hr, a1, a2, ear]
    · have ear : areRanks (.tup xs) = false := by
        show (decide (0 < xs.length ∧ xs.length ≤ 8) && xs.all rankOk && rksOk _) = _
        rw [decide_eq_false hl]; simp
      by_cases h1 : 0 < xs.length
      · have a1 : (0 : Int) < xs.length := by omega
        have a2 : ¬ (xs.length : Int) ≤ 8 := by omega
        dsimp! only [f_are_ranks, m_are_ranks, a1, a2, ear]
      · have a1 : ¬ (0 : Int) < xs.length := by omega
        dsimp! only [f_are_ranks, m_are_ranks, a1, ear]
  | _ => dsimp! only [f_are_ranks, m_are_ranks, areRanks]
/-! ### the law's own ranks -/
def inR : D → Bool
  | .int r => decide (0 ≤ r ∧ r ≤ 3)
  | _ => false
def rank2 : D → Bool
  | .tup [a, b] => isSign a && inR b
  | _ => false
theorem c1__law_are_ranks_eq (xs : List D) (h : oks xs = true) (hl : xs.length ≤ sizeLine) : c1__law_are_ranks [.val (.tup xs), .emp, .emp, .emp] = .ok (.lst (xs.map fun d => .bl (isPair d))) [.val (.tup xs), .emp, .emp, .emp] := by
  refine mcomp_map (ds := xs) _ rfl rfl hl rfl fun d hd => ?_
  have hd := oks_iff.mp h d hd
  match d, hd with
  | .non, _ => dsimp! only [cStep, xl_0, xl_1, xx_ok, isPair]
  | .bl _, _ => dsimp! only [cStep, xl_0, xl_1, xx_ok, isPair]
  | .int _, _ => dsimp! only [cStep, xl_0, xl_1, xx_ok, isPair]
  | .str _, _ => dsimp! only [cStep, xl_0, xl_1, xx_ok, isPair]
  | .lst _, _ => dsimp! only [cStep, xl_0, xl_1, xx_ok, isPair]
  | .tup [], _ => dsimp! only [cStep, xl_0, xl_1, xx_ok, isPair, eq_ii]; rfl
  | .tup [a], _ => dsimp! only [cStep, xl_0, xl_1, xx_ok, isPair, eq_ii]; rfl
  | .tup [a, b], hd => dsimp! only [cStep, xl_0, xl_1, xx_ok, isPair, eq_ii]
  | .tup (a :: b :: c :: r), _ =>
    have : ¬ ((r.length : Int) + 1 + 1 + 1 = 2) := by omega
    dsimp! only [cStep, xl_0, xl_1, xx_ok, isPair, eq_ii, this]
theorem c2__law_are_ranks_eq (xs : List D) (h : oks xs = true) (hp : xs.all isPair = true) (hl : xs.length ≤ sizeLine) : c2__law_are_ranks [.val (.tup xs), .emp, .emp, .emp] = .ok (.lst (xs.map fun d => .bl (rank2 d))) [.val (.tup xs), .emp, .emp, .emp] := by
  refine mcomp_map (ds := xs) _ rfl rfl hl rfl fun d hd => ?_
  have hp := List.all_eq_true.mp hp d hd
  have hd := oks_iff.mp h d hd
  match d, hd, hp with
  | .tup [a, b], hd, _ =>
    have ha : a.pl = true := D.ok_pl (oks_iff.mp hd a (by simp))
    have hb : b.ok = true := oks_iff.mp hd b (by simp)
    match b, hb with
    | .int r, _ =>
      dsimp! only [cStep, xl_0, xl_1, xx_ok, xx_ite, rank2, inR, eq_ii, law_is_sign_eq a ha, law_number_eq (.int r) rfl, isInt]
      cases isSign a with
      | false => rfl
      | true => by_cases h0 : 0 ≤ r <;> simp [h0]
    | .str y, hb =>
      dsimp! only [cStep, xl_0, xl_1, xx_ok, xx_ite, rank2, inR, eq_ii, law_is_sign_eq a ha, law_number_eq (.str y) (D.ok_pl hb), isInt]
      cases isSign a <;> rfl
    | .non, hb =>
      dsimp! only [cStep, xl_0, xl_1, xx_ok, xx_ite, rank2, inR, eq_ii, law_is_sign_eq a ha, law_number_eq .non (D.ok_pl hb), isInt]
      cases isSign a <;> rfl
    | .bl y, hb =>
      dsimp! only [cStep, xl_0, xl_1, xx_ok, xx_ite, rank2, inR, eq_ii, law_is_sign_eq a ha, law_number_eq (.bl y) (D.ok_pl hb), isInt]
      cases isSign a <;> rfl
    | .tup y, hb =>
      dsimp! only [cStep, xl_0, xl_1, xx_ok, xx_ite, rank2, inR, eq_ii, law_is_sign_eq a ha, law_number_eq (.tup y) (D.ok_pl hb), isInt]
      cases isSign a <;> rfl
    | .lst y, hb =>
      dsimp! only [cStep, xl_0, xl_1, xx_ok, xx_ite, rank2, inR, eq_ii, law_is_sign_eq a ha, law_number_eq (.lst y) (D.ok_pl hb), isInt]
      cases isSign a <;> rfl
theorem c3__law_are_ranks_eq (rs : List (Str × Int)) (hl : rs.length ≤ sizeLine) : c3__law_are_ranks [.val (.tup (rs.map mkR)), .emp, .emp, .emp] = .ok (.lst ((rs.map (·.1)).map .str)) [.val (.tup (rs.map mkR)), .emp, .emp, .emp] := by
  have := mcomp_map (mi := mSrc (mNm 0)) (g := gT 2 (gCons' (gN 1) (gCons' (gN 2) (gNil')))) (t := mYes) (m := mVal 1) (vs := [1, 2]) (env := [.val (.tup (rs.map mkR)), .emp, .emp, .emp]) (ds := rs.map mkR) (fun d => match rankOf d with | some q => .str q.1 | none => .non) rfl rfl (by simpa using hl) rfl fun d hd => by
    obtain ⟨q, _, rfl⟩ := List.mem_map.mp hd
    dsimp! only [cStep, xl_0, xl_1, xx_ok, xx_ite, rankOf]
  rw [List.map_map] at this
  rw [List.map_map]
  exact this
theorem c4__law_are_ranks_eq (x : D) (rs : List (Str × Int)) (hl : rs.length ≤ sizeLine) : c4__law_are_ranks [.val (.tup (rs.map mkR)), .emp, .emp, .val x] = .ok (.lst ((rs.map (·.2)).map .int)) [.val (.tup (rs.map mkR)), .emp, .emp, .val x] := by
  have := mcomp_map (mi := mSrc (mNm 0)) (g := gT 2 (gCons' (gN 1) (gCons' (gN 2) (gNil')))) (t := mYes) (m := mVal 2) (vs := [1, 2]) (env := [.val (.tup (rs.map mkR)), .emp, .emp, .val x]) (ds := rs.map mkR) (fun d => match rankOf d with | some q => .int q.2 | none => .non) rfl rfl (by simpa using hl) rfl fun d hd => by
    obtain ⟨q, _, rfl⟩ := List.mem_map.mp hd
    dsimp! only [cStep, xl_0, xl_1, xx_ok, xx_ite, rankOf]
  rw [List.map_map] at this
  rw [List.map_map]
  exact this
theorem xm_sortSet {m : M Arg} {env : Env'} : mSortSet m env = (m env).bind fun a env => R.opt (match a.rd env with
  | some d => fSortSet d
  | none => none) env := rfl
theorem rank2_of {d : D} (h : rank2 d = true) : rankOk d = true ∧ (rankOf d).all (fun q => decide (0 ≤ q.2 ∧ q.2 ≤ 3)) = true ∧ isPair d = true := by
  match d, h with
  | .tup [a, b], h =>
    have h : (isSign a && inR b) = true := h
    rw [Bool.and_eq_true] at h
    match a, b, h with
    | .str s, .int r, ⟨h1, h2⟩ => exact ⟨by show (isSign _ && true) = true; rw [h1]; rfl, h2, rfl⟩
theorem rank2_back {d : D} (h : rankOk d = true) (h2 : (rankOf d).all (fun q => decide (0 ≤ q.2 ∧ q.2 ≤ 3)) = true) : rank2 d = true := by
  match d, h with
  | .tup [a, b], h =>
    have h : (isSign a && isInt b) = true := h
    rw [Bool.and_eq_true] at h
    match a, b, h, h2 with
    | .str s, .int r, ⟨h1, _⟩, h2 => show (isSign _ && decide _) = true; rw [h1]; exact h2
theorem law_are_ranks_eq (d : D) (h : d.ok = true) : f__law_are_ranks [.val d] = .ret (.bl (areRanks d)) [.val d] := by
  cases d with
  | dct _ => cases h
  | ins _ _ => cases h
  | exo => cases h
  | tup xs =>
    by_cases hl : 0 < xs.length ∧ xs.length ≤ 8
    · obtain ⟨h1, h2⟩ := hl
      have a1 : (0 : Int) < xs.length := by omega
      have a2 : (xs.length : Int) < 9 := by omega
      have hs : xs.length ≤ sizeLine := by show xs.length ≤ 16777216; omega
      have hs' : xs.length ≤ 16777216 := hs
      by_cases hp : xs.all isPair = true
      · by_cases hr2 : xs.all rank2 = true
        · have hr : xs.all rankOk = true := List.all_eq_true.mpr fun x hx => (rank2_of (List.all_eq_true.mp hr2 x hx)).1
          have e := ranks_of hr
          have hlen : (xs.filterMap rankOf).length = xs.length := by
            have := congrArg List.length e
            rw [List.length_map] at this
            exact this.symm
          have hok : ∀ x ∈ (xs.filterMap rankOf).map (·.1), PyData.strOk x = true := fun x hx => by
            obtain ⟨q, hq, rfl⟩ := List.mem_map.mp hx
            have : mkR q ∈ xs := by rw [e]; exact List.mem_map.mpr ⟨q, hq, rfl⟩
            have := oks_iff.mp h _ this
            have : oks [.str q.1, .int q.2] = true := this
            have := oks_iff.mp this (.str q.1) (by simp)
            have this : (PyData.strOk q.1 && decide (q.1.length ≤ 100)) = true := this
            rw [Bool.and_eq_true] at this
            exact this.1
          have hok2 : ∀ x ∈ sortS ((xs.filterMap rankOf).map (·.1)), PyData.strOk x = true := fun x hx => hok x (mem_dedS.mp ((List.mergeSort_perm _ leS).mem_iff.mp hx))
          have hc3 := c3__law_are_ranks_eq (xs.filterMap rankOf) (by rw [hlen]; exact hs)
          have hc4 := fun x => c4__law_are_ranks_eq x (xs.filterMap rankOf) (by rw [hlen]; exact hs)
          rw [← e] at hc3 hc4
          have hd := fSortSet_str ((xs.filterMap rankOf).map (·.1)) (by rw [List.length_map, hlen]; omega)
          have hall : ((xs.filterMap rankOf).all fun q => decide (0 ≤ q.2 ∧ q.2 ≤ 3)) = true := List.all_eq_true.mpr fun q hq => by
            obtain ⟨x, hx, e2⟩ := List.mem_filterMap.mp hq
            have := (rank2_of (List.all_eq_true.mp hr2 x hx)).2.1
            rw [e2] at this
            exact this
          have ear : areRanks (.tup xs) = rksOk (xs.filterMap rankOf) := by
            show (decide (0 < xs.length ∧ xs.length ≤ 8) && xs.all rankOk && rksOk _) = _
            rw [hr, decide_eq_true ⟨h1, h2⟩]; rfl
          dsimp! only [f__law_are_ranks, m__law_are_ranks, c1__law_are_ranks_eq xs h hs, c2__law_are_ranks_eq xs h hp hs, hc3, hc4, xd_all, hp, hr2, a1, a2, in_ints, hd, xm_sortSet, eq_strs hok hok2, ear, rksOk, hall, Bool.true_and]
          by_cases hq : (xs.filterMap rankOf).map (·.1) = sortS ((xs.filterMap rankOf).map (·.1))
          · rw [if_pos hq, decide_eq_true hq, Bool.and_true]
          · rw [if_neg hq, decide_eq_false hq, Bool.and_false]
        · have hr2 : xs.all rank2 = false := by simpa using hr2
          have ear : areRanks (.tup xs) = false := by
            show (decide (0 < xs.length ∧ xs.length ≤ 8) && xs.all rankOk && rksOk _) = _
            by_cases hr : xs.all rankOk = true
            · have : ((xs.filterMap rankOf).all fun q => decide (0 ≤ q.2 ∧ q.2 ≤ 3)) = false := by
                rw [Bool.eq_false_iff]
                intro hall
                rw [Bool.eq_false_iff] at hr2
                refine hr2 (List.all_eq_true.mpr fun x hx => rank2_back (List.all_eq_true.mp hr x hx) ?_)
                cases eo : rankOf x with
                | none => rfl
                | some q => exact List.all_eq_true.mp hall q (List.mem_filterMap.mpr ⟨x, hx, eo⟩)
              unfold rksOk
              rw [this]; simp
            · rw [show xs.all rankOk = false by simpa using hr]; simp
          dsimp! only [f__law_are_ranks, m__law_are_ranks, c1__law_are_ranks_eq xs h hs, c2__law_are_ranks_eq xs h hp hs, xd_all, hp, hr2, a1, a2, ear]
      · have hp : xs.all isPair = false := by simpa using hp
        have ear : areRanks (.tup xs) = false := by
          show (decide (0 < xs.length ∧ xs.length ≤ 8) && xs.all rankOk && rksOk _) = _
          rw [show xs.all rankOk = false by
            rw [Bool.eq_false_iff] at hp ⊢
            exact fun hr => hp (List.all_eq_true.mpr fun x hx => by
              have := List.all_eq_true.mp hr x hx
              match x, this with
              | .tup [a, b], _ => rfl)]
          simp
        dsimp! only [f__law_are_ranks, m__law_are_ranks, c1__law_are_ranks_eq xs h hs, xd_all, hp, a1, a2, ear]
    · have ear : areRanks (.tup xs) = false := by
        show (decide (0 < xs.length ∧ xs.length ≤ 8) && xs.all rankOk && rksOk _) = _
        rw [decide_eq_false hl]; simp
      by_cases h1 : 0 < xs.length
      · have a1 : (0 : Int) < xs.length := by omega
        have a2 : ¬ (xs.length : Int) < 9 := by omega
        dsimp! only [f__law_are_ranks, m__law_are_ranks, a1, a2, ear]
      · have a1 : ¬ (0 : Int) < xs.length := by omega
        dsimp! only [f__law_are_ranks, m__law_are_ranks, a1, ear]
  | _ => dsimp! only [f__law_are_ranks, m__law_are_ranks, areRanks]
end K00
end Mi
namespace Mi
open PySem PySem.Spec L2
open PyProof.Rows hiding St
local macro_rules | `(tactic| dsimp! only [$ls,*]) => `(tactic| (simp -dsimp only [xb_ok, xb_exc, xb_bad, xb_ite, xo_ok, xo_exc, xo_bad, xo_ite, xp_some, xp_none, xp_ite, xe_some, xe_none, xs_nx, xs_bk, xs_ct, xs_ret, xs_rnew, xs_exc, xs_bad, xs_ite,
     xf_ite, xk_ite, xm_seq, xm_fn, xm_call, xm_callN, xm_and, xm_or, xk_and, xk_or, xa_0, xa_1, xa_n, xa_nat, xi_n, xi_nat, Int.ofNat_lt, Int.ofNat_le,
     xf_ret, xf_rnew, xf_nx, xf_exc, xf_bad, xk_ret, xk_exc, xk_bad, xn_new, xn_exc, finS, backE, argSlots, mutIx, frzAt, xm_skip, xm_drop, xm_ret, xm_retN, xm_retF, xm_ifS, xm_asg, xm_asgNew, xm_lstC, xm_mut, xm_set, xm_aug, xm_pre, xm_C, xm_nm, xm_ex, xm_val, xm_nil, xm_cons, xm_bin, xm_binF, xm_un, xm_isi, xm_callD, xm_callF, xm_owns, xm_isT, xm_andT, xm_orT, xm_not, xm_notV, xm_if, xm_meth, xm_slice, xm_noP, xm_P, xm_chain, xk_chain, xm_fr, xm_frL, xm_raise, xm_yes, xm_newD, xg_N, xg_nil, xg_cons, xg_T,
     slotD, slotV, Arg.rd, Arg.own, rds, owns, Cell.frz, Cell.ty, dTup, dLst, dAdd, dSub, dMod, dDiv, dPow, dMulI, dMul, dInts, dNeg, dLt, dLe, dGt, dGe, dCmpI, dIxD, dIx, dIs, dIsNot, D.isNon, dLen, isTy, dIntOf, dListOf, dTupOf, cAppend, xpop, cSetX, cSetL, dAddI,
     List.length_cons, List.length_nil, List.getElem?_cons_zero, List.getElem?_cons_succ, List.getElem?_nil, List.set_cons_zero, List.set_cons_succ, List.set_nil, List.cons_append, List.nil_append, List.append_nil, List.replicate, List.nodup_cons, List.not_mem_nil, List.nodup_nil, List.mem_singleton,
     Option.map_some, Option.map_none, Option.bind_some, Option.bind_none, if_true, if_false, ite_true, ite_false, reduceIte, reduceCtorEq, not_false_eq_true, not_true_eq_false, and_true, true_and, and_false, false_and, or_true, true_or, or_false, false_or, decide_eq_true_eq, Bool.not_true, Bool.not_false, Bool.true_eq_false, Bool.false_eq_true, Nat.reduceAdd, Nat.reduceSub, Nat.reduceEqDiff, Nat.reduceLeDiff, Nat.reduceLT, Nat.reduceMul, Int.reduceAdd, Int.reduceLT, Int.reduceLE, Int.reduceNeg, Int.reduceSub, Int.reduceToNat, Int.reducePow, Int.reduceMul, Int.natCast_add, Int.cast_ofNat_Int, Int.sub_zero, gt_iff_lt, ge_iff_le, String.reduceEq, String.reduceBEq, beq_self_eq_true, Nat.zero_add, sizeLine, Nat.reducePow, decide_true, decide_false, $ls,*]))
namespace K00
/-! ### trees, plain -/
def arOf (kvs : List (D × D)) (x : Str) : Option Int := match findD kvs (.inr x) with
  | some (.int i) => some i
  | _ => none
mutual
def wf (kvs : List (D × D)) : D → Bool
  | .tup (.str x :: r) => decide (arOf kvs x = some (r.length : Int)) && wfs kvs r
  | _ => false
def wfs (kvs : List (D × D)) : List D → Bool
  | [] => true
  | d :: ds => wf kvs d && wfs kvs ds
end
mutual
def size : D → Nat
  | .tup (_ :: r) => 1 + sizes r
  | _ => 1
def sizes : List D → Nat
  | [] => 0
  | d :: ds => size d + sizes ds
end
mutual
def hgt : D → Nat
  | .tup (_ :: r) => 1 + hgts r
  | _ => 1
def hgts : List D → Nat
  | [] => 0
  | d :: ds => max (hgt d) (hgts ds)
end
def isTree (kvs : List (D × D)) (t : D) : Bool := wf kvs t && decide (hgt t ≤ 40) && decide (size t ≤ 4000)
theorem size_pos (d : D) : 1 ≤ size d := by
  unfold size
  split <;> omega
theorem hgt_pos (d : D) : 1 ≤ hgt d := by
  unfold hgt
  split <;> omega
theorem sizes_len : ∀ ds : List D, ds.length ≤ sizes ds
  | [] => Nat.le_refl _
  | d :: ds => by
    have := sizes_len ds
    have := size_pos d
    show ds.length + 1 ≤ size d + sizes ds
    omega
theorem wfs_iff {kvs : List (D × D)} : ∀ {ds : List D}, wfs kvs ds = true ↔ ∀ d ∈ ds, wf kvs d = true
  | [] => ⟨fun _ d h => (nomatch h), fun _ => rfl⟩
  | d :: ds => by
    show (wf kvs d && wfs kvs ds) = true ↔ _
    rw [Bool.and_eq_true, wfs_iff, List.forall_mem_cons]
theorem hgts_le {n : Nat} : ∀ {ds : List D}, hgts ds ≤ n ↔ ∀ d ∈ ds, hgt d ≤ n
  | [] => ⟨fun _ d h => (nomatch h), fun _ => Nat.zero_le _⟩
  | d :: ds => by
    show max (hgt d) (hgts ds) ≤ n ↔ _
    rw [Nat.max_le, hgts_le, List.forall_mem_cons]
theorem sizes_append : ∀ xs ys : List D, sizes (xs ++ ys) = sizes xs + sizes ys
  | [], ys => (Nat.zero_add _).symm
  | x :: xs, ys => by
    show size x + sizes (xs ++ ys) = size x + sizes xs + sizes ys
    rw [sizes_append xs ys]; omega
theorem cut_tail {h : D} {r : List D} : cutD (h :: r) (some 1) none = r := by
  unfold cutD
  have e1 : HT.sIx (h :: r).length 0 (some 1) = 1 := by
    show (if (1 : Int) < 0 then ((1 : Int) + ((h :: r).length : Int)).toNat else min (1 : Int).toNat (h :: r).length) = 1
    rw [if_neg (by decide)]
    simp
  rw [e1, HT.sIx_none]
  simp
/-- the dict of the ranks -/
def knw (rs : List (Str × Int)) : List (D × D) := mergeD [] (rs.map fun q => (.inr q.1, .int q.2))
def AllInt (kvs : List (D × D)) : Prop := ∀ kv ∈ kvs, ∃ i, kv.2 = .int i
theorem AllInt.put {kvs : List (D × D)} (h : AllInt kvs) (k : Key) (i : Int) : AllInt (putD kvs k (.int i)) := by
  unfold putD
  split
  · intro kv hkv
    obtain ⟨q, hq, rfl⟩ := List.mem_map.mp hkv
    split
    · exact ⟨i, rfl⟩
    · exact h q hq
  · intro kv hkv
    rcases List.mem_append.mp hkv with q | q
    · exact h kv q
    · rw [List.mem_singleton] at q; subst q; exact ⟨i, rfl⟩
theorem knw_int (rs : List (Str × Int)) : AllInt (knw rs) := by
  have : ∀ (rs : List (Str × Int)) (acc : List (D × D)), AllInt acc → AllInt (mergeD acc (rs.map fun q => (.inr q.1, .int q.2))) := by
    intro rs
    induction rs with
    | nil => intro acc h; exact h
    | cons q rs ih => intro acc h; exact ih _ (h.put _ _)
  exact this rs [] (fun _ h => nomatch h)
theorem find_int {kvs : List (D × D)} (h : AllInt kvs) (x : Str) : findD kvs (.inr x) = (arOf kvs x).map .int := by
  unfold arOf
  cases e : findD kvs (.inr x) with
  | none => rfl
  | some d =>
    unfold findD at e
    cases e2 : kvs.find? fun kv => eqKey kv.1 (.inr x) with
    | none => rw [e2] at e; cases e
    | some kv =>
      rw [e2] at e
      obtain ⟨i, hi⟩ := h kv (List.mem_of_find?_eq_some e2)
      cases e
      show some kv.2 = Option.map D.int (match some kv.2 with
        | some (.int i) => some i
        | _ => none)
      rw [hi]
      rfl
theorem fDict_rks (rs : List (Str × Int)) : fDict [.tup (rs.map mkR)] = some (.dct (knw rs)) := by
  have : ∀ rs : List (Str × Int), pairsD (rs.map mkR) = some (rs.map fun q => (.inr q.1, .int q.2)) := by
    intro rs
    induction rs with
    | nil => rfl
    | cons q rs ih =>
      show (match keyOf (.str q.1), pairsD (rs.map mkR) with | some j, some s => some ((j, D.int q.2) :: s) | _, _ => none) = _
      rw [ih]
      rfl
  show (pairsD (rs.map mkR)).map _ = _
  rw [this]
  rfl
/-! ### looking at ranks -/
theorem look_at_ranks_eq (d : D) (h : d.ok = true) : f_look_at_ranks [.val d] = if areRanks d = true then .ret .non [.val d] else .exc "BadRanks" [] [.val d] := by
  dsimp! only [f_look_at_ranks, m_look_at_ranks, are_ranks_eq d h]
  cases areRanks d <;> rfl
/-! ### the stack -/
abbrev stk (S : List (D × Nat)) : List D := S.map fun q => .tup [q.1, .int q.2]
def good (kvs : List (D × D)) (q : D × Nat) : Bool := wf kvs q.1 && decide (q.2 + hgt q.1 ≤ 41)
def tot (S : List (D × Nat)) : Nat := sizes (S.map (·.1))
def answ (kvs : List (D × D)) (S : List (D × Nat)) (m : Nat) : Bool := S.all (good kvs) && decide (m + tot S ≤ 4000)
theorem kids_good {kvs : List (D × D)} {x : Str} {r : List D} {deep : Nat} (h1 : deep ≤ 40) (h2 : arOf kvs x = some (r.length : Int)) : (r.map fun d => (d, deep + 1)).all (good kvs) = good kvs (.tup (.str x :: r), deep) := by
  rw [Bool.eq_iff_iff, List.all_eq_true]
  show _ ↔ ((decide (arOf kvs x = some (r.length : Int)) && wfs kvs r) && decide (deep + (1 + hgts r) ≤ 41)) = true
  rw [decide_eq_true h2, Bool.true_and, Bool.and_eq_true, wfs_iff, decide_eq_true_eq]
  constructor
  · intro h
    refine ⟨fun d hd => ?_, ?_⟩
    · have := h (d, deep + 1) (List.mem_map.mpr ⟨d, hd, rfl⟩)
      unfold good at this
      rw [Bool.and_eq_true] at this
      exact this.1
    · have : hgts r ≤ 40 - deep := hgts_le.mpr fun d hd => by
        have := h (d, deep + 1) (List.mem_map.mpr ⟨d, hd, rfl⟩)
        unfold good at this
        rw [Bool.and_eq_true, decide_eq_true_eq] at this
        have := this.2
        simp only at this
        omega
      omega
  · rintro ⟨h3, h4⟩ q hq
    obtain ⟨d, hd, rfl⟩ := List.mem_map.mp hq
    have : hgts r ≤ 40 - deep := by omega
    have := hgts_le.mp this d hd
    unfold good
    rw [Bool.and_eq_true, decide_eq_true_eq]
    exact ⟨h3 d hd, by simp only; omega⟩
theorem ne_ii {i j : Int} : dNe (.int i) (.int j) = some (.bl (!decide (i = j))) := by
  have e : dNe (.int i) (.int j) = some (.bl (!(i == j))) := rfl
  rw [e]; rfl
theorem c1_is_tree_eq (a b c : D) (e : Slot) (m : D) (h : D) (r : List D) (deep : Int) (hl : r.length ≤ sizeLine) : c1_is_tree [.val a, .val b, .val c, e, .val m, .val (.tup (h :: r)), .val (.int deep), .emp] = .ok (.lst (r.map fun d => .tup [d, .int (deep + 1)])) [.val a, .val b, .val c, e, .val m, .val (.tup (h :: r)), .val (.int deep), .emp] := by
  have hm : (mSrc (mEx (mSlice dSl (mNm 5) (mP (mC (.int 1))) (mNoP)))) [.val a, .val b, .val c, e, .val m, .val (.tup (h :: r)), .val (.int deep), .emp] = .ok (r, none) [.val a, .val b, .val c, e, .val m, .val (.tup (h :: r)), .val (.int deep), .emp] := by
    show R.bind _ _ = _
    dsimp! only [dSl, cut_tail, srcOf, itemsOf]
  exact mcomp_map (ds := r) _ hm rfl hl rfl fun d _ => by
    dsimp! only [cStep, xl_0, xl_1, xx_ok]
/-- one turn of the loop -/
theorem b1_is_tree_ok (kvs : List (D × D)) (hk : AllInt kvs) (a b : D) (S : List (D × Nat)) (one : D) (deep m : Nat) (s5 s6 : Slot) (ho : one.ok = true) (hs : tot (S ++ [(one, deep)]) + m ≤ 1000000) (hm : m ≤ 4000) (hd : (S ++ [(one, deep)]).all (fun q => q.1.ok) = true)
    (A : Bool) (hA : answ kvs (S ++ [(one, deep)]) m = A) :
    (b1_is_tree [.val a, .val b, .val (.dct kvs), .cel true (.lst (stk (S ++ [(one, deep)]))), .val (.int m), s5, s6, .emp]).WL
      (fun e => ∃ (S' : List (D × Nat)) (s5 s6 : Slot), e = [.val a, .val b, .val (.dct kvs), .cel true (.lst (stk S')), .val (.int ((m + 1 : Nat) : Int)), s5, s6, .emp] ∧ tot S' + (m + 1) = tot (S ++ [(one, deep)]) + m ∧ m + 1 ≤ 4000 ∧ S'.all (fun q => q.1.ok) = true ∧ answ kvs S' (m + 1) = A)
      (fun _ => False) (fun d e => d = .bl false ∧ A = false ∧ ∃ s2 s3 s4 s5 s6 s7, e = [.val a, .val b, s2, s3, s4, s5, s6, s7]) := by
  have es : stk (S ++ [(one, deep)]) = stk S ++ [.tup [one, .int deep]] := by simp [stk]
  have etot : tot (S ++ [(one, deep)]) = tot S + size one := by
    unfold tot
    rw [List.map_append, sizes_append]
    rfl
  have hgood : answ kvs (S ++ [(one, deep)]) m = (S.all (good kvs) && good kvs (one, deep) && decide (m + (tot S + size one) ≤ 4000)) := by
    unfold answ
    rw [etot, List.all_append]
    simp
  rw [hgood] at hA
  rw [es]
  have hsz := size_pos one
  have hh := hgt_pos one
  by_cases c1 : 40 < deep
  · have c1' : (40 : Int) < deep := by omega
    have hf : good kvs (one, deep) = false := by
      unfold good
      rw [Bool.and_eq_false_iff]
      exact .inr (decide_eq_false (by simp only; omega))
    rw [hf] at hA
    dsimp! only [b1_is_tree, c1', So.WL]
    refine ⟨by simpa using hA.symm, _, _, _, _, _, _, rfl⟩
  · have c1' : ¬ (40 : Int) < deep := by omega
    by_cases c2 : 4000 < m + 1
    · have c2' : (4000 : Int) < (m : Int) + 1 := by omega
      have hf : decide (m + (tot S + size one) ≤ 4000) = false := decide_eq_false (by omega)
      rw [hf] at hA
      dsimp! only [b1_is_tree, c1', c2', So.WL]
      refine ⟨by simpa using hA.symm, _, _, _, _, _, _, rfl⟩
    · have c2' : ¬ (4000 : Int) < (m : Int) + 1 := by omega
      have bad : ∀ d : D, wf kvs d = false → d = one → A = false := by
        rintro d hw rfl
        rw [← hA]
        unfold good
        rw [hw]
        simp
      match one, ho, bad with
      | .non, _, bad =>
        dsimp! only [b1_is_tree, c1', c2', So.WL]
        exact ⟨bad _ rfl rfl, _, _, _, _, _, _, rfl⟩
      | .bl _, _, bad =>
        dsimp! only [b1_is_tree, c1', c2', So.WL]
        exact ⟨bad _ rfl rfl, _, _, _, _, _, _, rfl⟩
      | .int _, _, bad =>
        dsimp! only [b1_is_tree, c1', c2', So.WL]
        exact ⟨bad _ rfl rfl, _, _, _, _, _, _, rfl⟩
      | .str _, _, bad =>
        dsimp! only [b1_is_tree, c1', c2', So.WL]
        exact ⟨bad _ rfl rfl, _, _, _, _, _, _, rfl⟩
      | .lst _, _, bad =>
        dsimp! only [b1_is_tree, c1', c2', So.WL]
        exact ⟨bad _ rfl rfl, _, _, _, _, _, _, rfl⟩
      | .tup [], _, bad =>
        dsimp! only [b1_is_tree, c1', c2', So.WL, eq_ii]
        exact ⟨bad _ rfl rfl, _, _, _, _, _, _, rfl⟩
      | .tup (x :: r), ho, bad =>
        have c3 : ¬ ((r.length : Int) + 1 = 0) := by omega
        match x, ho, bad with
        | .str x, ho, bad =>
          have hlen := sizes_len r
          have e7 : size (.tup (.str x :: r)) = 1 + sizes r := rfl
          have hl : r.length ≤ sizeLine := by show r.length ≤ 16777216; omega
          have hstk : (stk S).length = S.length := by simp
          have hS : S.length ≤ tot S := by
            have := sizes_len (S.map (·.1))
            rw [List.length_map] at this
            exact this
          have hl2 : (stk S).length + r.length ≤ 16777216 := by rw [hstk]; omega
          have hl3 : S.length + r.length ≤ 16777216 := by omega
          cases ea : arOf kvs x with
          | none =>
            have hb : wf kvs (.tup (.str x :: r)) = false := by
              show (decide (arOf kvs x = _) && _) = false
              rw [ea]; rfl
            have c4 : ¬ (-1 = (r.length : Int) + 1 - 1) := by omega
            dsimp! only [b1_is_tree, c1', c2', c3, So.WL, eq_ii, tyOk, dGetF, D.flat0, keyOf, find_int hk, ea, ne_ii, Option.getD, c4]
            exact ⟨bad _ hb rfl, _, _, _, _, _, _, rfl⟩
          | some i =>
            by_cases c4 : i = (r.length : Int)
            · subst c4
              have c4 : (r.length : Int) = (r.length : Int) + 1 - 1 := by omega
              dsimp! only [b1_is_tree, c1', c2', c3, So.WL, eq_ii, tyOk, dGetF, D.flat0, keyOf, find_int hk, ea, ne_ii, Option.getD, ← c4, c1_is_tree_eq _ _ _ _ _ _ r _ hl, cExt, seqOf, hl2, hl3, List.length_map]
              refine ⟨S ++ r.map (fun d => (d, deep + 1)), .val (.tup (.str x :: r)), .val (.int deep), ?_, ?_, ?_, ?_, ?_⟩
              · congr 5
                simp [stk, Function.comp_def]
              · rw [etot, e7]
                unfold tot
                rw [List.map_append, sizes_append, List.map_map]
                have : (r.map ((fun q : D × Nat => q.1) ∘ fun d => (d, deep + 1))) = r := by simp [Function.comp_def]
                rw [this]; omega
              · omega
              · rw [List.all_append, Bool.and_eq_true] at hd
                rw [List.all_append, Bool.and_eq_true]
                refine ⟨hd.1, List.all_eq_true.mpr fun q hq => ?_⟩
                obtain ⟨d, hd', rfl⟩ := List.mem_map.mp hq
                exact oks_iff.mp ho d (List.mem_cons_of_mem _ hd')
              · rw [← hA]
                unfold answ
                rw [List.all_append, kids_good (by omega) ea]
                have : tot (S ++ r.map fun d => (d, deep + 1)) = tot S + sizes r := by
                  unfold tot
                  rw [List.map_append, sizes_append, List.map_map]
                  have : (r.map ((fun q : D × Nat => q.1) ∘ fun d => (d, deep + 1))) = r := by simp [Function.comp_def]
                  rw [this]
                rw [this, e7]
                congr 2
                rw [show m + 1 + (tot S + sizes r) = m + (tot S + (1 + sizes r)) by omega]
            · have c5 : ¬ (i = (r.length : Int) + 1 - 1) := by omega
              have hb : wf kvs (.tup (.str x :: r)) = false := by
                show (decide (arOf kvs x = _) && _) = false
                rw [ea, decide_eq_false (fun q => c4 (Option.some.inj q))]; rfl
              dsimp! only [b1_is_tree, c1', c2', c3, So.WL, eq_ii, tyOk, dGetF, D.flat0, keyOf, find_int hk, ea, ne_ii, Option.getD, c5]
              exact ⟨bad _ hb rfl, _, _, _, _, _, _, rfl⟩
        | .non, ho, bad =>
          dsimp! only [b1_is_tree, c1', c2', c3, So.WL, eq_ii]
          exact ⟨bad _ rfl rfl, _, _, _, _, _, _, rfl⟩
        | .bl _, ho, bad =>
          dsimp! only [b1_is_tree, c1', c2', c3, So.WL, eq_ii]
          exact ⟨bad _ rfl rfl, _, _, _, _, _, _, rfl⟩
        | .int _, ho, bad =>
          dsimp! only [b1_is_tree, c1', c2', c3, So.WL, eq_ii]
          exact ⟨bad _ rfl rfl, _, _, _, _, _, _, rfl⟩
        | .tup _, ho, bad =>
          dsimp! only [b1_is_tree, c1', c2', c3, So.WL, eq_ii]
          exact ⟨bad _ rfl rfl, _, _, _, _, _, _, rfl⟩
        | .lst _, ho, bad =>
          dsimp! only [b1_is_tree, c1', c2', c3, So.WL, eq_ii]
          exact ⟨bad _ rfl rfl, _, _, _, _, _, _, rfl⟩
theorem dict_args (rs : List (Str × Int)) : fDict [.tup (rs.map mkR)] = some (.dct (knw rs)) := fDict_rks rs
theorem is_tree_loop (kvs : List (D × D)) (hk : AllInt kvs) (a t : D) (ht : t.ok = true) (hs : size t ≤ 1000000) :
    (l1_is_tree [.val a, .val t, .val (.dct kvs), .cel true (.lst [.tup [t, .int 1]]), .val (.int 0), .emp, .emp, .emp]).W
      (fun e => isTree kvs t = true ∧ ∃ s2 s3 s4 s5 s6 s7, e = [.val a, .val t, s2, s3, s4, s5, s6, s7])
      (fun d e => d = .bl false ∧ isTree kvs t = false ∧ ∃ s2 s3 s4 s5 s6 s7, e = [.val a, .val t, s2, s3, s4, s5, s6, s7]) := by
  let I : Env' → Prop := fun e => ∃ (S : List (D × Nat)) (m : Nat) (s5 s6 : Slot), e = [.val a, .val t, .val (.dct kvs), .cel true (.lst (stk S)), .val (.int m), s5, s6, .emp] ∧ tot S + m ≤ 1000000 ∧ m ≤ 4000 ∧ S.all (fun q => q.1.ok) = true ∧ answ kvs S m = isTree kvs t
  have h0 : I [.val a, .val t, .val (.dct kvs), .cel true (.lst [.tup [t, .int 1]]), .val (.int 0), .emp, .emp, .emp] := by
    refine ⟨[(t, 1)], 0, .emp, .emp, rfl, ?_, by omega, ?_, ?_⟩
    · show sizes [t] + 0 ≤ _
      show size t + 0 + 0 ≤ _
      omega
    · show (t.ok && true) = true
      rw [ht]; rfl
    · show ((wf kvs t && decide (1 + hgt t ≤ 41)) && true && decide (0 + (size t + 0) ≤ 4000)) = (wf kvs t && decide (hgt t ≤ 40) && decide (size t ≤ 4000))
      have e1 : decide (1 + hgt t ≤ 41) = decide (hgt t ≤ 40) := decide_eq_decide.mpr (by omega)
      rw [Bool.and_true, Nat.zero_add, Nat.add_zero, e1]
  have pop : ∀ S : List (D × Nat), S ≠ [] → ∃ S' q, S = S' ++ [q] := fun S h => ⟨S.dropLast, S.getLast h, (List.dropLast_concat_getLast h).symm⟩
  let μ : Env' → Nat := fun e => match e with
    | [_, _, _, .cel _ (.lst ds), _, _, _, _] => sizes (ds.map fun d => match d with | .tup [x, _] => x | x => x)
    | _ => 0
  have hμ : ∀ (S : List (D × Nat)) (s4 s5 s6 s7 : Slot), μ [.val a, .val t, .val (.dct kvs), .cel true (.lst (stk S)), s4, s5, s6, s7] = tot S := by
    intro S s4 s5 s6 s7
    show sizes ((stk S).map _) = sizes _
    rw [List.map_map]
    rfl
  refine while_W I μ (fun e ⟨S, m, s5, s6, he, h1, h2, h3, h4⟩ => ?_) h0
  subst he
  by_cases hS : S = []
  · subst hS
    refine ⟨false, _, by dsimp! only [List.map_nil]; rfl, fun _ => ⟨?_, _, _, _, _, _, _, rfl⟩, fun q => by cases q⟩
    rw [← h4]
    show (true && decide (m + 0 ≤ 4000)) = true
    rw [decide_eq_true (by omega)]; rfl
  · obtain ⟨S', ⟨one, deep⟩, rfl⟩ := pop S hS
    have c : (0 : Int) < ((stk (S' ++ [(one, deep)])).length : Int) := by rw [List.length_map, List.length_append, List.length_singleton]; omega
    refine ⟨true, [.val a, .val t, .val (.dct kvs), .cel true (.lst (stk (S' ++ [(one, deep)]))), .val (.int m), s5, s6, .emp], ?_, (fun q => by cases q), fun _ => ?_⟩
    · have := c
      dsimp! only [c, decide_eq_true c]
    · have ho : one.ok = true := by
        have := List.all_eq_true.mp h3 (one, deep) (by simp)
        exact this
      have w := b1_is_tree_ok kvs hk a t S' one deep m s5 s6 ho h1 h2 h3 _ h4
      revert w
      generalize b1_is_tree _ = r
      intro w
      cases r with
      | nx e =>
        obtain ⟨S2, t5, t6, rfl, k1, k2, k3, k4⟩ := w
        refine ⟨⟨S2, m + 1, t5, t6, rfl, by omega, k2, k3, k4⟩, ?_⟩
        have e1 := hμ S2 (.val (.int ((m + 1 : Nat) : Int))) t5 t6 .emp
        have e2 := hμ (S' ++ [(one, deep)]) (.val (.int m)) s5 s6 .emp
        exact Nat.lt_of_lt_of_eq (Nat.lt_of_le_of_lt (Nat.le_of_eq e1) (by omega)) e2.symm
      | ct e =>
        obtain ⟨S2, t5, t6, rfl, k1, k2, k3, k4⟩ := w
        refine ⟨⟨S2, m + 1, t5, t6, rfl, by omega, k2, k3, k4⟩, ?_⟩
        have e1 := hμ S2 (.val (.int ((m + 1 : Nat) : Int))) t5 t6 .emp
        have e2 := hμ (S' ++ [(one, deep)]) (.val (.int m)) s5 s6 .emp
        exact Nat.lt_of_lt_of_eq (Nat.lt_of_le_of_lt (Nat.le_of_eq e1) (by omega)) e2.symm
      | bk e => exact w.elim
      | ret d e => exact w
      | rnew _ _ => exact w.elim
      | exc _ _ _ => exact w.elim
      | bad => exact w.elim
theorem is_tree_eq (rs : List (Str × Int)) (t : D) (ho : oks (rs.map mkR) = true) (hr : areRanks (.tup (rs.map mkR)) = true) (ht : t.ok = true) (hs : size t ≤ 1000000) :
    f_is_tree [.val (.tup (rs.map mkR)), .val t] = .ret (.bl (isTree (knw rs) t)) [.val (.tup (rs.map mkR)), .val t] := by
  have w := is_tree_loop (knw rs) (knw_int rs) (.tup (rs.map mkR)) t ht hs
  have hl := look_at_ranks_eq (.tup (rs.map mkR)) ho
  rw [if_pos hr] at hl
  revert w
  dsimp! only [f_is_tree, m_is_tree, hl, fDict_rks]
  generalize l1_is_tree _ = r
  intro w
  cases r with
  | nx e =>
    obtain ⟨h1, s2, s3, s4, s5, s6, s7, rfl⟩ := w
    rw [h1]
    rfl
  | ret d e =>
    obtain ⟨rfl, h1, s2, s3, s4, s5, s6, s7, rfl⟩ := w
    rw [h1]
    rfl
  | bk e => exact w.elim
  | ct e => exact w.elim
  | rnew _ _ => exact w.elim
  | exc _ _ _ => exact w.elim
  | bad => exact w.elim
end K00
end Mi
namespace Mi
open PySem PySem.Spec L2
open PyProof.Rows hiding St
local macro_rules | `(tactic| dsimp! only [$ls,*]) => `(tactic| (simp -dsimp only [xb_ok, xb_exc, xb_bad, xb_ite, xo_ok, xo_exc, xo_bad, xo_ite, xp_some, xp_none, xp_ite, xe_some, xe_none, xs_nx, xs_bk, xs_ct, xs_ret, xs_rnew, xs_exc, xs_bad, xs_ite,
     xf_ite, xk_ite, xm_seq, xm_fn, xm_call, xm_callN, xm_and, xm_or, xk_and, xk_or, xa_0, xa_1, xa_n, xa_nat, xi_n, xi_nat, Int.ofNat_lt, Int.ofNat_le,
     xf_ret, xf_rnew, xf_nx, xf_exc, xf_bad, xk_ret, xk_exc, xk_bad, xn_new, xn_exc, finS, backE, argSlots, mutIx, frzAt, xm_skip, xm_drop, xm_ret, xm_retN, xm_retF, xm_ifS, xm_asg, xm_asgNew, xm_lstC, xm_mut, xm_set, xm_aug, xm_pre, xm_C, xm_nm, xm_ex, xm_val, xm_nil, xm_cons, xm_bin, xm_binF, xm_un, xm_isi, xm_callD, xm_callF, xm_owns, xm_isT, xm_andT, xm_orT, xm_not, xm_notV, xm_if, xm_meth, xm_slice, xm_noP, xm_P, xm_chain, xk_chain, xm_fr, xm_frL, xm_raise, xm_yes, xm_newD, xg_N, xg_nil, xg_cons, xg_T,
     slotD, slotV, Arg.rd, Arg.own, rds, owns, Cell.frz, Cell.ty, dTup, dLst, dAdd, dSub, dMod, dDiv, dPow, dMulI, dMul, dInts, dNeg, dLt, dLe, dGt, dGe, dCmpI, dIxD, dIx, dIs, dIsNot, D.isNon, dLen, isTy, dIntOf, dListOf, dTupOf, cAppend, xpop, cSetX, cSetL, dAddI,
     List.length_cons, List.length_nil, List.getElem?_cons_zero, List.getElem?_cons_succ, List.getElem?_nil, List.set_cons_zero, List.set_cons_succ, List.set_nil, List.cons_append, List.nil_append, List.append_nil, List.replicate, List.nodup_cons, List.not_mem_nil, List.nodup_nil, List.mem_singleton,
     Option.map_some, Option.map_none, Option.bind_some, Option.bind_none, if_true, if_false, ite_true, ite_false, reduceIte, reduceCtorEq, not_false_eq_true, not_true_eq_false, and_true, true_and, and_false, false_and, or_true, true_or, or_false, false_or, decide_eq_true_eq, Bool.not_true, Bool.not_false, Bool.true_eq_false, Bool.false_eq_true, Nat.reduceAdd, Nat.reduceSub, Nat.reduceEqDiff, Nat.reduceLeDiff, Nat.reduceLT, Nat.reduceMul, Int.reduceAdd, Int.reduceLT, Int.reduceLE, Int.reduceNeg, Int.reduceSub, Int.reduceToNat, Int.reducePow, Int.reduceMul, Int.natCast_add, Int.cast_ofNat_Int, Int.sub_zero, gt_iff_lt, ge_iff_le, String.reduceEq, String.reduceBEq, beq_self_eq_true, Nat.zero_add, sizeLine, Nat.reducePow, decide_true, decide_false, $ls,*]))
theorem xm_par {is : List Nat} {m : M (List AX)} {env : Env'} : mParX is m env = (m env).so fun as env => So.optE (stX is as env) := rfl
theorem xx_nil {env : Env'} : xNil env = .ok [] env := rfl
theorem xx_val {m : M D} {n : M (List AX)} {env : Env'} : xVal m n env = (m env).bind fun d env => (n env).bind fun as env => .ok (.v d :: as) env := rfl
def Slot.nc : Slot → Bool
  | .cel _ _ => false
  | _ => true
namespace K00
/-! ### the law's own trees, level by level -/
def node1 : D → Bool
  | .tup (.str _ :: _) => true
  | _ => false
def nodeA (kvs : List (D × D)) : D → Bool
  | .tup (.str x :: r) => decide (arOf kvs x = some (r.length : Int))
  | _ => false
def kids : D → List D
  | .tup (_ :: r) => r
  | _ => []
theorem c1__law_is_tree_eq (a t m i : D) (L : List D) (s5 s6 : Slot) (h5 : s5.nc = true) (ho : oks L = true) (hl : L.length ≤ sizeLine) : c1__law_is_tree [.val a, .val t, .val (.lst L), .val m, .val i, s5, s6] = .ok (.lst (L.map fun d => .bl (node1 d))) [.val a, .val t, .val (.lst L), .val m, .val i, s5, s6] := by
  refine mcomp_map (ds := L) _ rfl (by cases s5 <;> first | rfl | cases h5) hl rfl fun d hd => ?_
  have hd := oks_iff.mp ho d hd
  match d, hd with
  | .non, _ => dsimp! only [cStep, xl_0, xl_1, xx_ok, node1]
  | .bl _, _ => dsimp! only [cStep, xl_0, xl_1, xx_ok, node1]
  | .int _, _ => dsimp! only [cStep, xl_0, xl_1, xx_ok, node1]
  | .str _, _ => dsimp! only [cStep, xl_0, xl_1, xx_ok, node1]
  | .lst _, _ => dsimp! only [cStep, xl_0, xl_1, xx_ok, node1]
  | .tup [], _ => dsimp! only [cStep, xl_0, xl_1, xx_ok, node1]
  | .tup (x :: r), hd =>
    have c : (0 : Int) < (r.length : Int) + 1 := by omega
    have hx := oks_iff.mp hd x (by simp)
    match x, hx with
    | .non, _ => dsimp! only [cStep, xl_0, xl_1, xx_ok, node1, c]
    | .bl _, _ => dsimp! only [cStep, xl_0, xl_1, xx_ok, node1, c]
    | .int _, _ => dsimp! only [cStep, xl_0, xl_1, xx_ok, node1, c]
    | .str _, _ => dsimp! only [cStep, xl_0, xl_1, xx_ok, node1, c]
    | .lst _, _ => dsimp! only [cStep, xl_0, xl_1, xx_ok, node1, c]
    | .tup _, _ => dsimp! only [cStep, xl_0, xl_1, xx_ok, node1, c]
theorem c2__law_is_tree_eq (rs : List (Str × Int)) (t m i : D) (L : List D) (s5 s6 : Slot) (h5 : s5.nc = true) (hn : L.all node1 = true) (hl : L.length ≤ sizeLine) :
    c2__law_is_tree [.val (.tup (rs.map mkR)), .val t, .val (.lst L), .val m, .val i, s5, s6] = .ok (.lst (L.map fun d => .bl (nodeA (knw rs) d))) [.val (.tup (rs.map mkR)), .val t, .val (.lst L), .val m, .val i, s5, s6] := by
  refine mcomp_map (ds := L) _ rfl (by cases s5 <;> first | rfl | cases h5) hl rfl fun d hd => ?_
  have hd := List.all_eq_true.mp hn d hd
  match d, hd with
  | .tup (.str x :: r), _ =>
    cases ea : arOf (knw rs) x with
    | none =>
      have c4 : ¬ ((r.length : Int) + 1 - 1 = -9) := by omega
      dsimp! only [cStep, xl_0, xl_1, xx_ok, nodeA, fDict_rks, tyOk, dGetF, D.flat0, keyOf, find_int (knw_int rs), ea, eq_ii, Option.getD, c4]
    | some j =>
      have c4 : decide ((r.length : Int) + 1 - 1 = j) = decide (j = (r.length : Int)) := decide_eq_decide.mpr (by omega)
      dsimp! only [cStep, xl_0, xl_1, xx_ok, nodeA, fDict_rks, tyOk, dGetF, D.flat0, keyOf, find_int (knw_int rs), ea, eq_ii, Option.getD, c4, Option.some.injEq]
theorem l1_law_tree (a t lv m i : D) : ∀ (L acc : List D) (s5 : Slot), L.all node1 = true → acc.length + (L.flatMap kids).length ≤ 1000000 → s5.nc = true →
    ∃ s5', s5'.nc = true ∧ forL none (gN 5) b1__law_is_tree L [.val a, .val t, .val lv, .val m, .val i, s5, .val (.lst acc)] = .nx [.val a, .val t, .val lv, .val m, .val i, s5', .val (.lst (acc ++ L.flatMap kids))]
  | [], acc, s5, _, _, h5 => ⟨s5, h5, by unfold forL; rw [if_pos (by trivial : Wat.ok none _)]; simp⟩
  | d :: L, acc, s5, hn, hl, _ => by
    rw [List.all_cons, Bool.and_eq_true] at hn
    match d, hn.1 with
    | .tup (.str x :: r), _ =>
      have e : (D.tup (.str x :: r) :: L).flatMap kids = r ++ L.flatMap kids := rfl
      rw [e, List.length_append] at hl
      obtain ⟨s5', h1, h2⟩ := l1_law_tree a t lv m i L (acc ++ r) (.val (.tup (.str x :: r))) hn.2 (by rw [List.length_append]; omega) rfl
      refine ⟨s5', h1, ?_⟩
      rw [e, ← List.append_assoc, ← h2]
      conv => lhs; unfold forL
      rw [if_pos (by trivial : Wat.ok none _)]
      have hl' : acc.length + r.length ≤ 16777216 := by omega
      have hb : b1__law_is_tree [.val a, .val t, .val lv, .val m, .val i, .val (.tup (.str x :: r)), .val (.lst acc)] = .nx [.val a, .val t, .val lv, .val m, .val i, .val (.tup (.str x :: r)), .val (.lst (acc ++ r))] := by
        dsimp! only [b1__law_is_tree, dSl, cut_tail, hl']
      show (match b1__law_is_tree [.val a, .val t, .val lv, .val m, .val i, .val (.tup (.str x :: r)), .val (.lst acc)] with
        | .nx e => forL none (gN 5) b1__law_is_tree L e
        | .ct e => forL none (gN 5) b1__law_is_tree L e
        | .bk e => .nx e
        | r => r) = _
      rw [hb]
def good2 (kvs : List (D × D)) (i : Nat) (d : D) : Bool := wf kvs d && decide (i + hgt d ≤ 40)
def ans2 (kvs : List (D × D)) (L : List D) (m i : Nat) : Bool := L.all (good2 kvs i) && decide (m + sizes L ≤ 4000)
theorem sizes_kids : ∀ {L : List D}, L.all node1 = true → sizes L = L.length + sizes (L.flatMap kids)
  | [], _ => rfl
  | d :: L, hn => by
    rw [List.all_cons, Bool.and_eq_true] at hn
    match d, hn.1 with
    | .tup (.str x :: r), _ =>
      show 1 + sizes r + sizes L = L.length + 1 + sizes (r ++ L.flatMap kids)
      rw [sizes_append, sizes_kids hn.2]; omega
theorem good_kids {kvs : List (D × D)} {i : Nat} (hi : i + 1 ≤ 40) : ∀ {L : List D}, L.all (nodeA kvs) = true → L.all (good2 kvs i) = (L.flatMap kids).all (good2 kvs (i + 1))
  | [], _ => rfl
  | d :: L, hn => by
    rw [List.all_cons, Bool.and_eq_true] at hn
    match d, hn.1 with
    | .tup (.str x :: r), h1 =>
      have e : (D.tup (.str x :: r) :: L).flatMap kids = r ++ L.flatMap kids := rfl
      rw [e, List.all_append, List.all_cons, good_kids hi hn.2]
      congr 1
      rw [Bool.eq_iff_iff]
      show ((nodeA kvs (.tup (.str x :: r)) && wfs kvs r) && decide (i + (1 + hgts r) ≤ 40)) = true ↔ _
      rw [h1, Bool.true_and, Bool.and_eq_true, wfs_iff, decide_eq_true_eq, List.all_eq_true]
      constructor
      · rintro ⟨h3, h4⟩ d hd
        have : hgts r ≤ 39 - i := by omega
        have := hgts_le.mp this d hd
        unfold good2
        rw [Bool.and_eq_true, decide_eq_true_eq]
        exact ⟨h3 d hd, by omega⟩
      · intro h
        refine ⟨fun d hd => ?_, ?_⟩
        · have := h d hd
          unfold good2 at this
          rw [Bool.and_eq_true] at this
          exact this.1
        · have : hgts r ≤ 39 - i := hgts_le.mpr fun d hd => by
            have := h d hd
            unfold good2 at this
            rw [Bool.and_eq_true, decide_eq_true_eq] at this
            omega
          omega
theorem wf_node {kvs : List (D × D)} {d : D} (h : wf kvs d = true) : node1 d = true ∧ nodeA kvs d = true := by
  match d, h with
  | .tup (.str x :: r), h =>
    have h : (nodeA kvs (.tup (.str x :: r)) && wfs kvs r) = true := h
    rw [Bool.and_eq_true] at h
    exact ⟨rfl, h.1⟩
theorem oks_kids {L : List D} (h : oks L = true) : oks (L.flatMap kids) = true := oks_iff.mpr fun d hd => by
  obtain ⟨x, hx, hd⟩ := List.mem_flatMap.mp hd
  have := oks_iff.mp h x hx
  match x, this, hd with
  | .tup (y :: r), h, hd => exact oks_iff.mp h d (List.mem_cons_of_mem _ hd)
theorem xm_mFor {m : M Src} {g : MG} {b : MS} {env env' : Env'} {ds : List D} (h : m env = .ok (ds, none) env') : mFor m g b env = forL none g b ds env' := xm_for h
theorem bad2 {kvs : List (D × D)} {L : List D} {m i : Nat} (h : ¬ ∀ d ∈ L, good2 kvs i d = true) : ans2 kvs L m i = false := by
  unfold ans2
  rw [Bool.and_eq_false_iff]
  left
  rw [Bool.eq_false_iff]
  exact fun q => h (List.all_eq_true.mp q)
theorem b2_law_is_tree_ok (rs : List (Str × Int)) (t : D) (L : List D) (m i : Nat) (s5 s6 : Slot) (h5 : s5.nc = true) (hi : i ≤ 40) (ho : oks L = true) (hs : m + sizes L ≤ 1000000) (A : Bool) (hA : ans2 (knw rs) L m i = A) :
    (b2__law_is_tree [.val (.tup (rs.map mkR)), .val t, .val (.lst L), .val (.int m), .val (.int i), s5, s6]).WL
      (fun e => ∃ (L' : List D) (m' : Nat) (s5 s6 : Slot), e = [.val (.tup (rs.map mkR)), .val t, .val (.lst L'), .val (.int m'), .val (.int i), s5, s6] ∧ s5.nc = true ∧ oks L' = true ∧ m' + sizes L' ≤ 1000000 ∧ (i + 1 ≤ 40 → ans2 (knw rs) L' m' (i + 1) = A) ∧ (i = 40 → A = false))
      (fun _ => False) (fun d e => d = .bl A ∧ ∃ s2 s3 s4 s5 s6, e = [.val (.tup (rs.map mkR)), .val t, s2, s3, s4, s5, s6]) := by
  by_cases hL : L = []
  · subst hL
    have e : decide ((m : Int) + 0 ≤ 4000) = A := by
      rw [← hA]
      show _ = (true && decide (m + 0 ≤ 4000))
      rw [Bool.true_and]
      exact decide_eq_decide.mpr (by omega)
    dsimp! only [b2__law_is_tree, eq_ii, So.WL, e, Int.reduceEq]
    exact ⟨_, _, _, _, _, rfl⟩
  · have hlen : L.length ≤ sizes L := sizes_len L
    have hl : L.length ≤ sizeLine := by show L.length ≤ 16777216; omega
    have c0 : ¬ ((L.length : Int) = 0) := by
      cases L with
      | nil => exact absurd rfl hL
      | cons x L => simp; omega
    by_cases hn : L.all node1 = true
    · by_cases hna : L.all (nodeA (knw rs)) = true
      · have hsz := sizes_kids hn
        have hkl : (L.flatMap kids).length ≤ sizes (L.flatMap kids) := sizes_len _
        obtain ⟨s5', h5', hloop⟩ := l1_law_tree (.tup (rs.map mkR)) t (.lst L) (.int ((m : Int) + (L.length : Int))) (.int i) L [] s5 hn (by simp only [List.length_nil]; omega) h5
        have hf : l1__law_is_tree [.val (.tup (rs.map mkR)), .val t, .val (.lst L), .val (.int ((m : Int) + (L.length : Int))), .val (.int i), s5, .val (.lst [])] = .nx [.val (.tup (rs.map mkR)), .val t, .val (.lst L), .val (.int ((m : Int) + (L.length : Int))), .val (.int i), s5', .val (.lst (L.flatMap kids))] := by
          have := xm_mFor (m := mSrc (mNm 2)) (g := gN 5) (b := b1__law_is_tree) (env := [.val (.tup (rs.map mkR)), .val t, .val (.lst L), .val (.int ((m : Int) + (L.length : Int))), .val (.int i), s5, .val (.lst [])]) (ds := L) (env' := _) rfl
          exact this.trans hloop
        dsimp! only [b2__law_is_tree, eq_ii, c0, c1__law_is_tree_eq _ _ _ _ L s5 _ h5 ho hl, c2__law_is_tree_eq rs _ _ _ L s5 _ h5 hn hl, xd_all, hn, hna, hf, So.WL]
        refine ⟨L.flatMap kids, m + L.length, s5', .val (.lst (L.flatMap kids)), by simp, h5', oks_kids ho, by omega, fun hi => ?_, fun hi => ?_⟩
        · rw [← hA]
          unfold ans2
          rw [good_kids (by omega) hna, hsz]
          congr 1
          exact decide_eq_decide.mpr (by omega)
        · rw [← hA]
          refine bad2 fun h => ?_
          cases L with
          | nil => exact hL rfl
          | cons x L =>
            have := h x List.mem_cons_self
            unfold good2 at this
            rw [Bool.and_eq_true, decide_eq_true_eq] at this
            have := hgt_pos x
            omega
      · have hf : A = false := by
          rw [← hA]
          refine bad2 fun h => hna (List.all_eq_true.mpr fun d hd => ?_)
          have := h d hd
          unfold good2 at this
          rw [Bool.and_eq_true] at this
          exact (wf_node this.1).2
        have hna : L.all (nodeA (knw rs)) = false := by simpa using hna
        dsimp! only [b2__law_is_tree, eq_ii, c0, c1__law_is_tree_eq _ _ _ _ L s5 s6 h5 ho hl, c2__law_is_tree_eq rs _ _ _ L s5 s6 h5 hn hl, xd_all, hn, hna, So.WL, hf]
        exact ⟨_, _, _, _, _, rfl⟩
    · have hf : A = false := by
        rw [← hA]
        refine bad2 fun h => hn (List.all_eq_true.mpr fun d hd => ?_)
        have := h d hd
        unfold good2 at this
        rw [Bool.and_eq_true] at this
        exact (wf_node this.1).1
      have hn : L.all node1 = false := by simpa using hn
      dsimp! only [b2__law_is_tree, eq_ii, c0, c1__law_is_tree_eq _ _ _ _ L s5 s6 h5 ho hl, xd_all, hn, So.WL, hf]
      exact ⟨_, _, _, _, _, rfl⟩
theorem rng1 (n : Int) (h : n < 2 ^ 62) (h' : -(2 ^ 62) ≤ n) : dRng1 [.int n] = some (0, n.toNat) := if_pos ⟨h', h⟩
theorem law_tree_loop (rs : List (Str × Int)) (t : D) (ht : t.ok = true) (hs : size t ≤ 1000000) :
    (l2__law_is_tree [.val (.tup (rs.map mkR)), .val t, .val (.lst [t]), .val (.int 0), .emp, .emp, .emp]).W
      (fun e => isTree (knw rs) t = false ∧ ∃ s2 s3 s4 s5 s6, e = [.val (.tup (rs.map mkR)), .val t, s2, s3, s4, s5, s6])
      (fun d e => d = .bl (isTree (knw rs) t) ∧ ∃ s2 s3 s4 s5 s6, e = [.val (.tup (rs.map mkR)), .val t, s2, s3, s4, s5, s6]) := by
  have hm : (mRng dRng1 (mCons (mEx (mC (.int 41))) (mNil))) [.val (.tup (rs.map mkR)), .val t, .val (.lst [t]), .val (.int 0), .emp, .emp, .emp] = .ok ((List.range 41).map fun i => D.int (0 + (i : Nat)), none) [.val (.tup (rs.map mkR)), .val t, .val (.lst [t]), .val (.int 0), .emp, .emp, .emp] := rfl
  unfold l2__law_is_tree
  rw [xm_for hm]
  refine for_W (I := fun i e => ∃ (L : List D) (m : Nat) (s4 s5 s6 : Slot), e = [.val (.tup (rs.map mkR)), .val t, .val (.lst L), .val (.int m), s4, s5, s6] ∧ s5.nc = true ∧ oks L = true ∧ m + sizes L ≤ 1000000 ∧ (i ≤ 40 → ans2 (knw rs) L m i = isTree (knw rs) t) ∧ (i = 41 → isTree (knw rs) t = false)) _ 0 _
    ⟨[t], 0, .emp, .emp, .emp, rfl, rfl, oks_iff.mpr (by intro d hd; rw [List.mem_singleton] at hd; subst hd; exact ht), by show 0 + (size t + 0) ≤ _; omega, fun _ => ?_, fun h => by omega⟩ (fun i d hd e ⟨L, m, s4, s5, s6, he, h5, ho, hsz, hA, _⟩ => ?_) (fun e ⟨L, m, s4, s5, s6, he, _, _, _, _, hA⟩ => ?_)
  · show ((wf (knw rs) t && decide (0 + hgt t ≤ 40)) && true && decide (0 + (size t + 0) ≤ 4000)) = (wf (knw rs) t && decide (hgt t ≤ 40) && decide (size t ≤ 4000))
    rw [Bool.and_true, Nat.zero_add, Nat.zero_add, Nat.add_zero]
  · subst he
    have hlt : i < 41 := by
      have := (List.getElem?_eq_some_iff.mp hd).1
      simpa using this
    rw [List.getElem?_map, List.getElem?_range hlt] at hd
    have hd : some (D.int (0 + (i : Nat))) = some d := hd
    cases hd
    refine ⟨_, rfl, ?_⟩
    have w := b2_law_is_tree_ok rs t L m i s5 s6 h5 (by omega) ho hsz (isTree (knw rs) t) (by rw [Nat.zero_add] at hA; exact hA (by omega))
    rw [show ((0 : Int) + (i : Nat)) = (i : Int) by omega]
    show (b2__law_is_tree [.val (.tup (rs.map mkR)), .val t, .val (.lst L), .val (.int m), .val (.int i), s5, s6]).WL _ _ _
    revert w
    generalize b2__law_is_tree _ = r
    intro w
    have nxt : ∀ e, (∃ (L' : List D) (m' : Nat) (s5 s6 : Slot), e = [.val (.tup (rs.map mkR)), .val t, .val (.lst L'), .val (.int m'), .val (.int i), s5, s6] ∧ s5.nc = true ∧ oks L' = true ∧ m' + sizes L' ≤ 1000000 ∧ (i + 1 ≤ 40 → ans2 (knw rs) L' m' (i + 1) = isTree (knw rs) t) ∧ (i = 40 → isTree (knw rs) t = false)) →
        ∃ (L : List D) (m : Nat) (s4 s5 s6 : Slot), e = [.val (.tup (rs.map mkR)), .val t, .val (.lst L), .val (.int m), s4, s5, s6] ∧ s5.nc = true ∧ oks L = true ∧ m + sizes L ≤ 1000000 ∧ (0 + i + 1 ≤ 40 → ans2 (knw rs) L m (0 + i + 1) = isTree (knw rs) t) ∧ (0 + i + 1 = 41 → isTree (knw rs) t = false) := by
      rintro e ⟨L', m', s5, s6, rfl, k1, k2, k3, k4, k5⟩
      exact ⟨L', m', _, s5, s6, rfl, k1, k2, k3, by rw [Nat.zero_add]; exact k4, fun h => k5 (by omega)⟩
    cases r with
    | nx e => exact nxt e w
    | ct e => exact nxt e w
    | bk e => exact w.elim
    | ret d e => exact w
    | rnew _ _ => exact w.elim
    | exc _ _ _ => exact w.elim
    | bad => exact w.elim
  · exact ⟨hA (by simp), _, _, _, _, _, he⟩
theorem law_is_tree_eq (rs : List (Str × Int)) (t : D) (ht : t.ok = true) (hs : size t ≤ 1000000) :
    f__law_is_tree [.val (.tup (rs.map mkR)), .val t] = .ret (.bl (isTree (knw rs) t)) [.val (.tup (rs.map mkR)), .val t] := by
  have w := law_tree_loop rs t ht hs
  revert w
  dsimp! only [f__law_is_tree, m__law_is_tree, xm_par, xx_nil, xx_val, stX]
  generalize l2__law_is_tree _ = r
  intro w
  cases r with
  | nx e =>
    obtain ⟨h1, s2, s3, s4, s5, s6, rfl⟩ := w
    rw [h1]
    rfl
  | ret d e =>
    obtain ⟨rfl, s2, s3, s4, s5, s6, rfl⟩ := w
    rfl
  | bk e => exact w.elim
  | ct e => exact w.elim
  | rnew _ _ => exact w.elim
  | exc _ _ _ => exact w.elim
  | bad => exact w.elim
end K00
end Mi
namespace Mi
open PySem PySem.Spec L2
open PyProof.Rows hiding St
local macro_rules | `(tactic| dsimp! only [$ls,*]) => `(tactic| (simp -dsimp only [xb_ok, xb_exc, xb_bad, xb_ite, xo_ok, xo_exc, xo_bad, xo_ite, xp_some, xp_none, xp_ite, xe_some, xe_none, xs_nx, xs_bk, xs_ct, xs_ret, xs_rnew, xs_exc, xs_bad, xs_ite,
     xf_ite, xk_ite, xm_seq, xm_fn, xm_call, xm_callN, xm_and, xm_or, xk_and, xk_or, xa_0, xa_1, xa_n, xa_nat, xi_n, xi_nat, Int.ofNat_lt, Int.ofNat_le,
     xf_ret, xf_rnew, xf_nx, xf_exc, xf_bad, xk_ret, xk_exc, xk_bad, xn_new, xn_exc, finS, backE, argSlots, mutIx, frzAt, xm_skip, xm_drop, xm_ret, xm_retN, xm_retF, xm_ifS, xm_asg, xm_asgNew, xm_lstC, xm_mut, xm_set, xm_aug, xm_pre, xm_C, xm_nm, xm_ex, xm_val, xm_nil, xm_cons, xm_bin, xm_binF, xm_un, xm_isi, xm_callD, xm_callF, xm_owns, xm_isT, xm_andT, xm_orT, xm_not, xm_notV, xm_if, xm_meth, xm_slice, xm_noP, xm_P, xm_chain, xk_chain, xm_fr, xm_frL, xm_raise, xm_yes, xm_newD, xg_N, xg_nil, xg_cons, xg_T,
     slotD, slotV, Arg.rd, Arg.own, rds, owns, Cell.frz, Cell.ty, dTup, dLst, dAdd, dSub, dMod, dDiv, dPow, dMulI, dMul, dInts, dNeg, dLt, dLe, dGt, dGe, dCmpI, dIxD, dIx, dIs, dIsNot, D.isNon, dLen, isTy, dIntOf, dListOf, dTupOf, cAppend, xpop, cSetX, cSetL, dAddI,
     List.length_cons, List.length_nil, List.getElem?_cons_zero, List.getElem?_cons_succ, List.getElem?_nil, List.set_cons_zero, List.set_cons_succ, List.set_nil, List.cons_append, List.nil_append, List.append_nil, List.replicate, List.nodup_cons, List.not_mem_nil, List.nodup_nil, List.mem_singleton,
     Option.map_some, Option.map_none, Option.bind_some, Option.bind_none, if_true, if_false, ite_true, ite_false, reduceIte, reduceCtorEq, not_false_eq_true, not_true_eq_false, and_true, true_and, and_false, false_and, or_true, true_or, or_false, false_or, decide_eq_true_eq, Bool.not_true, Bool.not_false, Bool.true_eq_false, Bool.false_eq_true, Nat.reduceAdd, Nat.reduceSub, Nat.reduceEqDiff, Nat.reduceLeDiff, Nat.reduceLT, Nat.reduceMul, Int.reduceAdd, Int.reduceLT, Int.reduceLE, Int.reduceNeg, Int.reduceSub, Int.reduceToNat, Int.reducePow, Int.reduceMul, Int.natCast_add, Int.cast_ofNat_Int, Int.sub_zero, gt_iff_lt, ge_iff_le, String.reduceEq, String.reduceBEq, beq_self_eq_true, Nat.zero_add, sizeLine, Nat.reducePow, decide_true, decide_false, $ls,*]))
def So.tryK (r : So) (cat : Str → Option Bool) (i : Nat) (sm : Str → List (Str × D) → MS) (_ : Tg (cat, i, sm) := ()) : So := match r with
  | .exc c fs e => (match flatFs fs, cat c with
    | some _, some true => (sm c fs (e.set i (.val .exo))).outX i
    | some _, some false => .exc c fs e
    | _, _ => .bad)
  | r => r
section
variable {cat : Str → Option Bool} {i : Nat} {sm : Str → List (Str × D) → MS} {mb : MS} {env e : Env'} {c : Str} {fs : List (Str × D)} {d : D}
theorem xm_try : mTry mb cat i sm env = (mb env).tryK cat i sm := rfl
theorem xt_exc : (So.exc c fs e).tryK cat i sm = match flatFs fs, cat c with
    | some _, some true => (sm c fs (e.set i (.val .exo))).outX i
    | some _, some false => .exc c fs e
    | _, _ => .bad := rfl
theorem xt_ret : (So.ret d e).tryK cat i sm = .ret d e := rfl
theorem xt_nx : (So.nx e).tryK cat i sm = .nx e := rfl
theorem xt_ite {p : Prop} [Decidable p] {a b : So} : (if p then a else b).tryK cat i sm = if p then a.tryK cat i sm else b.tryK cat i sm := by split <;> rfl
theorem xw_ret : (So.ret d e).outX i = if d.noX = true then (match Mi.outX (e.set i .emp) with | some e' => .ret d e' | none => .bad) else .bad := rfl
theorem xw_nil : outX [] = some [] := rfl
theorem xw_emp {r : Env'} : outX (.emp :: r) = (outX r).map (.emp :: ·) := rfl
theorem xw_val {r : Env'} : outX (.val d :: r) = (outX r).map ((if d.noX = true then .val d else .emp) :: ·) := rfl
theorem xw_isE {b : Bool} : mIsE i b env = match env[i]? with
  | some (.val .exo) => .ok (.bl b) env
  | _ => .bad := rfl
end
theorem eq_bb {a b : Bool} : dEq (.bl a) (.bl b) = some (.bl (a == b)) := rfl
theorem ne_bb {a b : Bool} : dNe (.bl a) (.bl b) = some (.bl (!(a == b))) := rfl
namespace K00
theorem same_bb (n : Nat) (a b : Bool) : r__law_same (n + 1) [.val (.bl a), .val (.bl b)] = .ret (.bl (a == b)) [.val (.bl a), .val (.bl b)] := by
  show mkFn 2 3 (m__law_same (fun _ => r__law_same n) n) [.val (.bl a), .val (.bl b)] = _
  dsimp! only [m__law_same, eq_bb]
theorem law_same_bb (a b : Bool) : f__law_same [.val (.bl a), .val (.bl b)] = .ret (.bl (a == b)) [.val (.bl a), .val (.bl b)] := same_bb 4 a b
theorem look_at_tree_eq (rs : List (Str × Int)) (t : D) (ho : oks (rs.map mkR) = true) (hr : areRanks (.tup (rs.map mkR)) = true) (ht : t.ok = true) (hs : size t ≤ 1000000) :
    f_look_at_tree [.val (.tup (rs.map mkR)), .val t] = if isTree (knw rs) t = true then .ret .non [.val (.tup (rs.map mkR)), .val t] else .exc "BadTree" [] [.val (.tup (rs.map mkR)), .val t] := by
  dsimp! only [f_look_at_tree, m_look_at_tree, is_tree_eq rs t ho hr ht hs]
  cases isTree (knw rs) t <;> rfl
theorem is_tree_bad (k : D) (t : D) (ho : k.ok = true) (hr : areRanks k = false) : f_is_tree [.val k, .val t] = .exc "BadRanks" [] [.val k, .val t] := by
  have hl := look_at_ranks_eq k ho
  rw [hr] at hl
  have hl : f_look_at_ranks [.val k] = .exc "BadRanks" [] [.val k] := hl
  dsimp! only [f_is_tree, m_is_tree, hl]
theorem look_at_tree_bad (k : D) (t : D) (ho : k.ok = true) (hr : areRanks k = false) : f_look_at_tree [.val k, .val t] = .exc "BadRanks" [] [.val k, .val t] := by
  dsimp! only [f_look_at_tree, m_look_at_tree, is_tree_bad k t ho hr]
theorem asked0 (v : D) (h : v.ok = true) : f__law_asked [.val (.int 0), .val v, .val .non] = .ret (if areRanks v = true then .non else .str "ranks") [.val (.int 0), .val v, .val .non] := by
  have hl := look_at_ranks_eq v h
  cases e : areRanks v with
  | true =>
    rw [e] at hl
    have hl : f_look_at_ranks [.val v] = .ret .non [.val v] := hl
    dsimp! only [f__law_asked, m__law_asked, xm_try, xt_exc, xt_ret, xt_nx, xt_ite, xw_ret, xw_nil, xw_emp, xw_val, xw_isE, eq_ii, hl]
  | false =>
    rw [e] at hl
    have hl : f_look_at_ranks [.val v] = .exc "BadRanks" [] [.val v] := hl
    have c1 : cat_TreeError "BadRanks" = some true := by decide +kernel
    have c2 : isa_BadRanks "BadRanks" = true := by decide +kernel
    dsimp! only [f__law_asked, m__law_asked, xm_try, xt_exc, xt_ret, xt_nx, xt_ite, xw_ret, xw_nil, xw_emp, xw_val, xw_isE, eq_ii, hl, c1, c2, flatFs, D.noX]
theorem asked1 (rs : List (Str × Int)) (t : D) (ho : oks (rs.map mkR) = true) (hr : areRanks (.tup (rs.map mkR)) = true) (ht : t.ok = true) (hs : size t ≤ 1000000) :
    f__law_asked [.val (.int 1), .val (.tup (rs.map mkR)), .val t] = .ret (if isTree (knw rs) t = true then .non else .str "tree") [.val (.int 1), .val (.tup (rs.map mkR)), .val t] := by
  have hl := look_at_tree_eq rs t ho hr ht hs
  have c0 : ¬ ((1 : Int) = 0) := by decide
  cases e : isTree (knw rs) t with
  | true =>
    rw [e] at hl
    have hl : f_look_at_tree [.val (.tup (rs.map mkR)), .val t] = .ret .non [.val (.tup (rs.map mkR)), .val t] := hl
    dsimp! only [f__law_asked, m__law_asked, xm_try, xt_exc, xt_ret, xt_nx, xt_ite, xw_ret, xw_nil, xw_emp, xw_val, xw_isE, eq_ii, hl, c0]
  | false =>
    rw [e] at hl
    have hl : f_look_at_tree [.val (.tup (rs.map mkR)), .val t] = .exc "BadTree" [] [.val (.tup (rs.map mkR)), .val t] := hl
    have c1 : cat_TreeError "BadTree" = some true := by decide +kernel
    have c2 : isa_BadRanks "BadTree" = false := by decide +kernel
    have c3 : isa_BadTree "BadTree" = true := by decide +kernel
    dsimp! only [f__law_asked, m__law_asked, xm_try, xt_exc, xt_ret, xt_nx, xt_ite, xw_ret, xw_nil, xw_emp, xw_val, xw_isE, eq_ii, hl, c0, c1, c2, c3, flatFs, D.noX]
theorem asked_bad (k t : D) (ho : k.ok = true) (hr : areRanks k = false) : f__law_asked [.val (.int 1), .val k, .val t] = .ret (.str "ranks") [.val (.int 1), .val k, .val t] := by
  have hl := look_at_tree_bad k t ho hr
  have c0 : ¬ ((1 : Int) = 0) := by decide
  have c1 : cat_TreeError "BadRanks" = some true := by decide +kernel
  have c2 : isa_BadRanks "BadRanks" = true := by decide +kernel
  dsimp! only [f__law_asked, m__law_asked, xm_try, xt_exc, xt_ret, xt_nx, xt_ite, xw_ret, xw_nil, xw_emp, xw_val, xw_isE, eq_ii, hl, c0, c1, c2, flatFs, D.noX]
end K00
end Mi
namespace Mi
open PySem PySem.Spec L2
open PyProof.Rows hiding St
local macro_rules | `(tactic| dsimp! only [$ls,*]) => `(tactic| (simp -dsimp only [xb_ok, xb_exc, xb_bad, xb_ite, xo_ok, xo_exc, xo_bad, xo_ite, xp_some, xp_none, xp_ite, xe_some, xe_none, xs_nx, xs_bk, xs_ct, xs_ret, xs_rnew, xs_exc, xs_bad, xs_ite,
     xf_ite, xk_ite, xm_seq, xm_fn, xm_call, xm_callN, xm_and, xm_or, xk_and, xk_or, xa_0, xa_1, xa_n, xa_nat, xi_n, xi_nat, Int.ofNat_lt, Int.ofNat_le,
     xf_ret, xf_rnew, xf_nx, xf_exc, xf_bad, xk_ret, xk_exc, xk_bad, xn_new, xn_exc, finS, backE, argSlots, mutIx, frzAt, xm_skip, xm_drop, xm_ret, xm_retN, xm_retF, xm_ifS, xm_asg, xm_asgNew, xm_lstC, xm_mut, xm_set, xm_aug, xm_pre, xm_C, xm_nm, xm_ex, xm_val, xm_nil, xm_cons, xm_bin, xm_binF, xm_un, xm_isi, xm_callD, xm_callF, xm_owns, xm_isT, xm_andT, xm_orT, xm_not, xm_notV, xm_if, xm_meth, xm_slice, xm_noP, xm_P, xm_chain, xk_chain, xm_fr, xm_frL, xm_raise, xm_yes, xm_newD, xg_N, xg_nil, xg_cons, xg_T,
     slotD, slotV, Arg.rd, Arg.own, rds, owns, Cell.frz, Cell.ty, dTup, dLst, dAdd, dSub, dMod, dDiv, dPow, dMulI, dMul, dInts, dNeg, dLt, dLe, dGt, dGe, dCmpI, dIxD, dIx, dIs, dIsNot, D.isNon, dLen, isTy, dIntOf, dListOf, dTupOf, cAppend, xpop, cSetX, cSetL, dAddI,
     List.length_cons, List.length_nil, List.getElem?_cons_zero, List.getElem?_cons_succ, List.getElem?_nil, List.set_cons_zero, List.set_cons_succ, List.set_nil, List.cons_append, List.nil_append, List.append_nil, List.replicate, List.nodup_cons, List.not_mem_nil, List.nodup_nil, List.mem_singleton,
     Option.map_some, Option.map_none, Option.bind_some, Option.bind_none, if_true, if_false, ite_true, ite_false, reduceIte, reduceCtorEq, not_false_eq_true, not_true_eq_false, and_true, true_and, and_false, false_and, or_true, true_or, or_false, false_or, decide_eq_true_eq, Bool.not_true, Bool.not_false, Bool.true_eq_false, Bool.false_eq_true, Nat.reduceAdd, Nat.reduceSub, Nat.reduceEqDiff, Nat.reduceLeDiff, Nat.reduceLT, Nat.reduceMul, Int.reduceAdd, Int.reduceLT, Int.reduceLE, Int.reduceNeg, Int.reduceSub, Int.reduceToNat, Int.reducePow, Int.reduceMul, Int.natCast_add, Int.cast_ofNat_Int, Int.sub_zero, gt_iff_lt, ge_iff_le, String.reduceEq, String.reduceBEq, beq_self_eq_true, Nat.zero_add, sizeLine, Nat.reducePow, decide_true, decide_false, $ls,*]))
/-- an item that is drawn -/
theorem DS.pick {α : Type} (s : DS) (xs : List α) (h : 0 < xs.length) : ∃ x ∈ xs, atI xs (s.val xs.length) = some x := by
  have h1 := s.val_nonneg (n := xs.length) (by omega)
  have h2 := s.val_lt (n := xs.length) (by omega)
  obtain ⟨k, hk⟩ := Int.eq_ofNat_of_zero_le h1
  have hk' : k < xs.length := by omega
  exact ⟨xs[k], List.getElem_mem hk', by rw [hk, xa_nat, List.getElem?_eq_getElem hk']⟩
theorem DS.popAt (s : DS) (xs : List D) (h : 0 < xs.length) (h2 : xs.length ≤ 1000000) : ∃ k, k < xs.length ∧ ∃ x, xs[k]? = some x ∧ x ∈ xs ∧ cPopAt (.lst xs) [.int (s.val xs.length)] = some (x, .lst (xs.eraseIdx k)) := by
  have h1 := s.val_nonneg (n := xs.length) (by omega)
  have h2 := s.val_lt (n := xs.length) (by omega)
  obtain ⟨k, hk⟩ := Int.eq_ofNat_of_zero_le h1
  have hk' : k < xs.length := by omega
  refine ⟨k, hk', xs[k], List.getElem?_eq_getElem hk', List.getElem_mem hk', ?_⟩
  show (if -(2 ^ 63) ≤ s.val xs.length ∧ s.val xs.length < 2 ^ 63 then (seqIndex? (s.val xs.length) xs.length).bind fun k => (xs[k]?).map fun d => (d, Cell.lst (xs.eraseIdx k)) else none) = _
  rw [if_pos ⟨by omega, by omega⟩, seqIndex_of h1 h2, hk]
  show (xs[((k : Nat) : Int).toNat]?).map _ = _
  rw [Int.toNat_natCast, List.getElem?_eq_getElem hk']
  rfl
theorem mRng_eq {f : List D → Option (Int × Nat)} {m : M (List Arg)} {env env' : Env'} {as : List Arg} {ds : List D} {lo : Int} {n : Nat} (h1 : m env = .ok as env') (h2 : owns env' as = some ds) (h3 : f ds = some (lo, n)) : mRng f m env = .ok ((List.range n).map fun i => D.int (lo + (i : Nat)), none) env' := by
  unfold mRng
  rw [h1]
  show R.opt (match owns env' as with
    | some ds => (f ds).map fun (lo, n) => ((List.range n).map fun i => D.int (lo + (i : Nat)), none)
    | none => none) env' = _
  rw [h2]
  show R.opt ((f ds).map fun (lo, n) => ((List.range n).map fun i => D.int (lo + (i : Nat)), none)) env' = _
  rw [h3]
  rfl
theorem rngN (r : Nat) (h : r ≤ 1000000) : dRng1 [.int (r : Int)] = some (0, r) := by
  rw [show dRng1 [.int (r : Int)] = if -(2 ^ 62) ≤ (r : Int) ∧ (r : Int) < 2 ^ 62 then some (0, (r : Int).toNat) else none from rfl, if_pos ⟨by omega, by omega⟩, Int.toNat_natCast]
theorem W_nx {r : So} {N : Env' → Prop} (h : r.W N fun _ _ => False) : ∃ e, r = .nx e ∧ N e := by
  cases r <;> first | exact ⟨_, rfl, h⟩ | exact h.elim
theorem atI_map {α β : Type} (f : α → β) {xs : List α} {i : Int} {x : α} (e : atI xs i = some x) : atI (xs.map f) i = some (f x) := by
  unfold atI at e ⊢
  rw [List.length_map]
  cases ei : ixN xs.length i with
  | none => rw [ei] at e; cases e
  | some k =>
    rw [ei] at e
    have e : xs[k]? = some x := e
    show (xs.map f)[k]? = _
    rw [List.getElem?_map, e]
    rfl
namespace K00
theorem law_draws_eq (ns : List Int) : f__law_draws [.val (.lst (ns.map .int))] = .new (DS.c ⟨ns, 0, 0, 1⟩) [.val (.lst (ns.map .int))] := by
  dsimp! only [f__law_draws, m__law_draws, DS.c]
def RK : List (List (Str × Int)) := [[("a", 0), ("f", 2)], [("a", 0), ("b", 0), ("f", 2)], [("a", 0), ("b", 0), ("f", 2), ("g", 1)], [("a", 0), ("g", 1)], [("a", 0), ("b", 0), ("g", 1), ("h", 3)], [("c", 0), ("f", 2), ("g", 1)]]
theorem law_ranks_eq (s : DS) : ∃ rs ∈ RK, f__law_ranks [.cel false s.c] = .ret (.tup (rs.map mkR)) [.cel false (s.next 6).c] := by
  obtain ⟨x, hx, e⟩ := s.pick RK (by decide)
  have e2 : atI (RK.map fun rs => D.tup (rs.map mkR)) (s.val 6) = some (.tup (x.map mkR)) := by
    have e : atI RK (s.val 6) = some x := e
    unfold atI at e ⊢
    rw [List.length_map]
    cases ei : ixN RK.length (s.val 6) with
    | none => rw [ei] at e; cases e
    | some k =>
      rw [ei] at e
      have e : RK[k]? = some x := e
      show (RK.map fun rs => D.tup (rs.map mkR))[k]? = _
      rw [List.getElem?_map, e]
      rfl
  refine ⟨x, hx, ?_⟩
  have e3 : (RK.map fun rs => D.tup (rs.map mkR)) = _ := rfl
  simp only [RK, List.map_cons, List.map_nil] at e2
  dsimp! only [f__law_ranks, m__law_ranks, draw_eq s 6 (by decide) (by decide), e2]
/-! ### trees that are drawn -/
structure Bits (kvs : List (D × D)) (k : Nat) (ps : List D) : Prop where
  ok : ∀ p ∈ ps, p.ok = true
  wf : ∀ p ∈ ps, wf kvs p = true
  hg : ∀ p ∈ ps, hgt p ≤ k
/-- a place for a part: popped, or a tip -/
theorem b1_law_tree_ok (kvs : List (D × D)) (tips : List Str) (h0 : 0 < tips.length) (h1 : tips.length ≤ 100) (ht : ∀ x ∈ tips, PyData.strOk x = true ∧ x.length ≤ 100 ∧ arOf kvs x = some 0)
    (k : Nat) (hk : 1 ≤ k) (a : D) (mo : D) (s : DS) (parts row : List D) (s5 s6 s8 s10 : Slot) (s7 : D) (hp : Bits kvs k parts) (hr : Bits kvs k row) (x0 : D) (hlen : parts.length ≤ 1000) (hrow : row.length ≤ 1000) :
    ∃ (s' : DS) (parts' : List D) (x : D), b1__law_tree [.cel false s.c, .val a, .val mo, .cel true (.lst parts), .val (.lst (tips.map .str)), s5, s6, .val s7, s8, .val (.tup (x0 :: row)), s10] =
      .nx [.cel false s'.c, .val a, .val mo, .cel true (.lst parts'), .val (.lst (tips.map .str)), s5, s6, .val s7, s8, .val (.tup (x0 :: (row ++ [x]))), s10] ∧ Bits kvs k parts' ∧ Bits kvs k (row ++ [x]) ∧ parts'.length ≤ parts.length ∧ sizes parts' + size x ≤ sizes parts + 1 := by
  have add : ∀ x : D, x.ok = true → wf kvs x = true → hgt x ≤ k → Bits kvs k (row ++ [x]) := fun x a1 a2 a3 =>
    ⟨fun p hp => (List.mem_append.mp hp).elim (hr.ok p) fun q => by rw [List.mem_singleton] at q; subst q; exact a1,
     fun p hp => (List.mem_append.mp hp).elim (hr.wf p) fun q => by rw [List.mem_singleton] at q; subst q; exact a2,
     fun p hp => (List.mem_append.mp hp).elim (hr.hg p) fun q => by rw [List.mem_singleton] at q; subst q; exact a3⟩
  have hl1 : row.length + 1 + 1 ≤ 16777216 := by omega
  by_cases hz : 0 < parts.length
  · obtain ⟨n, hn, x, hx, hmem, hpop⟩ := s.popAt parts hz (by omega)
    have c : (0 : Int) < parts.length := by omega
    have hd := draw_eq s parts.length (by omega) (by omega)
    refine ⟨s.next parts.length, parts.eraseIdx n, x, ?_, ?_, add x (hp.ok x hmem) (hp.wf x hmem) (hp.hg x hmem), ?_, ?_⟩
    · dsimp! only [b1__law_tree, c, hd, hpop, hl1]
    · exact ⟨fun p h => hp.ok p (List.mem_of_mem_eraseIdx h), fun p h => hp.wf p (List.mem_of_mem_eraseIdx h), fun p h => hp.hg p (List.mem_of_mem_eraseIdx h)⟩
    · rw [List.length_eraseIdx]; split <;> omega
    · have q : ∀ (ps : List D) (n : Nat) (x : D), ps[n]? = some x → sizes (ps.eraseIdx n) + size x = sizes ps := by
        intro ps
        induction ps with
        | nil => intro n x h; simp at h
        | cons p ps ih =>
          intro n x h
          cases n with
          | zero =>
            simp at h
            subst h
            show sizes ps + size p = size p + sizes ps
            omega
          | succ n =>
            have h : ps[n]? = some x := by simpa using h
            show size p + sizes (ps.eraseIdx n) + size x = size p + sizes ps
            have := ih n x h
            omega
      have := q parts n x hx
      omega
  · have hz0 : parts = [] := by
      cases parts with
      | nil => rfl
      | cons p ps => exact absurd (Nat.succ_pos _) hz
    subst hz0
    obtain ⟨y, hy, e⟩ := s.pick tips h0
    have hd := draw_eq s tips.length (by omega) (by omega)
    have e2 : atI (tips.map D.str) (s.val tips.length) = some (.str y) := by
      unfold atI at e ⊢
      rw [List.length_map]
      cases ei : ixN tips.length (s.val tips.length) with
      | none => rw [ei] at e; cases e
      | some k =>
        rw [ei] at e
        have e : tips[k]? = some y := e
        show (tips.map D.str)[k]? = _
        rw [List.getElem?_map, e]
        rfl
    obtain ⟨y1, y2, y3⟩ := ht y hy
    refine ⟨s.next tips.length, [], .tup [.str y], ?_, hp, add _ ?_ ?_ ?_, Nat.le_refl _, ?_⟩
    · dsimp! only [b1__law_tree, hd, e2, hl1, List.length_map, Int.reduceLT, Int.lt_irrefl]
    · show ((PyData.strOk y && decide (y.length ≤ 100)) && true) = true
      rw [y1, decide_eq_true y2]; rfl
    · show (decide (arOf kvs y = some ((0 : Nat) : Int)) && true) = true
      rw [y3]; rfl
    · show 1 + 0 ≤ k
      omega
    · show 0 + (1 + 0) ≤ 0 + 1
      omega
theorem Bits.up {kvs : List (D × D)} {k k' : Nat} {ps : List D} (h : Bits kvs k ps) (l : k ≤ k') : Bits kvs k' ps := ⟨h.ok, h.wf, fun p hp => Nat.le_trans (h.hg p hp) l⟩
theorem Bits.add {kvs : List (D × D)} {k : Nat} {ps : List D} (h : Bits kvs k ps) {x : D} (a1 : x.ok = true) (a2 : K00.wf kvs x = true) (a3 : hgt x ≤ k) : Bits kvs k (ps ++ [x]) :=
    ⟨fun p hp => (List.mem_append.mp hp).elim (h.ok p) fun q => by rw [List.mem_singleton] at q; subst q; exact a1,
     fun p hp => (List.mem_append.mp hp).elim (h.wf p) fun q => by rw [List.mem_singleton] at q; subst q; exact a2,
     fun p hp => (List.mem_append.mp hp).elim (h.hg p) fun q => by rw [List.mem_singleton] at q; subst q; exact a3⟩
theorem l1_law_tree_ok (kvs : List (D × D)) (tips : List Str) (h0 : 0 < tips.length) (h1 : tips.length ≤ 100) (ht : ∀ x ∈ tips, PyData.strOk x = true ∧ x.length ≤ 100 ∧ arOf kvs x = some 0)
    (k : Nat) (hk : 1 ≤ k) (a : D) (mo : D) (s : DS) (parts : List D) (s5 s8 s10 : Slot) (s7 : D) (hp : Bits kvs k parts) (x0 : D) (r : Nat) (hr : r ≤ 10) (hlen : parts.length ≤ 1000) :
    ∃ (s' : DS) (parts' row : List D) (s10' : Slot), l1__law_tree [.cel false s.c, .val a, .val mo, .cel true (.lst parts), .val (.lst (tips.map .str)), s5, .val (.int r), .val s7, s8, .val (.tup [x0]), s10] =
      .nx [.cel false s'.c, .val a, .val mo, .cel true (.lst parts'), .val (.lst (tips.map .str)), s5, .val (.int r), .val s7, s8, .val (.tup (x0 :: row)), s10'] ∧ Bits kvs k parts' ∧ Bits kvs k row ∧ row.length = r ∧ parts'.length ≤ parts.length ∧ sizes parts' + sizes row ≤ sizes parts + r := by
  have hm : (mRng dRng1 (mCons (mNm 6) (mNil))) [.cel false s.c, .val a, .val mo, .cel true (.lst parts), .val (.lst (tips.map .str)), s5, .val (.int r), .val s7, s8, .val (.tup [x0]), s10] = .ok ((List.range r).map fun i => D.int (0 + (i : Nat)), none) [.cel false s.c, .val a, .val mo, .cel true (.lst parts), .val (.lst (tips.map .str)), s5, .val (.int r), .val s7, s8, .val (.tup [x0]), s10] :=
    mRng_eq (as := [.s 6]) (ds := [.int (r : Int)]) rfl rfl (rngN r (by omega))
  have hm2 := xm_for (g := gN 10) (b := b1__law_tree) hm
  have w := for_W (g := gN 10) (b := b1__law_tree) (N := fun e => ∃ (s' : DS) (parts' row : List D) (s10' : Slot), e = [.cel false s'.c, .val a, .val mo, .cel true (.lst parts'), .val (.lst (tips.map .str)), s5, .val (.int r), .val s7, s8, .val (.tup (x0 :: row)), s10'] ∧ Bits kvs k parts' ∧ Bits kvs k row ∧ row.length = r ∧ parts'.length ≤ parts.length ∧ sizes parts' + sizes row ≤ sizes parts + r) (T := fun _ _ => False)
    (fun i e => ∃ (s' : DS) (parts' row : List D) (s10' : Slot), e = [.cel false s'.c, .val a, .val mo, .cel true (.lst parts'), .val (.lst (tips.map .str)), s5, .val (.int r), .val s7, s8, .val (.tup (x0 :: row)), s10'] ∧ Bits kvs k parts' ∧ Bits kvs k row ∧ row.length = i ∧ parts'.length ≤ parts.length ∧ sizes parts' + sizes row ≤ sizes parts + i)
    ((List.range r).map fun i => D.int (0 + (i : Nat))) 0 [.cel false s.c, .val a, .val mo, .cel true (.lst parts), .val (.lst (tips.map .str)), s5, .val (.int r), .val s7, s8, .val (.tup [x0]), s10]
    ⟨s, parts, [], s10, rfl, hp, ⟨(fun _ h => nomatch h), (fun _ h => nomatch h), (fun _ h => nomatch h)⟩, rfl, Nat.le_refl _, Nat.le_refl _⟩
    (fun i d hd e ⟨s', ps, row, t10, he, g1, g2, g3, g4, g5⟩ => by
      subst he
      have hi : i < r := by
        have := (List.getElem?_eq_some_iff.mp hd).1
        simpa using this
      refine ⟨_, rfl, ?_⟩
      obtain ⟨s2, ps2, x, q1, q2, q3, q4, q5⟩ := b1_law_tree_ok kvs tips h0 h1 ht k hk a mo s' ps row s5 (.val (.int r)) s8 (.val d) s7 g1 g2 x0 (by omega) (by omega)
      show (b1__law_tree [.cel false s'.c, .val a, .val mo, .cel true (.lst ps), .val (.lst (tips.map .str)), s5, .val (.int r), .val s7, s8, .val (.tup (x0 :: row)), .val d]).WL _ _ _
      rw [q1]
      refine ⟨s2, ps2, row ++ [x], _, rfl, q2, q3, by rw [List.length_append, g3]; rfl, by omega, ?_⟩
      rw [sizes_append]
      show sizes ps2 + (sizes row + (size x + 0)) ≤ _
      omega)
    (fun e ⟨s', ps, row, t10, he, g1, g2, g3, g4, g5⟩ => ⟨s', ps, row, t10, he, g1, g2, by simpa using g3, g4, by simpa using g5⟩)
  obtain ⟨e, h2, s', ps, row, t10, rfl, g⟩ := W_nx w
  exact ⟨s', ps, row, t10, hm2.trans h2, g⟩
theorem hgts_bits {kvs : List (D × D)} {k : Nat} {ps : List D} (h : Bits kvs k ps) : hgts ps ≤ k := hgts_le.mpr h.hg
theorem b2_law_tree_ok (kvs : List (D × D)) (tips : List Str) (h0 : 0 < tips.length) (h1 : tips.length ≤ 100) (ht : ∀ x ∈ tips, PyData.strOk x = true ∧ x.length ≤ 100 ∧ arOf kvs x = some 0)
    (stems : List (Str × Int)) (j0 : 0 < stems.length) (j1 : stems.length ≤ 100) (jt : ∀ q ∈ stems, PyData.strOk q.1 = true ∧ q.1.length ≤ 100 ∧ arOf kvs q.1 = some q.2 ∧ 0 < q.2 ∧ q.2 ≤ 3)
    (k : Nat) (hk : 1 ≤ k) (a : D) (mo : D) (s : DS) (parts : List D) (s5 s6 s8 s9 s10 : Slot) (hp : Bits kvs k parts) (hlen : parts.length ≤ 500) :
    ∃ (s' : DS) (parts' : List D) (s5' s6' s9' s10' : Slot), b2__law_tree [.cel false s.c, .val a, .val mo, .cel true (.lst parts), .val (.lst (tips.map .str)), s5, s6, .val (.lst (stems.map mkR)), s8, s9, s10] =
      .nx [.cel false s'.c, .val a, .val mo, .cel true (.lst parts'), .val (.lst (tips.map .str)), s5', s6', .val (.lst (stems.map mkR)), s8, s9', s10'] ∧ Bits kvs (k + 1) parts' ∧ 0 < parts'.length ∧ parts'.length ≤ parts.length + 1 ∧ sizes parts' ≤ sizes parts + 4 := by
  have hl1 : parts.length < 16777216 := by omega
  have tip : ∀ s : DS, ∃ y : Str, y ∈ tips ∧ atI (tips.map D.str) (s.val tips.length) = some (.str y) := fun s => by
    obtain ⟨y, hy, e⟩ := s.pick tips h0
    exact ⟨y, hy, atI_map _ e⟩
  have dt : ∀ s : DS, _ := fun s => draw_eq s tips.length (by omega) (by omega)
  have tipb : ∀ y ∈ tips, Bits kvs (k + 1) (parts ++ [.tup [.str y]]) ∧ sizes (parts ++ [.tup [.str y]]) = sizes parts + 1 := fun y hy => by
    obtain ⟨y1, y2, y3⟩ := ht y hy
    refine ⟨(hp.up (Nat.le_succ _)).add ?_ ?_ ?_, ?_⟩
    · show ((PyData.strOk y && decide (y.length ≤ 100)) && true) = true
      rw [y1, decide_eq_true y2]; rfl
    · show (decide (arOf kvs y = some ((0 : Nat) : Int)) && true) = true
      rw [y3]; rfl
    · show 1 + 0 ≤ k + 1
      omega
    · rw [sizes_append]; rfl
  by_cases hz : parts.length = 0
  · have hz0 : parts = [] := List.length_eq_zero_iff.mp hz
    subst hz0
    obtain ⟨y, hy, e⟩ := tip s
    obtain ⟨b1, b2⟩ := tipb y hy
    refine ⟨s.next tips.length, [.tup [.str y]], s5, s6, s9, s10, ?_, b1, Nat.succ_pos _, Nat.le_refl _, ?_⟩
    · dsimp! only [b2__law_tree, eq_ii, List.length_map, dt, e, Int.reduceEq]
    · show _ ≤ 0 + 4
      have : sizes [D.tup [.str y]] = 0 + 1 := b2
      omega
  · have c : ¬ ((parts.length : Int) = 0) := by omega
    have d2 := draw_eq s 2 (by decide) (by decide)
    by_cases hv : s.val 2 = 0
    · obtain ⟨y, hy, e⟩ := tip (s.next 2)
      obtain ⟨b1, b2⟩ := tipb y hy
      refine ⟨(s.next 2).next tips.length, parts ++ [.tup [.str y]], s5, s6, s9, s10, ?_, b1, by simp, by simp, by omega⟩
      dsimp! only [b2__law_tree, eq_ii, c, d2, hv, List.length_map, dt, e, hl1]
    · obtain ⟨q, hq, e⟩ := (s.next 2).pick stems j0
      have e := atI_map mkR e
      have d3 := draw_eq (s.next 2) stems.length (by omega) (by omega)
      obtain ⟨z1, z2, z3, z4, z5⟩ := jt q hq
      obtain ⟨r, hr⟩ := Int.eq_ofNat_of_zero_le (show 0 ≤ q.2 by omega)
      obtain ⟨s', ps, row, s10', f1, f2, f3, f4, f5, f6⟩ := l1_law_tree_ok kvs tips h0 h1 ht k hk a mo ((s.next 2).next stems.length) parts (.val (.str q.1)) s8 s10 (.lst (stems.map mkR)) hp (.str q.1) r (by omega) (by omega)
      rw [← hr] at f1
      have hl2 : ps.length < 16777216 := by omega
      refine ⟨s', ps ++ [.tup (.str q.1 :: row)], .val (.str q.1), .val (.int q.2), .val (.tup (.str q.1 :: row)), s10', ?_, (f2.up (Nat.le_succ _)).add ?_ ?_ ?_, by simp, by simp; omega, ?_⟩
      · dsimp! only [b2__law_tree, eq_ii, c, d2, hv, List.length_map, d3, e, mkR, f1, hl2]
      · show ((PyData.strOk q.1 && decide (q.1.length ≤ 100)) && oks row) = true
        rw [z1, decide_eq_true z2, oks_iff.mpr f3.ok]; rfl
      · show (decide (arOf kvs q.1 = some (row.length : Int)) && wfs kvs row) = true
        rw [z3, f4, hr, decide_eq_true rfl, wfs_iff.mpr f3.wf]; rfl
      · show 1 + hgts row ≤ k + 1
        have := hgts_bits f3
        omega
      · rw [sizes_append]
        show sizes ps + (1 + sizes row + 0) ≤ _
        omega
end K00
end Mi
namespace Mi
open PySem PySem.Spec L2
open PyProof.Rows hiding St
local macro_rules | `(tactic| dsimp! only [$ls,*]) => `(tactic| (simp -dsimp only [xb_ok, xb_exc, xb_bad, xb_ite, xo_ok, xo_exc, xo_bad, xo_ite, xp_some, xp_none, xp_ite, xe_some, xe_none, xs_nx, xs_bk, xs_ct, xs_ret, xs_rnew, xs_exc, xs_bad, xs_ite,
     xf_ite, xk_ite, xm_seq, xm_fn, xm_call, xm_callN, xm_and, xm_or, xk_and, xk_or, xa_0, xa_1, xa_n, xa_nat, xi_n, xi_nat, Int.ofNat_lt, Int.ofNat_le,
     xf_ret, xf_rnew, xf_nx, xf_exc, xf_bad, xk_ret, xk_exc, xk_bad, xn_new, xn_exc, finS, backE, argSlots, mutIx, frzAt, xm_skip, xm_drop, xm_ret, xm_retN, xm_retF, xm_ifS, xm_asg, xm_asgNew, xm_lstC, xm_mut, xm_set, xm_aug, xm_pre, xm_C, xm_nm, xm_ex, xm_val, xm_nil, xm_cons, xm_bin, xm_binF, xm_un, xm_isi, xm_callD, xm_callF, xm_owns, xm_isT, xm_andT, xm_orT, xm_not, xm_notV, xm_if, xm_meth, xm_slice, xm_noP, xm_P, xm_chain, xk_chain, xm_fr, xm_frL, xm_raise, xm_yes, xm_newD, xg_N, xg_nil, xg_cons, xg_T,
     slotD, slotV, Arg.rd, Arg.own, rds, owns, Cell.frz, Cell.ty, dTup, dLst, dAdd, dSub, dMod, dDiv, dPow, dMulI, dMul, dInts, dNeg, dLt, dLe, dGt, dGe, dCmpI, dIxD, dIx, dIs, dIsNot, D.isNon, dLen, isTy, dIntOf, dListOf, dTupOf, cAppend, xpop, cSetX, cSetL, dAddI,
     List.length_cons, List.length_nil, List.getElem?_cons_zero, List.getElem?_cons_succ, List.getElem?_nil, List.set_cons_zero, List.set_cons_succ, List.set_nil, List.cons_append, List.nil_append, List.append_nil, List.replicate, List.nodup_cons, List.not_mem_nil, List.nodup_nil, List.mem_singleton,
     Option.map_some, Option.map_none, Option.bind_some, Option.bind_none, if_true, if_false, ite_true, ite_false, reduceIte, reduceCtorEq, not_false_eq_true, not_true_eq_false, and_true, true_and, and_false, false_and, or_true, true_or, or_false, false_or, decide_eq_true_eq, Bool.not_true, Bool.not_false, Bool.true_eq_false, Bool.false_eq_true, Nat.reduceAdd, Nat.reduceSub, Nat.reduceEqDiff, Nat.reduceLeDiff, Nat.reduceLT, Nat.reduceMul, Int.reduceAdd, Int.reduceLT, Int.reduceLE, Int.reduceNeg, Int.reduceSub, Int.reduceToNat, Int.reducePow, Int.reduceMul, Int.natCast_add, Int.cast_ofNat_Int, Int.sub_zero, gt_iff_lt, ge_iff_le, String.reduceEq, String.reduceBEq, beq_self_eq_true, Nat.zero_add, sizeLine, Nat.reducePow, decide_true, decide_false, $ls,*]))
namespace K00
def tipsOf (rs : List (Str × Int)) : List Str := (rs.filter fun q => q.2 == 0).map (·.1)
def stemsOf (rs : List (Str × Int)) : List (Str × Int) := rs.filter fun q => decide (0 < q.2)
/-- what is known of the ranks that are drawn -/
structure Rks (rs : List (Str × Int)) : Prop where
  oks : oks (rs.map mkR) = true
  len : 0 < rs.length ∧ rs.length ≤ 8
  tip : 0 < (tipsOf rs).length
  stem : 0 < (stemsOf rs).length
  ar : ∀ q ∈ rs, arOf (knw rs) q.1 = some q.2
  small : ∀ q ∈ rs, PyData.strOk q.1 = true ∧ q.1.length ≤ 100 ∧ 0 ≤ q.2 ∧ q.2 ≤ 3
theorem RK_rks : ∀ rs ∈ RK, Rks rs := by
  intro rs h
  simp only [RK, List.mem_cons, List.not_mem_nil, or_false] at h
  rcases h with rfl | rfl | rfl | rfl | rfl | rfl <;> exact ⟨by decide +kernel, by decide, by decide +kernel, by decide +kernel, by decide +kernel, by decide +kernel⟩
theorem c1_tree (rs : List (Str × Int)) (h : Rks rs) (dr : Cell) (mo : D) : c1__law_tree [.cel false dr, .val (.tup (rs.map mkR)), .val mo, .cel true (.lst []), .emp, .emp, .emp, .emp, .emp, .emp, .emp] =
    .ok (.lst ((tipsOf rs).map .str)) [.cel false dr, .val (.tup (rs.map mkR)), .val mo, .cel true (.lst []), .emp, .emp, .emp, .emp, .emp, .emp, .emp] := by
  have := mcomp_filter (mi := mSrc (mNm 1)) (g := gT 2 (gCons' (gN 5) (gCons' (gN 6) (gNil')))) (t := mIsT (mBin dEq (mNm 6) (mEx (mC (.int 0))))) (m := mVal 5) (vs := [5, 6]) (env := [.cel false dr, .val (.tup (rs.map mkR)), .val mo, .cel true (.lst []), .emp, .emp, .emp, .emp, .emp, .emp, .emp]) (ds := rs.map mkR)
    (fun d => match rankOf d with | some q => if q.2 = 0 then some (.str q.1) else none | none => none) rfl rfl (by rw [List.length_map]; exact Nat.le_trans h.len.2 (by decide)) rfl fun d hd => by
    obtain ⟨q, _, rfl⟩ := List.mem_map.mp hd
    dsimp! only [cStep, xl_0, xl_1, xx_ok, xx_ite, rankOf, eq_ii]
    by_cases hq : q.2 = 0
    · rw [if_pos hq, if_pos hq]
    · rw [if_neg hq, if_neg hq]
  refine this.trans ?_
  congr 2
  unfold tipsOf
  clear this h
  induction rs with
  | nil => rfl
  | cons q rs ih =>
    rw [List.map_cons, List.filterMap_cons, List.filter_cons]
    by_cases hq : q.2 = 0
    · have e : (match rankOf (mkR q) with | some q => if q.2 = 0 then some (D.str q.1) else none | none => none) = some (D.str q.1) := if_pos hq
      rw [if_pos (by simpa using hq), List.map_cons, List.map_cons, ← ih]
      rw [e]
    · have e : (match rankOf (mkR q) with | some q => if q.2 = 0 then some (D.str q.1) else none | none => none) = none := if_neg hq
      rw [if_neg (by simpa using hq), ← ih]
      rw [e]
theorem c2_tree (rs : List (Str × Int)) (h : Rks rs) (dr : Cell) (mo t4 : D) : c2__law_tree [.cel false dr, .val (.tup (rs.map mkR)), .val mo, .cel true (.lst []), .val t4, .emp, .emp, .emp, .emp, .emp, .emp] =
    .ok (.lst ((stemsOf rs).map mkR)) [.cel false dr, .val (.tup (rs.map mkR)), .val mo, .cel true (.lst []), .val t4, .emp, .emp, .emp, .emp, .emp, .emp] := by
  have := mcomp_filter (mi := mSrc (mNm 1)) (g := gT 2 (gCons' (gN 5) (gCons' (gN 6) (gNil')))) (t := mIsT (mBin dGt (mNm 6) (mEx (mC (.int 0))))) (m := mOwns dTup (mCons (mNm 5) (mCons (mNm 6) (mNil)))) (vs := [5, 6]) (env := [.cel false dr, .val (.tup (rs.map mkR)), .val mo, .cel true (.lst []), .val t4, .emp, .emp, .emp, .emp, .emp, .emp]) (ds := rs.map mkR)
    (fun d => match rankOf d with | some q => if 0 < q.2 then some (mkR q) else none | none => none) rfl rfl (by rw [List.length_map]; exact Nat.le_trans h.len.2 (by decide)) rfl fun d hd => by
    obtain ⟨q, _, rfl⟩ := List.mem_map.mp hd
    dsimp! only [cStep, xl_0, xl_1, xx_ok, xx_ite, rankOf, eq_ii]
    by_cases hq : 0 < q.2
    · rw [if_pos hq, if_pos hq]
    · rw [if_neg hq, if_neg hq]
  refine this.trans ?_
  congr 2
  unfold stemsOf
  clear this h
  induction rs with
  | nil => rfl
  | cons q rs ih =>
    rw [List.map_cons, List.filterMap_cons, List.filter_cons]
    by_cases hq : 0 < q.2
    · have e : (match rankOf (mkR q) with | some q => if 0 < q.2 then some (mkR q) else none | none => none) = some (mkR q) := if_pos hq
      rw [if_pos (by simpa using hq), List.map_cons, ← ih]
      rw [e]
    · have e : (match rankOf (mkR q) with | some q => if 0 < q.2 then some (mkR q) else none | none => none) = none := if_neg hq
      rw [if_neg (by simpa using hq), ← ih]
      rw [e]
theorem law_tree_eq (rs : List (Str × Int)) (h : Rks rs) (s : DS) : ∃ (s' : DS) (t : D), f__law_tree [.cel false s.c, .val (.tup (rs.map mkR)), .val (.int 30)] = .ret t [.cel false s'.c, .val (.tup (rs.map mkR)), .val (.int 30)] ∧ t.ok = true ∧ wf (knw rs) t = true ∧ hgt t ≤ 31 ∧ size t ≤ 124 := by
  have ht : ∀ x ∈ tipsOf rs, PyData.strOk x = true ∧ x.length ≤ 100 ∧ arOf (knw rs) x = some 0 := fun x hx => by
    obtain ⟨q, hq, rfl⟩ := List.mem_map.mp hx
    obtain ⟨hq, hz⟩ := List.mem_filter.mp hq
    have hz : q.2 = 0 := by simpa using hz
    have := h.small q hq
    exact ⟨this.1, this.2.1, by rw [h.ar q hq, hz]⟩
  have jt : ∀ q ∈ stemsOf rs, PyData.strOk q.1 = true ∧ q.1.length ≤ 100 ∧ arOf (knw rs) q.1 = some q.2 ∧ 0 < q.2 ∧ q.2 ≤ 3 := fun q hq => by
    obtain ⟨hq, hz⟩ := List.mem_filter.mp hq
    have := h.small q hq
    exact ⟨this.1, this.2.1, h.ar q hq, of_decide_eq_true hz, this.2.2.2⟩
  have l1 : (tipsOf rs).length ≤ 100 := by
    unfold tipsOf
    rw [List.length_map]
    exact Nat.le_trans (List.length_filter_le _ _) (by have := h.len.2; omega)
  have l2 : (stemsOf rs).length ≤ 100 := Nat.le_trans (List.length_filter_le _ _) (by have := h.len.2; omega)
  have d0 := draw_eq s 30 (by decide) (by decide)
  have v1 := s.val_nonneg (n := 30) (by decide)
  have v2 := s.val_lt (n := 30) (by decide)
  obtain ⟨n, hn⟩ := Int.eq_ofNat_of_zero_le v1
  let e0 : Env' := [.cel false s.c, .val (.tup (rs.map mkR)), .val (.int 30), .cel true (.lst []), .val (.lst ((tipsOf rs).map .str)), .emp, .emp, .val (.lst ((stemsOf rs).map mkR)), .emp, .emp, .emp]
  have hm : (mRng dRng1 (mCons (mEx (mBin dAdd (mEx (mC (.int 1))) (mEx (mCall (f__law_draw) [true, false] (mCons (mNm 0) (mCons (mNm 2) (mNil))))))) (mNil))) e0 = .ok ((List.range (1 + n)).map fun i => D.int (0 + (i : Nat)), none) [.cel false (s.next 30).c, .val (.tup (rs.map mkR)), .val (.int 30), .cel true (.lst []), .val (.lst ((tipsOf rs).map .str)), .emp, .emp, .val (.lst ((stemsOf rs).map mkR)), .emp, .emp, .emp] := by
    refine mRng_eq (as := [.v (.int ((1 + n : Nat) : Int))]) (ds := [.int ((1 + n : Nat) : Int)]) ?_ rfl (rngN (1 + n) (by omega))
    show (mCons _ _) [.cel false s.c, .val (.tup (rs.map mkR)), .val (.int 30), .cel true (.lst []), .val (.lst ((tipsOf rs).map .str)), .emp, .emp, .val (.lst ((stemsOf rs).map mkR)), .emp, .emp, .emp] = _
    dsimp! only [d0, hn]
  have w := for_W (g := gN 8) (b := b2__law_tree) (N := fun e => ∃ (s' : DS) (ps : List D) (s5 s6 s8 s9 s10 : Slot), e = [.cel false s'.c, .val (.tup (rs.map mkR)), .val (.int 30), .cel true (.lst ps), .val (.lst ((tipsOf rs).map .str)), s5, s6, .val (.lst ((stemsOf rs).map mkR)), s8, s9, s10] ∧ Bits (knw rs) 31 ps ∧ 0 < ps.length ∧ ps.length ≤ 30 ∧ sizes ps ≤ 120) (T := fun _ _ => False)
    (fun i e => ∃ (s' : DS) (ps : List D) (s5 s6 s8 s9 s10 : Slot), e = [.cel false s'.c, .val (.tup (rs.map mkR)), .val (.int 30), .cel true (.lst ps), .val (.lst ((tipsOf rs).map .str)), s5, s6, .val (.lst ((stemsOf rs).map mkR)), s8, s9, s10] ∧ Bits (knw rs) (i + 1) ps ∧ (0 < i → 0 < ps.length) ∧ ps.length ≤ i ∧ sizes ps ≤ 4 * i)
    ((List.range (1 + n)).map fun i => D.int (0 + (i : Nat))) 0 [.cel false (s.next 30).c, .val (.tup (rs.map mkR)), .val (.int 30), .cel true (.lst []), .val (.lst ((tipsOf rs).map .str)), .emp, .emp, .val (.lst ((stemsOf rs).map mkR)), .emp, .emp, .emp]
    ⟨s.next 30, [], _, _, _, _, _, rfl, ⟨(fun _ h => nomatch h), (fun _ h => nomatch h), (fun _ h => nomatch h)⟩, (fun h => absurd h (by decide)), Nat.le_refl _, Nat.le_refl _⟩
    (fun i d hd e ⟨s', ps, s5, s6, s8, s9, s10, he, g1, g2, g3, g4⟩ => by
      subst he
      rw [Nat.zero_add] at g1 g2 g3 g4
      have hi : i < 1 + n := by
        have := (List.getElem?_eq_some_iff.mp hd).1
        simpa using this
      refine ⟨_, rfl, ?_⟩
      obtain ⟨s2, ps2, t5, t6, t9, t10, q1, q2, q3, q4, q5⟩ := b2_law_tree_ok (knw rs) (tipsOf rs) h.tip l1 ht (stemsOf rs) h.stem l2 jt (i + 1) (by omega) (.tup (rs.map mkR)) (.int 30) s' ps s5 s6 (.val d) s9 s10 g1 (by omega)
      show (b2__law_tree [.cel false s'.c, .val (.tup (rs.map mkR)), .val (.int 30), .cel true (.lst ps), .val (.lst ((tipsOf rs).map .str)), s5, s6, .val (.lst ((stemsOf rs).map mkR)), .val d, s9, s10]).WL _ _ _
      rw [q1]
      exact ⟨s2, ps2, _, _, _, _, _, rfl, by rw [Nat.zero_add]; exact q2, fun _ => q3, by omega, by omega⟩)
    (fun e ⟨s', ps, s5, s6, s8, s9, s10, he, g1, g2, g3, g4⟩ => by
      simp only [List.length_map, List.length_range, Nat.zero_add] at g1 g2 g3 g4
      exact ⟨s', ps, s5, s6, s8, s9, s10, he, g1.up (by omega), g2 (by omega), by omega, by omega⟩)
  obtain ⟨e, h2, s', ps, s5, s6, s8, s9, s10, rfl, g1, g2, g3, g4⟩ := W_nx w
  have hl : l2__law_tree e0 = _ := (xm_for (g := gN 8) (b := b2__law_tree) hm).trans h2
  obtain ⟨x, hx, ex⟩ := s'.pick ps g2
  have d1 := draw_eq s' ps.length (by omega) (by omega)
  refine ⟨s'.next ps.length, x, ?_, g1.ok x hx, g1.wf x hx, g1.hg x hx, ?_⟩
  · dsimp! only [f__law_tree, m__law_tree, c1_tree rs h, c2_tree rs h, hl, d1, ex, e0]
  · have : ∀ (ps : List D), x ∈ ps → size x ≤ sizes ps := by
      intro ps
      induction ps with
      | nil => intro h; cases h
      | cons p ps ih =>
        intro h
        show _ ≤ size p + sizes ps
        rcases List.mem_cons.mp h with rfl | h
        · omega
        · have := ih h; omega
    have := this ps hx
    omega
end K00
end Mi
namespace Mi
open PySem PySem.Spec L2
open PyProof.Rows hiding St
local macro_rules | `(tactic| dsimp! only [$ls,*]) => `(tactic| (simp -dsimp only [xb_ok, xb_exc, xb_bad, xb_ite, xo_ok, xo_exc, xo_bad, xo_ite, xp_some, xp_none, xp_ite, xe_some, xe_none, xs_nx, xs_bk, xs_ct, xs_ret, xs_rnew, xs_exc, xs_bad, xs_ite,
     xf_ite, xk_ite, xm_seq, xm_fn, xm_call, xm_callN, xm_and, xm_or, xk_and, xk_or, xa_0, xa_1, xa_n, xa_nat, xi_n, xi_nat, Int.ofNat_lt, Int.ofNat_le,
     xf_ret, xf_rnew, xf_nx, xf_exc, xf_bad, xk_ret, xk_exc, xk_bad, xn_new, xn_exc, finS, backE, argSlots, mutIx, frzAt, xm_skip, xm_drop, xm_ret, xm_retN, xm_retF, xm_ifS, xm_asg, xm_asgNew, xm_lstC, xm_mut, xm_set, xm_aug, xm_pre, xm_C, xm_nm, xm_ex, xm_val, xm_nil, xm_cons, xm_bin, xm_binF, xm_un, xm_isi, xm_callD, xm_callF, xm_owns, xm_isT, xm_andT, xm_orT, xm_not, xm_notV, xm_if, xm_meth, xm_slice, xm_noP, xm_P, xm_chain, xk_chain, xm_fr, xm_frL, xm_raise, xm_yes, xm_newD, xg_N, xg_nil, xg_cons, xg_T,
     slotD, slotV, Arg.rd, Arg.own, rds, owns, Cell.frz, Cell.ty, dTup, dLst, dAdd, dSub, dMod, dDiv, dPow, dMulI, dMul, dInts, dNeg, dLt, dLe, dGt, dGe, dCmpI, dIxD, dIx, dIs, dIsNot, D.isNon, dLen, isTy, dIntOf, dListOf, dTupOf, cAppend, xpop, cSetX, cSetL, dAddI,
     List.length_cons, List.length_nil, List.getElem?_cons_zero, List.getElem?_cons_succ, List.getElem?_nil, List.set_cons_zero, List.set_cons_succ, List.set_nil, List.cons_append, List.nil_append, List.append_nil, List.replicate, List.nodup_cons, List.not_mem_nil, List.nodup_nil, List.mem_singleton,
     Option.map_some, Option.map_none, Option.bind_some, Option.bind_none, if_true, if_false, ite_true, ite_false, reduceIte, reduceCtorEq, not_false_eq_true, not_true_eq_false, and_true, true_and, and_false, false_and, or_true, true_or, or_false, false_or, decide_eq_true_eq, Bool.not_true, Bool.not_false, Bool.true_eq_false, Bool.false_eq_true, Nat.reduceAdd, Nat.reduceSub, Nat.reduceEqDiff, Nat.reduceLeDiff, Nat.reduceLT, Nat.reduceMul, Int.reduceAdd, Int.reduceLT, Int.reduceLE, Int.reduceNeg, Int.reduceSub, Int.reduceToNat, Int.reducePow, Int.reduceMul, Int.natCast_add, Int.cast_ofNat_Int, Int.sub_zero, gt_iff_lt, ge_iff_le, String.reduceEq, String.reduceBEq, beq_self_eq_true, Nat.zero_add, sizeLine, Nat.reducePow, decide_true, decide_false, $ls,*]))
theorem cut_take {xs : List D} {k : Nat} : cutD xs none (some (k : Int)) = xs.take k := by
  unfold cutD
  rw [HT.sIx_none, HT.sIx_nat, List.drop_zero, Nat.sub_zero]
  rcases Nat.le_total k xs.length with h | h
  · rw [Nat.min_eq_left h]
  · rw [Nat.min_eq_right h, List.take_length, List.take_of_length_le h]
theorem cut_drop {xs : List D} {k : Nat} : cutD xs (some (k : Int)) none = xs.drop k := by
  unfold cutD
  rw [HT.sIx_none, HT.sIx_nat]
  rcases Nat.le_total k xs.length with h | h
  · rw [Nat.min_eq_left h, List.take_of_length_le (by rw [List.length_drop]; omega)]
  · rw [Nat.min_eq_right h, List.drop_of_length_le (Nat.le_refl _), List.drop_of_length_le h]; simp
namespace K00
theorem sizes_take : ∀ (xs : List D) (k : Nat), sizes (xs.take k) + sizes (xs.drop k) = sizes xs
  | xs, k => by rw [← sizes_append, List.take_append_drop]
theorem oks_append {xs ys : List D} : oks (xs ++ ys) = (oks xs && oks ys) := by
  rw [Bool.eq_iff_iff, Bool.and_eq_true, oks_iff, oks_iff, oks_iff]
  exact List.forall_mem_append
/-- the ranks that are drawn are ranks -/
theorem sortS_id {xs : List Str} (h1 : dedS xs = xs) (h2 : xs.Pairwise fun a b => leS a b = true) : sortS xs = xs := by
  unfold sortS
  rw [h1]
  exact List.mergeSort_of_pairwise h2
theorem RK_are : ∀ rs ∈ RK, areRanks (.tup (rs.map mkR)) = true := by
  intro rs h
  have q : ∀ rs : List (Str × Int), decide (0 < (rs.map mkR).length ∧ (rs.map mkR).length ≤ 8) = true → (rs.map mkR).all rankOk = true → (rs.all fun q => decide (0 ≤ q.2 ∧ q.2 ≤ 3)) = true → (rs.map (·.2)).contains 0 = true → sortS (rs.map (·.1)) = rs.map (·.1) → areRanks (.tup (rs.map mkR)) = true := by
    intro rs a b c d e
    have f : (rs.map mkR).filterMap rankOf = rs := by
      clear a b c d e
      induction rs with
      | nil => rfl
      | cons q rs ih => rw [List.map_cons, List.filterMap_cons]; show q :: _ = _; rw [ih]
    show (decide (0 < (rs.map mkR).length ∧ (rs.map mkR).length ≤ 8) && (rs.map mkR).all rankOk && rksOk ((rs.map mkR).filterMap rankOf)) = true
    rw [a, b, f]
    unfold rksOk
    rw [c, d, e, decide_eq_true rfl]
    rfl
  simp only [RK, List.mem_cons, List.not_mem_nil, or_false] at h
  rcases h with rfl | rfl | rfl | rfl | rfl | rfl <;> exact q _ (by decide +kernel) (by decide +kernel) (by decide +kernel) (by decide +kernel) (sortS_id (by decide +kernel) (by decide +kernel))
end K00
end Mi
namespace Mi
open PySem PySem.Spec L2
open PyProof.Rows hiding St
local macro_rules | `(tactic| dsimp! only [$ls,*]) => `(tactic| (simp -dsimp only [xb_ok, xb_exc, xb_bad, xb_ite, xo_ok, xo_exc, xo_bad, xo_ite, xp_some, xp_none, xp_ite, xe_some, xe_none, xs_nx, xs_bk, xs_ct, xs_ret, xs_rnew, xs_exc, xs_bad, xs_ite,
     xf_ite, xk_ite, xm_seq, xm_fn, xm_call, xm_callN, xm_and, xm_or, xk_and, xk_or, xa_0, xa_1, xa_n, xa_nat, xi_n, xi_nat, Int.ofNat_lt, Int.ofNat_le,
     xf_ret, xf_rnew, xf_nx, xf_exc, xf_bad, xk_ret, xk_exc, xk_bad, xn_new, xn_exc, finS, backE, argSlots, mutIx, frzAt, xm_skip, xm_drop, xm_ret, xm_retN, xm_retF, xm_ifS, xm_asg, xm_asgNew, xm_lstC, xm_mut, xm_set, xm_aug, xm_pre, xm_C, xm_nm, xm_ex, xm_val, xm_nil, xm_cons, xm_bin, xm_binF, xm_un, xm_isi, xm_callD, xm_callF, xm_owns, xm_isT, xm_andT, xm_orT, xm_not, xm_notV, xm_if, xm_meth, xm_slice, xm_noP, xm_P, xm_chain, xk_chain, xm_fr, xm_frL, xm_raise, xm_yes, xm_newD, xg_N, xg_nil, xg_cons, xg_T,
     slotD, slotV, Arg.rd, Arg.own, rds, owns, Cell.frz, Cell.ty, dTup, dLst, dAdd, dSub, dMod, dDiv, dPow, dMulI, dMul, dInts, dNeg, dLt, dLe, dGt, dGe, dCmpI, dIxD, dIx, dIs, dIsNot, D.isNon, dLen, isTy, dIntOf, dListOf, dTupOf, cAppend, xpop, cSetX, cSetL, dAddI,
     List.length_cons, List.length_nil, List.getElem?_cons_zero, List.getElem?_cons_succ, List.getElem?_nil, List.set_cons_zero, List.set_cons_succ, List.set_nil, List.cons_append, List.nil_append, List.append_nil, List.replicate, List.nodup_cons, List.not_mem_nil, List.nodup_nil, List.mem_singleton,
     Option.map_some, Option.map_none, Option.bind_some, Option.bind_none, if_true, if_false, ite_true, ite_false, reduceIte, reduceCtorEq, not_false_eq_true, not_true_eq_false, and_true, true_and, and_false, false_and, or_true, true_or, or_false, false_or, decide_eq_true_eq, Bool.not_true, Bool.not_false, Bool.true_eq_false, Bool.false_eq_true, Nat.reduceAdd, Nat.reduceSub, Nat.reduceEqDiff, Nat.reduceLeDiff, Nat.reduceLT, Nat.reduceMul, Int.reduceAdd, Int.reduceLT, Int.reduceLE, Int.reduceNeg, Int.reduceSub, Int.reduceToNat, Int.reducePow, Int.reduceMul, Int.natCast_add, Int.cast_ofNat_Int, Int.sub_zero, gt_iff_lt, ge_iff_le, String.reduceEq, String.reduceBEq, beq_self_eq_true, Nat.zero_add, sizeLine, Nat.reducePow, decide_true, decide_false, $ls,*]))
namespace K00
theorem pick8 (s : DS) : s.val 8 = 0 ∨ s.val 8 = 1 ∨ s.val 8 = 2 ∨ s.val 8 = 3 ∨ s.val 8 = 4 ∨ s.val 8 = 5 ∨ s.val 8 = 6 ∨ s.val 8 = 7 := by
  have := s.val_nonneg (n := 8) (by decide)
  have := s.val_lt (n := 8) (by decide)
  omega
theorem size_tup (r : List D) : size (.tup r) ≤ 1 + sizes r := by
  cases r with
  | nil => exact Nat.le_refl _
  | cons x r =>
    show 1 + sizes r ≤ 1 + (size x + sizes r)
    omega
theorem changed_eq (kvs : List (D × D)) (hup : ∀ x i, arOf kvs x = some i → (D.str (Txt.upper x)).ok = true) (s : DS) (t : D) (ht : t.ok = true) (hw : wf kvs t = true) (hs : size t ≤ 124) : ∃ (s' : DS) (o : D), f__law_changed [.cel false s.c, .val t] = .ret o [.cel false s'.c, .val t] ∧ o.ok = true ∧ size o ≤ 1000 := by
  match t, ht, hw, hs with
  | .tup (.str x :: r), ht, hw, hs =>
    have hw : (decide (arOf kvs x = some (r.length : Int)) && wfs kvs r) = true := hw
    rw [Bool.and_eq_true] at hw
    have e7 : size (.tup (.str x :: r)) = 1 + sizes r := rfl
    have hlen := sizes_len r
    have ht2 : oks (.str x :: r) = true := ht
    have ht1 : ((D.str x).ok && oks r) = true := ht
    rw [Bool.and_eq_true] at ht1
    have hx : (PyData.strOk x && decide (x.length ≤ 100)) = true := ht1.1
    rw [Bool.and_eq_true, decide_eq_true_eq] at hx
    have d8 := draw_eq s 8 (by decide) (by decide)
    have hxl : x.length ≤ 5592405 := by omega
    have hl1 : r.length + 1 + 1 ≤ 16777216 := by omega
    have whole : ∀ k : Nat, True := fun _ => trivial
    by_cases hk : s.val 8 < 4 ∧ 0 < r.length
    · obtain ⟨hk1, hk2⟩ := hk
      have c2 : (1 : Int) < (r.length : Int) + 1 := by omega
      have n1 := (s.next 8).val_nonneg (n := r.length) (by omega)
      have n2 := (s.next 8).val_lt (n := r.length) (by omega)
      obtain ⟨k, hkk⟩ := Int.eq_ofNat_of_zero_le n1
      have d9 := draw_eq (s.next 8) r.length (by omega) (by omega)
      rw [hkk] at d9
      have hkl : k < r.length := by omega
      have e1 : (r.length : Int) + 1 - 1 = r.length := by omega
      have e2 : (1 : Int) + (k : Int) = ((1 + k : Nat) : Int) := by omega
      have e3 : (1 : Int) + (k : Int) + 1 = ((2 + k : Nat) : Int) := by omega
      have t1 : cutD (.str x :: r) none (some (1 + (k : Int))) = .str x :: r.take k := by rw [e2, cut_take, Nat.add_comm]; rfl
      have t2 : cutD (.str x :: r) (some (1 + (k : Int) + 1)) none = r.drop (k + 1) := by rw [e3, cut_drop, show 2 + k = k + 1 + 1 by omega]; rfl
      have hmem : r[k] ∈ r := List.getElem_mem hkl
      have t3 : atI (.str x :: r) (1 + (k : Int)) = some r[k] := by rw [e2, xa_nat, Nat.add_comm]; simp [hkl]
      have hy : r[k].ok = true := oks_iff.mp ht1.2 _ hmem
      have hyw := wfs_iff.mp hw.2 _ hmem
      obtain ⟨y, z, ey⟩ : ∃ y z, r[k] = .tup (.str y :: z) := by
        revert hyw
        generalize r[k] = q
        intro hyw
        match q, hyw with
        | .tup (.str y :: z), _ => exact ⟨y, z, rfl⟩
      rw [ey] at t3 hy
      have hz : sizes (r.take k) + (1 + sizes z) + sizes (r.drop (k + 1)) = sizes r := by
        have := sizes_take r k
        rw [List.drop_eq_getElem_cons hkl, ey] at this
        have e : sizes (D.tup (.str y :: z) :: r.drop (k + 1)) = 1 + sizes z + sizes (r.drop (k + 1)) := rfl
        omega
      have hzl := sizes_len z
      have hl3 : z.length + 1 + 1 ≤ 16777216 := by omega
      have o1 : oks (r.take k) = true := oks_iff.mpr fun d hd => oks_iff.mp ht1.2 d (List.mem_of_mem_take hd)
      have o2 : oks (r.drop (k + 1)) = true := oks_iff.mpr fun d hd => oks_iff.mp ht1.2 d (List.mem_of_mem_drop hd)
      have tk : (r.take k).length = k := by rw [List.length_take]; omega
      have hl4 : k + 1 + 1 ≤ 16777216 := by omega
      have hl5 : (r.drop (k + 1)).length = r.length - (k + 1) := List.length_drop
      have fw : ∀ w : D, w.ok = true → size w ≤ 200 → (D.tup (.str x :: (r.take k ++ [w] ++ r.drop (k + 1)))).ok = true ∧ size (.tup (.str x :: (r.take k ++ [w] ++ r.drop (k + 1)))) ≤ 1000 := fun w w1 w2 => by
        constructor
        · show ((D.str x).ok && oks (r.take k ++ [w] ++ r.drop (k + 1))) = true
          rw [oks_append, oks_append, ht1.1, o1, o2]
          show (true && (true && (w.ok && true) && true)) = true
          rw [w1]; rfl
        · show 1 + sizes (r.take k ++ [w] ++ r.drop (k + 1)) ≤ 1000
          rw [sizes_append, sizes_append]
          show 1 + (sizes (r.take k) + (size w + 0) + sizes (r.drop (k + 1))) ≤ 1000
          omega
      have hy' : ((D.str y).ok && oks z) = true := hy
      rw [Bool.and_eq_true] at hy'
      rcases pick8 s with e | e | e | e | e | e | e | e
      all_goals try omega
      all_goals rw [e] at d8
      all_goals dsimp! only [f__law_changed, m__law_changed, d8, e, c2, e1, d9, t1, t2, t3, hl1, hl3, hl4, hl5, hxl, dSl, tyOk, dUpper, List.length_append, tk]
      · refine ⟨_, _, if_pos (by omega), fw _ ?_ ?_⟩
        · show ((D.str y).ok && oks (z ++ [.tup [.str "a"]])) = true
          rw [oks_append, hy'.1, hy'.2]; decide +kernel
        · show 1 + sizes (z ++ [.tup [.str "a"]]) ≤ 200
          rw [sizes_append]
          show 1 + (sizes z + 1) ≤ 200
          omega
      · exact ⟨_, _, if_pos (by omega), fw _ (by decide +kernel) (by decide +kernel)⟩
      · exact ⟨_, _, if_pos (by omega), fw _ hy (by show 1 ≤ 200; decide)⟩
      · exact ⟨_, _, if_pos (by omega), fw _ rfl (by decide)⟩
    · have c : ¬ ((s.val 8 < 4) ∧ ((1 : Int) < (r.length : Int) + 1)) := by omega
      have fin : ∃ o, f__law_changed [.cel false s.c, .val (.tup (.str x :: r))] = .ret o [.cel false (s.next 8).c, .val (.tup (.str x :: r))] ∧ o.ok = true ∧ size o ≤ 1000 := by
        have c1 : s.val 8 < 4 → ¬ ((1 : Int) < (r.length : Int) + 1) := fun h => by omega
        have tl : cutD (.str x :: r) none (some 1) = [.str x] := cut_take (k := 1)
        rcases pick8 s with e | e | e | e | e | e | e | e <;> rw [e] at c1 d8 <;> (try have c1 := c1 (by decide))
        all_goals dsimp! only [f__law_changed, m__law_changed, d8, e, c1, hl1, hxl, dSl, cut_tail, tl, tyOk, dUpper]
        · exact ⟨_, if_pos (by omega), ht, by omega⟩
        · refine ⟨_, if_pos (by omega), ?_, ?_⟩
          · show ((D.str x).ok && oks (r ++ [.tup [.str "a"]])) = true
            rw [oks_append, ht1.1, ht1.2]; decide +kernel
          · show 1 + sizes (r ++ [.tup [.str "a"]]) ≤ 1000
            rw [sizes_append]
            show 1 + (sizes r + 1) ≤ 1000
            omega
        · exact ⟨_, if_pos (by omega), ht2, by show 1 ≤ 1000; decide⟩
        · refine ⟨_, if_pos (by omega), ?_, by show 1 + 0 ≤ 1000; decide⟩
          show ((D.str x).ok && true) = true
          rw [ht1.1]; rfl
        · exact ⟨_, if_pos (by omega), ht1.2, Nat.le_trans (size_tup r) (by omega)⟩
        · exact ⟨_, if_pos (by omega), rfl, by decide⟩
        · exact ⟨_, if_pos (by omega), rfl, by decide⟩
        · refine ⟨_, if_pos (by omega), ?_, by show 1 + sizes r ≤ 1000; omega⟩
          show ((D.str (Txt.upper x)).ok && oks r) = true
          rw [hup x _ (of_decide_eq_true hw.1), ht1.2]; rfl
      obtain ⟨o, h⟩ := fin
      exact ⟨_, o, h⟩
end K00
end Mi
namespace Mi
open PySem PySem.Spec L2
open PyProof.Rows hiding St
local macro_rules | `(tactic| dsimp! only [$ls,*]) => `(tactic| (simp -dsimp only [xb_ok, xb_exc, xb_bad, xb_ite, xo_ok, xo_exc, xo_bad, xo_ite, xp_some, xp_none, xp_ite, xe_some, xe_none, xs_nx, xs_bk, xs_ct, xs_ret, xs_rnew, xs_exc, xs_bad, xs_ite,
     xf_ite, xk_ite, xm_seq, xm_fn, xm_call, xm_callN, xm_and, xm_or, xk_and, xk_or, xa_0, xa_1, xa_n, xa_nat, xi_n, xi_nat, Int.ofNat_lt, Int.ofNat_le,
     xf_ret, xf_rnew, xf_nx, xf_exc, xf_bad, xk_ret, xk_exc, xk_bad, xn_new, xn_exc, finS, backE, argSlots, mutIx, frzAt, xm_skip, xm_drop, xm_ret, xm_retN, xm_retF, xm_ifS, xm_asg, xm_asgNew, xm_lstC, xm_mut, xm_set, xm_aug, xm_pre, xm_C, xm_nm, xm_ex, xm_val, xm_nil, xm_cons, xm_bin, xm_binF, xm_un, xm_isi, xm_callD, xm_callF, xm_owns, xm_isT, xm_andT, xm_orT, xm_not, xm_notV, xm_if, xm_meth, xm_slice, xm_noP, xm_P, xm_chain, xk_chain, xm_fr, xm_frL, xm_raise, xm_yes, xm_newD, xg_N, xg_nil, xg_cons, xg_T,
     slotD, slotV, Arg.rd, Arg.own, rds, owns, Cell.frz, Cell.ty, dTup, dLst, dAdd, dSub, dMod, dDiv, dPow, dMulI, dMul, dInts, dNeg, dLt, dLe, dGt, dGe, dCmpI, dIxD, dIx, dIs, dIsNot, D.isNon, dLen, isTy, dIntOf, dListOf, dTupOf, cAppend, xpop, cSetX, cSetL, dAddI,
     List.length_cons, List.length_nil, List.getElem?_cons_zero, List.getElem?_cons_succ, List.getElem?_nil, List.set_cons_zero, List.set_cons_succ, List.set_nil, List.cons_append, List.nil_append, List.append_nil, List.replicate, List.nodup_cons, List.not_mem_nil, List.nodup_nil, List.mem_singleton,
     Option.map_some, Option.map_none, Option.bind_some, Option.bind_none, if_true, if_false, ite_true, ite_false, reduceIte, reduceCtorEq, not_false_eq_true, not_true_eq_false, and_true, true_and, and_false, false_and, or_true, true_or, or_false, false_or, decide_eq_true_eq, Bool.not_true, Bool.not_false, Bool.true_eq_false, Bool.false_eq_true, Nat.reduceAdd, Nat.reduceSub, Nat.reduceEqDiff, Nat.reduceLeDiff, Nat.reduceLT, Nat.reduceMul, Int.reduceAdd, Int.reduceLT, Int.reduceLE, Int.reduceNeg, Int.reduceSub, Int.reduceToNat, Int.reducePow, Int.reduceMul, Int.natCast_add, Int.cast_ofNat_Int, Int.sub_zero, gt_iff_lt, ge_iff_le, String.reduceEq, String.reduceBEq, beq_self_eq_true, Nat.zero_add, sizeLine, Nat.reducePow, decide_true, decide_false, $ls,*]))
namespace K00
theorem arOf_mem {kvs : List (D × D)} {x : Str} {i : Int} (h : arOf kvs x = some i) : ∃ kv ∈ kvs, eqKey kv.1 (.inr x) = true := by
  unfold arOf findD at h
  cases e : kvs.find? fun kv => eqKey kv.1 (.inr x) with
  | none => rw [e] at h; cases h
  | some kv => exact ⟨kv, List.mem_of_find?_eq_some e, List.find?_some (p := fun kv : D × D => eqKey kv.1 (.inr x)) e⟩
def upOk (kvs : List (D × D)) : Bool := kvs.all fun kv => match kv.1 with
  | .str x => (D.str (Txt.upper x)).ok
  | _ => true
theorem up_of {kvs : List (D × D)} (h : upOk kvs = true) (x : Str) (i : Int) (e : arOf kvs x = some i) : (D.str (Txt.upper x)).ok = true := by
  obtain ⟨kv, hk, q⟩ := arOf_mem e
  have := List.all_eq_true.mp h kv hk
  cases ek : kv.1 with
  | str y =>
    rw [ek] at q this
    have q : decide (y = x) = true := q
    have := of_decide_eq_true q
    subst this
    exact this
  | _ => rw [ek] at q; cases q
theorem RK_up : ∀ rs ∈ RK, upOk (knw rs) = true := by decide +kernel
end K00
end Mi
namespace Mi
open PySem PySem.Spec L2
open PyProof.Rows hiding St
local macro_rules | `(tactic| dsimp! only [$ls,*]) => `(tactic| (simp -dsimp only [xb_ok, xb_exc, xb_bad, xb_ite, xo_ok, xo_exc, xo_bad, xo_ite, xp_some, xp_none, xp_ite, xe_some, xe_none, xs_nx, xs_bk, xs_ct, xs_ret, xs_rnew, xs_exc, xs_bad, xs_ite,
     xf_ite, xk_ite, xm_seq, xm_fn, xm_call, xm_callN, xm_and, xm_or, xk_and, xk_or, xa_0, xa_1, xa_n, xa_nat, xi_n, xi_nat, Int.ofNat_lt, Int.ofNat_le,
     xf_ret, xf_rnew, xf_nx, xf_exc, xf_bad, xk_ret, xk_exc, xk_bad, xn_new, xn_exc, finS, backE, argSlots, mutIx, frzAt, xm_skip, xm_drop, xm_ret, xm_retN, xm_retF, xm_ifS, xm_asg, xm_asgNew, xm_lstC, xm_mut, xm_set, xm_aug, xm_pre, xm_C, xm_nm, xm_ex, xm_val, xm_nil, xm_cons, xm_bin, xm_binF, xm_un, xm_isi, xm_callD, xm_callF, xm_owns, xm_isT, xm_andT, xm_orT, xm_not, xm_notV, xm_if, xm_meth, xm_slice, xm_noP, xm_P, xm_chain, xk_chain, xm_fr, xm_frL, xm_raise, xm_yes, xm_newD, xg_N, xg_nil, xg_cons, xg_T,
     slotD, slotV, Arg.rd, Arg.own, rds, owns, Cell.frz, Cell.ty, dTup, dLst, dAdd, dSub, dMod, dDiv, dPow, dMulI, dMul, dInts, dNeg, dLt, dLe, dGt, dGe, dCmpI, dIxD, dIx, dIs, dIsNot, D.isNon, dLen, isTy, dIntOf, dListOf, dTupOf, cAppend, xpop, cSetX, cSetL, dAddI,
     List.length_cons, List.length_nil, List.getElem?_cons_zero, List.getElem?_cons_succ, List.getElem?_nil, List.set_cons_zero, List.set_cons_succ, List.set_nil, List.cons_append, List.nil_append, List.append_nil, List.replicate, List.nodup_cons, List.not_mem_nil, List.nodup_nil, List.mem_singleton,
     Option.map_some, Option.map_none, Option.bind_some, Option.bind_none, if_true, if_false, ite_true, ite_false, reduceIte, reduceCtorEq, not_false_eq_true, not_true_eq_false, and_true, true_and, and_false, false_and, or_true, true_or, or_false, false_or, decide_eq_true_eq, Bool.not_true, Bool.not_false, Bool.true_eq_false, Bool.false_eq_true, Nat.reduceAdd, Nat.reduceSub, Nat.reduceEqDiff, Nat.reduceLeDiff, Nat.reduceLT, Nat.reduceMul, Int.reduceAdd, Int.reduceLT, Int.reduceLE, Int.reduceNeg, Int.reduceSub, Int.reduceToNat, Int.reducePow, Int.reduceMul, Int.natCast_add, Int.cast_ofNat_Int, Int.sub_zero, gt_iff_lt, ge_iff_le, String.reduceEq, String.reduceBEq, beq_self_eq_true, Nat.zero_add, sizeLine, Nat.reducePow, decide_true, decide_false, $ls,*]))
theorem ne_nn : dNe .non .non = some (.bl false) := rfl
theorem ne_ss {x y : Str} (hx : PyData.strOk x = true) (hy : PyData.strOk y = true) : dNe (.str x) (.str y) = some (.bl (!(x == y))) := by
  show (if SeqAt.shaped (.str x) = true ∧ SeqAt.shaped (.str y) = true then some (D.bl (!PyData.eqv (.str x) (.str y))) else none) = _
  have e : ∀ x : Str, PyData.strOk x = true → SeqAt.shaped (.str x) = true := fun x h => by
    show (PyData.strOk x && decide (0 ≤ 64)) = true
    rw [h]; rfl
  rw [if_pos ⟨e x hx, e y hy⟩]
  rfl
namespace K00
/-- one tree that is changed -/
theorem b1_law_ok (rs : List (Str × Int)) (h : Rks rs) (hr : areRanks (.tup (rs.map mkR)) = true) (hu : upOk (knw rs) = true) (t : D) (ht : t.ok = true) (hw : wf (knw rs) t = true) (hs : size t ≤ 124)
    (s : DS) (s0 s2 s5 s6 s7 s8 s9 s10 s11 s12 s13 s14 s15 s16 : Slot) : ∃ (s' : DS) (o : D) (b : Bool),
    b1_law [s0, .cel true s.c, s2, .val (.tup (rs.map mkR)), .val t, s5, s6, s7, s8, s9, s10, s11, s12, s13, s14, s15, s16] = .nx [s0, .cel true s'.c, s2, .val (.tup (rs.map mkR)), .val t, s5, .val o, .val (.bl b), s8, s9, s10, s11, s12, s13, s14, s15, s16] := by
  obtain ⟨s', o, e, ho, hz⟩ := changed_eq (knw rs) (up_of hu) s t ht hw hs
  have e1 := law_is_tree_eq rs o ho (by omega)
  have e2 := is_tree_eq rs o h.oks hr ho (by omega)
  have e3 := asked1 rs o h.oks hr ho (by omega)
  refine ⟨s', o, isTree (knw rs) o, ?_⟩
  cases hb : isTree (knw rs) o with
  | true =>
    rw [hb] at e1 e2 e3
    rw [if_pos rfl] at e3
    dsimp! only [b1_law, e, e1, e2, e3, law_same_bb, ne_nn, BEq.rfl]
  | false =>
    rw [hb] at e1 e2 e3
    rw [if_neg (by decide)] at e3
    have n1 : dNe (.str "tree") (.str "tree") = some (.bl false) := by rw [ne_ss (by decide +kernel) (by decide +kernel)]; rfl
    dsimp! only [b1_law, e, e1, e2, e3, law_same_bb, n1, BEq.rfl]
theorem l1_law_ok (rs : List (Str × Int)) (h : Rks rs) (hr : areRanks (.tup (rs.map mkR)) = true) (hu : upOk (knw rs) = true) (t : D) (ht : t.ok = true) (hw : wf (knw rs) t = true) (hs : size t ≤ 124)
    (s : DS) (s0 s2 s5 s6 s7 s8 s9 s10 s11 s12 s13 s14 s15 s16 : Slot) (n6 : s6.nc = true) (n7 : s7.nc = true) : ∃ (s' : DS) (t5 t6 t7 : Slot),
    l1_law [s0, .cel true s.c, s2, .val (.tup (rs.map mkR)), .val t, s5, s6, s7, s8, s9, s10, s11, s12, s13, s14, s15, s16] = .nx [s0, .cel true s'.c, s2, .val (.tup (rs.map mkR)), .val t, t5, t6, t7, s8, s9, s10, s11, s12, s13, s14, s15, s16] ∧ t5.nc = true ∧ t6.nc = true ∧ t7.nc = true := by
  have hm : (mRng dRng1 (mCons (mEx (mC (.int 5))) (mNil))) [s0, .cel true s.c, s2, .val (.tup (rs.map mkR)), .val t, s5, s6, s7, s8, s9, s10, s11, s12, s13, s14, s15, s16] = .ok ((List.range 5).map fun i => D.int (0 + (i : Nat)), none) [s0, .cel true s.c, s2, .val (.tup (rs.map mkR)), .val t, s5, s6, s7, s8, s9, s10, s11, s12, s13, s14, s15, s16] :=
    mRng_eq (as := [.v (.int 5)]) (ds := [.int 5]) rfl rfl (rngN 5 (by decide))
  have hf := xm_for (g := gN 5) (b := b1_law) hm
  have w := for_W (g := gN 5) (b := b1_law) (N := fun e => ∃ (s' : DS) (t5 t6 t7 : Slot), e = [s0, .cel true s'.c, s2, .val (.tup (rs.map mkR)), .val t, t5, t6, t7, s8, s9, s10, s11, s12, s13, s14, s15, s16] ∧ t5.nc = true ∧ t6.nc = true ∧ t7.nc = true) (T := fun _ _ => False)
    (fun i e => ∃ (s' : DS) (t5 t6 t7 : Slot), e = [s0, .cel true s'.c, s2, .val (.tup (rs.map mkR)), .val t, t5, t6, t7, s8, s9, s10, s11, s12, s13, s14, s15, s16] ∧ (0 < i → t5.nc = true) ∧ t6.nc = true ∧ t7.nc = true)
    ((List.range 5).map fun i => D.int (0 + (i : Nat))) 0 _ ⟨s, s5, s6, s7, rfl, (fun h => absurd h (by decide)), n6, n7⟩
    (fun i d hd e ⟨s', t5, t6, t7, he, g1, g2, g3⟩ => by
      subst he
      refine ⟨_, rfl, ?_⟩
      obtain ⟨s2', o, b, q⟩ := b1_law_ok rs h hr hu t ht hw hs s' s0 s2 (.val d) t6 t7 s8 s9 s10 s11 s12 s13 s14 s15 s16
      show (b1_law [s0, .cel true s'.c, s2, .val (.tup (rs.map mkR)), .val t, .val d, t6, t7, s8, s9, s10, s11, s12, s13, s14, s15, s16]).WL _ _ _
      rw [q]
      exact ⟨s2', _, _, _, rfl, fun _ => rfl, rfl, rfl⟩)
    (fun e ⟨s', t5, t6, t7, he, g1, g2, g3⟩ => ⟨s', t5, t6, t7, he, g1 (by simp), g2, g3⟩)
  obtain ⟨e, h2, s', t5, t6, t7, rfl, g⟩ := W_nx w
  exact ⟨s', t5, t6, t7, hf.trans h2, g⟩
end K00
end Mi
namespace Mi
open PySem PySem.Spec L2
open PyProof.Rows hiding St
local macro_rules | `(tactic| dsimp! only [$ls,*]) => `(tactic| (simp -dsimp only [xb_ok, xb_exc, xb_bad, xb_ite, xo_ok, xo_exc, xo_bad, xo_ite, xp_some, xp_none, xp_ite, xe_some, xe_none, xs_nx, xs_bk, xs_ct, xs_ret, xs_rnew, xs_exc, xs_bad, xs_ite,
     xf_ite, xk_ite, xm_seq, xm_fn, xm_call, xm_callN, xm_and, xm_or, xk_and, xk_or, xa_0, xa_1, xa_n, xa_nat, xi_n, xi_nat, Int.ofNat_lt, Int.ofNat_le,
     xf_ret, xf_rnew, xf_nx, xf_exc, xf_bad, xk_ret, xk_exc, xk_bad, xn_new, xn_exc, finS, backE, argSlots, mutIx, frzAt, xm_skip, xm_drop, xm_ret, xm_retN, xm_retF, xm_ifS, xm_asg, xm_asgNew, xm_lstC, xm_mut, xm_set, xm_aug, xm_pre, xm_C, xm_nm, xm_ex, xm_val, xm_nil, xm_cons, xm_bin, xm_binF, xm_un, xm_isi, xm_callD, xm_callF, xm_owns, xm_isT, xm_andT, xm_orT, xm_not, xm_notV, xm_if, xm_meth, xm_slice, xm_noP, xm_P, xm_chain, xk_chain, xm_fr, xm_frL, xm_raise, xm_yes, xm_newD, xg_N, xg_nil, xg_cons, xg_T,
     slotD, slotV, Arg.rd, Arg.own, rds, owns, Cell.frz, Cell.ty, dTup, dLst, dAdd, dSub, dMod, dDiv, dPow, dMulI, dMul, dInts, dNeg, dLt, dLe, dGt, dGe, dCmpI, dIxD, dIx, dIs, dIsNot, D.isNon, dLen, isTy, dIntOf, dListOf, dTupOf, cAppend, xpop, cSetX, cSetL, dAddI,
     List.length_cons, List.length_nil, List.getElem?_cons_zero, List.getElem?_cons_succ, List.getElem?_nil, List.set_cons_zero, List.set_cons_succ, List.set_nil, List.cons_append, List.nil_append, List.append_nil, List.replicate, List.nodup_cons, List.not_mem_nil, List.nodup_nil, List.mem_singleton,
     Option.map_some, Option.map_none, Option.bind_some, Option.bind_none, if_true, if_false, ite_true, ite_false, reduceIte, reduceCtorEq, not_false_eq_true, not_true_eq_false, and_true, true_and, and_false, false_and, or_true, true_or, or_false, false_or, decide_eq_true_eq, Bool.not_true, Bool.not_false, Bool.true_eq_false, Bool.false_eq_true, Nat.reduceAdd, Nat.reduceSub, Nat.reduceEqDiff, Nat.reduceLeDiff, Nat.reduceLT, Nat.reduceMul, Int.reduceAdd, Int.reduceLT, Int.reduceLE, Int.reduceNeg, Int.reduceSub, Int.reduceToNat, Int.reducePow, Int.reduceMul, Int.natCast_add, Int.cast_ofNat_Int, Int.sub_zero, gt_iff_lt, ge_iff_le, String.reduceEq, String.reduceBEq, beq_self_eq_true, Nat.zero_add, sizeLine, Nat.reducePow, decide_true, decide_false, $ls,*]))
namespace K00
/-- one value that is tried as ranks -/
theorem b2_law_ok (v : D) (hv : v.ok = true) (s0 s1 s2 s3 s4 s5 s6 s7 s8 s9 s11 s12 s13 s14 s15 s16 : Slot) : ∃ b : Bool,
    b2_law [s0, s1, s2, s3, s4, s5, s6, s7, s8, s9, .val v, s11, s12, s13, s14, s15, s16] = .nx [s0, s1, s2, s3, s4, s5, s6, .val (.bl b), s8, s9, .val v, s11, s12, s13, s14, s15, s16] := by
  have e1 := law_are_ranks_eq v hv
  have e2 := are_ranks_eq v hv
  have e3 := asked0 v hv
  refine ⟨areRanks v, ?_⟩
  cases hb : areRanks v with
  | true =>
    rw [hb] at e1 e2 e3
    rw [if_pos rfl] at e3
    dsimp! only [b2_law, e1, e2, e3, law_same_bb, ne_nn, BEq.rfl]
  | false =>
    rw [hb] at e1 e2 e3
    rw [if_neg (by decide)] at e3
    have n1 : dNe (.str "ranks") (.str "ranks") = some (.bl false) := by rw [ne_ss (by decide +kernel) (by decide +kernel)]; rfl
    dsimp! only [b2_law, e1, e2, e3, law_same_bb, n1, BEq.rfl]
theorem l2_law_ok (vs : List D) (hv : ∀ v ∈ vs, v.ok = true) (s0 s1 s2 s3 s4 s5 s6 s7 s8 s10 s11 s12 s13 s14 s15 s16 : Slot) (n7 : s7.nc = true) (n10 : s10.nc = true) : ∃ t7 t10 : Slot,
    l2_law [s0, s1, s2, s3, s4, s5, s6, s7, s8, .val (.lst vs), s10, s11, s12, s13, s14, s15, s16] = .nx [s0, s1, s2, s3, s4, s5, s6, t7, s8, .val (.lst vs), t10, s11, s12, s13, s14, s15, s16] ∧ t7.nc = true ∧ t10.nc = true := by
  have hm : mSrc (mNm 9) [s0, s1, s2, s3, s4, s5, s6, s7, s8, .val (.lst vs), s10, s11, s12, s13, s14, s15, s16] = .ok (vs, none) [s0, s1, s2, s3, s4, s5, s6, s7, s8, .val (.lst vs), s10, s11, s12, s13, s14, s15, s16] := rfl
  have hf := xm_for (g := gN 10) (b := b2_law) hm
  have w := for_W (g := gN 10) (b := b2_law) (N := fun e => ∃ t7 t10 : Slot, e = [s0, s1, s2, s3, s4, s5, s6, t7, s8, .val (.lst vs), t10, s11, s12, s13, s14, s15, s16] ∧ t7.nc = true ∧ t10.nc = true) (T := fun _ _ => False)
    (fun i e => ∃ t7 t10 : Slot, e = [s0, s1, s2, s3, s4, s5, s6, t7, s8, .val (.lst vs), t10, s11, s12, s13, s14, s15, s16] ∧ t7.nc = true ∧ t10.nc = true) vs 0 _ ⟨s7, s10, rfl, n7, n10⟩
    (fun i d hd e ⟨t7, t10, he, g1, g2⟩ => by
      subst he
      refine ⟨_, rfl, ?_⟩
      obtain ⟨b, q⟩ := b2_law_ok d (hv d (List.mem_of_getElem? hd)) s0 s1 s2 s3 s4 s5 s6 t7 s8 (.val (.lst vs)) s11 s12 s13 s14 s15 s16
      show (b2_law [s0, s1, s2, s3, s4, s5, s6, t7, s8, .val (.lst vs), .val d, s11, s12, s13, s14, s15, s16]).WL _ _ _
      rw [q]
      exact ⟨_, _, rfl, rfl, rfl⟩)
    (fun e h => h)
  obtain ⟨e, h2, t7, t10, rfl, g⟩ := W_nx w
  exact ⟨t7, t10, hf.trans h2, g⟩
end K00
end Mi
namespace Mi
open PySem PySem.Spec L2
open PyProof.Rows hiding St
local macro_rules | `(tactic| dsimp! only [$ls,*]) => `(tactic| (simp -dsimp only [xb_ok, xb_exc, xb_bad, xb_ite, xo_ok, xo_exc, xo_bad, xo_ite, xp_some, xp_none, xp_ite, xe_some, xe_none, xs_nx, xs_bk, xs_ct, xs_ret, xs_rnew, xs_exc, xs_bad, xs_ite,
     xf_ite, xk_ite, xm_seq, xm_fn, xm_call, xm_callN, xm_and, xm_or, xk_and, xk_or, xa_0, xa_1, xa_n, xa_nat, xi_n, xi_nat, Int.ofNat_lt, Int.ofNat_le,
     xf_ret, xf_rnew, xf_nx, xf_exc, xf_bad, xk_ret, xk_exc, xk_bad, xn_new, xn_exc, finS, backE, argSlots, mutIx, frzAt, xm_skip, xm_drop, xm_ret, xm_retN, xm_retF, xm_ifS, xm_asg, xm_asgNew, xm_lstC, xm_mut, xm_set, xm_aug, xm_pre, xm_C, xm_nm, xm_ex, xm_val, xm_nil, xm_cons, xm_bin, xm_binF, xm_un, xm_isi, xm_callD, xm_callF, xm_owns, xm_isT, xm_andT, xm_orT, xm_not, xm_notV, xm_if, xm_meth, xm_slice, xm_noP, xm_P, xm_chain, xk_chain, xm_fr, xm_frL, xm_raise, xm_yes, xm_newD, xg_N, xg_nil, xg_cons, xg_T,
     slotD, slotV, Arg.rd, Arg.own, rds, owns, Cell.frz, Cell.ty, dTup, dLst, dAdd, dSub, dMod, dDiv, dPow, dMulI, dMul, dInts, dNeg, dLt, dLe, dGt, dGe, dCmpI, dIxD, dIx, dIs, dIsNot, D.isNon, dLen, isTy, dIntOf, dListOf, dTupOf, cAppend, xpop, cSetX, cSetL, dAddI,
     List.length_cons, List.length_nil, List.getElem?_cons_zero, List.getElem?_cons_succ, List.getElem?_nil, List.set_cons_zero, List.set_cons_succ, List.set_nil, List.cons_append, List.nil_append, List.append_nil, List.replicate, List.nodup_cons, List.not_mem_nil, List.nodup_nil, List.mem_singleton,
     Option.map_some, Option.map_none, Option.bind_some, Option.bind_none, if_true, if_false, ite_true, ite_false, reduceIte, reduceCtorEq, not_false_eq_true, not_true_eq_false, and_true, true_and, and_false, false_and, or_true, true_or, or_false, false_or, decide_eq_true_eq, Bool.not_true, Bool.not_false, Bool.true_eq_false, Bool.false_eq_true, Nat.reduceAdd, Nat.reduceSub, Nat.reduceEqDiff, Nat.reduceLeDiff, Nat.reduceLT, Nat.reduceMul, Int.reduceAdd, Int.reduceLT, Int.reduceLE, Int.reduceNeg, Int.reduceSub, Int.reduceToNat, Int.reducePow, Int.reduceMul, Int.natCast_add, Int.cast_ofNat_Int, Int.sub_zero, gt_iff_lt, ge_iff_le, String.reduceEq, String.reduceBEq, beq_self_eq_true, Nat.zero_add, sizeLine, Nat.reducePow, decide_true, decide_false, $ls,*]))
namespace K00
theorem letter (s : DS) : ∃ c : Nat, atI (Str.ofString "abyzA1 ").cps.toList (s.val 7) = some c ∧ PyData.strOk ⟨#[c]⟩ = true ∧ (⟨#[c]⟩ : Str).length = 1 := by
  have h1 := s.val_nonneg (n := 7) (by decide)
  have h2 := s.val_lt (n := 7) (by decide)
  have : s.val 7 = 0 ∨ s.val 7 = 1 ∨ s.val 7 = 2 ∨ s.val 7 = 3 ∨ s.val 7 = 4 ∨ s.val 7 = 5 ∨ s.val 7 = 6 := by omega
  rcases this with e | e | e | e | e | e | e <;> rw [e]
  · exact ⟨97, by decide +kernel, by decide +kernel, rfl⟩
  · exact ⟨98, by decide +kernel, by decide +kernel, rfl⟩
  · exact ⟨121, by decide +kernel, by decide +kernel, rfl⟩
  · exact ⟨122, by decide +kernel, by decide +kernel, rfl⟩
  · exact ⟨65, by decide +kernel, by decide +kernel, rfl⟩
  · exact ⟨49, by decide +kernel, by decide +kernel, rfl⟩
  · exact ⟨32, by decide +kernel, by decide +kernel, rfl⟩
theorem letters7 : (Str.ofString "abyzA1 ").length ≤ 16777216 := by decide +kernel
/-- the word's letters -/
theorem c1_law_ok (s : DS) (s0 s2 s3 s4 s5 s6 s7 s8 s9 s10 s11 s12 s13 s14 s15 s16 : Slot) (n5 : s5.nc = true) : ∃ (s' : DS) (ws : List Str),
    c1_law [s0, .cel true s.c, s2, s3, s4, s5, s6, s7, s8, s9, s10, s11, s12, s13, s14, s15, s16] = .ok (.lst (ws.map .str)) [s0, .cel true s'.c, s2, s3, s4, s5, s6, s7, s8, s9, s10, s11, s12, s13, s14, s15, s16] ∧ ws.length ≤ 3 ∧ ∀ y ∈ ws, PyData.strOk y = true ∧ y.length = 1 := by
  have d4 := draw_eq s 4 (by decide) (by decide)
  have v1 := s.val_nonneg (n := 4) (by decide)
  have v2 := s.val_lt (n := 4) (by decide)
  obtain ⟨n, hn⟩ := Int.eq_ofNat_of_zero_le v1
  have hm : (mRng dRng1 (mCons (mEx (mCall (f__law_draw) [true, false] (mCons (mNm 1) (mCons (mEx (mC (.int 4))) (mNil))))) (mNil))) [s0, .cel true s.c, s2, s3, s4, s5, s6, s7, s8, s9, s10, s11, s12, s13, s14, s15, s16] = .ok ((List.range n).map fun i => D.int (0 + (i : Nat)), none) [s0, .cel true (s.next 4).c, s2, s3, s4, s5, s6, s7, s8, s9, s10, s11, s12, s13, s14, s15, s16] := by
    refine mRng_eq (as := [.v (.int (n : Int))]) (ds := [.int (n : Int)]) ?_ rfl (rngN n (by omega))
    dsimp! only [d4, hn]
  obtain ⟨acc, e, h1, s', ws, rfl, rfl, h2, h3⟩ := mcomp_invN (g := gN 5) (t := mYes) (m := mBin dIxD (mEx (mC (.str "abyzA1 "))) (mEx (mCall (f__law_draw) [true, false] (mCons (mNm 1) (mCons (mEx (mC (.int 7))) (mNil)))))) (vs := [5]) (env := [s0, .cel true s.c, s2, s3, s4, s5, s6, s7, s8, s9, s10, s11, s12, s13, s14, s15, s16])
    (I := fun k acc e => ∃ (s' : DS) (ws : List Str), acc = ws.map .str ∧ e = [s0, .cel true s'.c, s2, s3, s4, .emp, s6, s7, s8, s9, s10, s11, s12, s13, s14, s15, s16] ∧ ws.length = k ∧ ∀ y ∈ ws, PyData.strOk y = true ∧ y.length = 1)
    hm (by cases s5 <;> first | rfl | cases n5) (by rw [List.length_map, List.length_range]; show n ≤ 16777216; omega) ⟨s.next 4, [], rfl, rfl, rfl, (fun _ h => nomatch h)⟩
    (fun k d hd acc e ⟨s', ws, ha, he, hk, g⟩ => by
      subst ha he
      obtain ⟨y, q1, q2, q3⟩ := letter s'
      have d7 := draw_eq s' 7 (by decide) (by decide)
      refine ⟨some (.str ⟨#[y]⟩), [s0, .cel true (s'.next 7).c, s2, s3, s4, .emp, s6, s7, s8, s9, s10, s11, s12, s13, s14, s15, s16], ?_, s'.next 7, ws ++ [⟨#[y]⟩], by simp, rfl, by rw [List.length_append, hk]; rfl, fun x hx => ?_⟩
      · dsimp! only [cStep, xl_0, xl_1, xx_ok, d7, q1, letters7]
      · rcases List.mem_append.mp hx with hx | hx
        · exact g x hx
        · rw [List.mem_singleton] at hx; subst hx; exact ⟨q2, q3⟩)
  refine ⟨s', ws, h1, ?_, h3⟩
  rw [h2, List.length_map, List.length_range]
  omega
end K00
end Mi
namespace Mi
open PySem PySem.Spec L2
open PyProof.Rows hiding St
local macro_rules | `(tactic| dsimp! only [$ls,*]) => `(tactic| (simp -dsimp only [xb_ok, xb_exc, xb_bad, xb_ite, xo_ok, xo_exc, xo_bad, xo_ite, xp_some, xp_none, xp_ite, xe_some, xe_none, xs_nx, xs_bk, xs_ct, xs_ret, xs_rnew, xs_exc, xs_bad, xs_ite,
     xf_ite, xk_ite, xm_seq, xm_fn, xm_call, xm_callN, xm_and, xm_or, xk_and, xk_or, xa_0, xa_1, xa_n, xa_nat, xi_n, xi_nat, Int.ofNat_lt, Int.ofNat_le,
     xf_ret, xf_rnew, xf_nx, xf_exc, xf_bad, xk_ret, xk_exc, xk_bad, xn_new, xn_exc, finS, backE, argSlots, mutIx, frzAt, xm_skip, xm_drop, xm_ret, xm_retN, xm_retF, xm_ifS, xm_asg, xm_asgNew, xm_lstC, xm_mut, xm_set, xm_aug, xm_pre, xm_C, xm_nm, xm_ex, xm_val, xm_nil, xm_cons, xm_bin, xm_binF, xm_un, xm_isi, xm_callD, xm_callF, xm_owns, xm_isT, xm_andT, xm_orT, xm_not, xm_notV, xm_if, xm_meth, xm_slice, xm_noP, xm_P, xm_chain, xk_chain, xm_fr, xm_frL, xm_raise, xm_yes, xm_newD, xg_N, xg_nil, xg_cons, xg_T,
     slotD, slotV, Arg.rd, Arg.own, rds, owns, Cell.frz, Cell.ty, dTup, dLst, dAdd, dSub, dMod, dDiv, dPow, dMulI, dMul, dInts, dNeg, dLt, dLe, dGt, dGe, dCmpI, dIxD, dIx, dIs, dIsNot, D.isNon, dLen, isTy, dIntOf, dListOf, dTupOf, cAppend, xpop, cSetX, cSetL, dAddI,
     List.length_cons, List.length_nil, List.getElem?_cons_zero, List.getElem?_cons_succ, List.getElem?_nil, List.set_cons_zero, List.set_cons_succ, List.set_nil, List.cons_append, List.nil_append, List.append_nil, List.replicate, List.nodup_cons, List.not_mem_nil, List.nodup_nil, List.mem_singleton,
     Option.map_some, Option.map_none, Option.bind_some, Option.bind_none, if_true, if_false, ite_true, ite_false, reduceIte, reduceCtorEq, not_false_eq_true, not_true_eq_false, and_true, true_and, and_false, false_and, or_true, true_or, or_false, false_or, decide_eq_true_eq, Bool.not_true, Bool.not_false, Bool.true_eq_false, Bool.false_eq_true, Nat.reduceAdd, Nat.reduceSub, Nat.reduceEqDiff, Nat.reduceLeDiff, Nat.reduceLT, Nat.reduceMul, Int.reduceAdd, Int.reduceLT, Int.reduceLE, Int.reduceNeg, Int.reduceSub, Int.reduceToNat, Int.reducePow, Int.reduceMul, Int.natCast_add, Int.cast_ofNat_Int, Int.sub_zero, gt_iff_lt, ge_iff_le, String.reduceEq, String.reduceBEq, beq_self_eq_true, Nat.zero_add, sizeLine, Nat.reducePow, decide_true, decide_false, $ls,*]))
namespace K00
/-- the word, and what is asked of it -/
noncomputable def w3_law : MS := mSeq (mAsg (mBin dAdd (mEx (mMeth "str" dJoin (mEx (mC (.str ""))) (mCons (mEx (mFr (c1_law ))) (mNil)))) (mEx (mBin dMul (mEx (mC (.str "q"))) (mEx (mBin dIxD (mEx (mOwns dLst (mCons (mEx (mC (.int 0))) (mCons (mEx (mC (.int 0))) (mCons (mEx (mC (.int 6))) (mCons (mEx (mC (.int 8))) (mCons (mEx (mC (.int 9))) (mNil)))))))) (mEx (mCall (f__law_draw) [true, false] (mCons (mNm 1) (mCons (mEx (mC (.int 5))) (mNil)))))))))) (gN 11)) (mIfS (mOr (mNot (mIsT (mCall (f__law_same) [false, false] (mCons (mEx (mCall (f_is_sign) [false] (mCons (mNm 11) (mNil)))) (mCons (mEx (mCall (f__law_is_sign) [false] (mCons (mNm 11) (mNil)))) (mNil)))))) (mOr (mIsT (mBin dIsNot (mEx (mCall (f_is_sign) [false] (mCons (mEx (mC .non)) (mNil)))) (mEx (mC (.bl false))))) (mIsT (mBin dIsNot (mEx (mCall (f_is_sign) [false] (mCons (mEx (mOwns dTup (mCons (mEx (mC (.str "a"))) (mNil)))) (mNil)))) (mEx (mC (.bl false))))))) (mRet (mC (.bl false))) (mSkip))
/-- the values that are tried -/
noncomputable def t3_law : MS := mSeq (mAsg (mOwns dLst (mCons (mNm 3) (mCons (mEx (mSlice dRev (mNm 3) (mNoP) (mNoP))) (mCons (mEx (mCallD dListOf (mCons (mNm 3) (mNil)))) (mCons (mEx (mBin dAdd (mNm 3) (mEx (mSlice dSl (mNm 3) (mNoP) (mP (mC (.int 1))))))) (mCons (mEx (mBin dAdd (mEx (mBin dAdd (mEx (mSlice dSl (mNm 3) (mNoP) (mP (mVal 8)))) (mEx (mOwns dTup (mCons (mEx (mOwns dTup (mCons (mEx (mBin dIxD (mEx (mBin dIxD (mNm 3) (mNm 8))) (mEx (mC (.int 0))))) (mCons (mEx (mC (.int 4))) (mNil))))) (mNil)))))) (mEx (mSlice dSl (mNm 3) (mP (mBin dAdd (mNm 8) (mEx (mC (.int 1))))) (mNoP))))) (mNil))))))) (gN 9)) (mSeq (mAsg (mBin dAdd (mNm 9) (mEx (mOwns dLst (mCons (mEx (mBin dAdd (mEx (mBin dAdd (mEx (mSlice dSl (mNm 3) (mNoP) (mP (mVal 8)))) (mEx (mOwns dTup (mCons (mEx (mOwns dTup (mCons (mEx (mBin dIxD (mEx (mBin dIxD (mNm 3) (mNm 8))) (mEx (mC (.int 0))))) (mCons (mEx (mC (.bl true))) (mNil))))) (mNil)))))) (mEx (mSlice dSl (mNm 3) (mP (mBin dAdd (mNm 8) (mEx (mC (.int 1))))) (mNoP))))) (mCons (mEx (mBin dAdd (mEx (mBin dAdd (mEx (mSlice dSl (mNm 3) (mNoP) (mP (mVal 8)))) (mEx (mOwns dTup (mCons (mEx (mOwns dTup (mCons (mEx (mC (.str "A"))) (mCons (mEx (mC (.int 1))) (mNil))))) (mNil)))))) (mEx (mSlice dSl (mNm 3) (mP (mBin dAdd (mNm 8) (mEx (mC (.int 1))))) (mNoP))))) (mCons (mEx (mOwns dTup (mCons (mEx (mOwns dTup (mCons (mEx (mC (.str "f"))) (mCons (mEx (mC (.int 1))) (mNil))))) (mNil)))) (mCons (mEx (mOwns dTup (mNil))) (mCons (mEx (mC .non)) (mNil))))))))) (gN 9)) (mAsg (mBin dAdd (mNm 9) (mEx (mOwns dLst (mCons (mEx (mBin dAdd (mEx (mBin dAdd (mEx (mSlice dSl (mNm 3) (mNoP) (mP (mVal 8)))) (mEx (mOwns dTup (mCons (mEx (mSlice dSl (mEx (mBin dIxD (mNm 3) (mNm 8))) (mNoP) (mP (mC (.int 1))))) (mNil)))))) (mEx (mSlice dSl (mNm 3) (mP (mBin dAdd (mNm 8) (mEx (mC (.int 1))))) (mNoP))))) (mCons (mEx (mBin dAdd (mEx (mBin dAdd (mEx (mSlice dSl (mNm 3) (mNoP) (mP (mVal 8)))) (mEx (mOwns dTup (mCons (mEx (mOwns dTup (mCons (mEx (mBin dIxD (mEx (mBin dIxD (mNm 3) (mNm 8))) (mEx (mC (.int 0))))) (mCons (mEx (mUn dNeg (mEx (mC (.int 1))))) (mNil))))) (mNil)))))) (mEx (mSlice dSl (mNm 3) (mP (mBin dAdd (mNm 8) (mEx (mC (.int 1))))) (mNoP))))) (mNil)))))) (gN 9)))
theorem seq_assoc (a b c : MS) : mSeq (mSeq a b) c = mSeq a (mSeq b c) := funext fun env => by
  show ((a env).seq b).seq c = (a env).seq (mSeq b c)
  cases a env <;> rfl
theorem b3_split : b3_law = mSeq (mAsg (mCall (f__law_ranks) [true] (mCons (mNm 1) (mNil))) (gN 3)) (mSeq (mAsg (mCall (f__law_tree) [true, false, false] (mCons (mNm 1) (mCons (mNm 3) (mCons (mEx (mC (.int 30))) (mNil))))) (gN 4)) (mSeq (mIfS (mOr (mNot (mIsT (mCall (f__law_same) [false, false] (mCons (mEx (mCall (f_is_tree) [false, false] (mCons (mNm 3) (mCons (mNm 4) (mNil))))) (mCons (mEx (mC (.bl true))) (mNil)))))) (mIsT (mBin dIsNot (mEx (mCall (f__law_asked) [false, false, false] (mCons (mEx (mC (.int 1))) (mCons (mNm 3) (mCons (mNm 4) (mNil)))))) (mEx (mC .non))))) (mRet (mC (.bl false))) (mSkip)) (mSeq (l1_law) (mSeq (mAsg (mCall (f__law_draw) [true, false] (mCons (mNm 1) (mCons (mEx (mCallD dLen (mCons (mNm 3) (mNil)))) (mNil)))) (gN 8)) (mSeq (t3_law) (mSeq (l2_law) (w3_law))))))) := by
  unfold t3_law
  rw [seq_assoc, seq_assoc]
  rfl
/-- ranks with one put in place of the one at k -/
def putAt (R : List D) (k : Nat) (x : D) : D := .tup (R.take k ++ [x] ++ R.drop (k + 1))
theorem putAt_ok {R : List D} (h : oks R = true) (k : Nat) {x : D} (hx : x.ok = true) : (putAt R k x).ok = true := by
  show oks _ = true
  rw [oks_iff] at h ⊢
  intro d hd
  rcases List.mem_append.mp hd with hd | hd
  · rcases List.mem_append.mp hd with hd | hd
    · exact h d (List.mem_of_mem_take hd)
    · rw [List.mem_singleton] at hd; subst hd; exact hx
  · exact h d (List.mem_of_mem_drop hd)
def vs12 (R : List D) (k : Nat) (x : Str) (i : Int) : List D :=
  [.tup R, .tup (pickR R none none), .lst R, .tup (R ++ R.take 1), putAt R k (.tup [.str x, .int 4]), putAt R k (.tup [.str x, .bl true]), putAt R k (.tup [.str "A", .int 1]), .tup [.tup [.str "f", .int 1]], .tup [], .non,
   putAt R k (.tup [.str x]), putAt R k (.tup [.str x, .int (-1)])]
theorem mem_pickR {R : List D} {lo hi : Option Int} {d : D} (h : d ∈ pickR R lo hi) : d ∈ R := by
  obtain ⟨m, _, e⟩ := List.mem_filterMap.mp h
  exact List.mem_of_getElem? e
theorem vs12_ok {R : List D} (h : oks R = true) (k : Nat) {x : Str} (hx : (D.str x).ok = true) (i : Int) : ∀ v ∈ vs12 R k x i, v.ok = true := by
  have p : ∀ y : D, y.ok = true → (putAt R k (.tup [.str x, y])).ok = true := fun y hy => putAt_ok h k (by
    show oks _ = true
    rw [oks_iff]
    intro d hd
    simp only [List.mem_cons, List.not_mem_nil, or_false] at hd
    rcases hd with rfl | rfl
    · exact hx
    · exact hy)
  have h' := oks_iff.mp h
  intro v hv
  simp only [vs12, List.mem_cons, List.not_mem_nil, or_false] at hv
  rcases hv with rfl | rfl | rfl | rfl | rfl | rfl | rfl | rfl | rfl | rfl | rfl | rfl
  · exact h
  · exact oks_iff.mpr fun d hd => h' d (mem_pickR hd)
  · exact h
  · refine oks_iff.mpr fun d hd => ?_
    rcases List.mem_append.mp hd with hd | hd
    · exact h' d hd
    · exact h' d (List.mem_of_mem_take hd)
  · exact p _ rfl
  · exact p _ rfl
  · exact putAt_ok h k (by decide +kernel)
  · decide +kernel
  · rfl
  · rfl
  · refine putAt_ok h k ?_
    show oks _ = true
    rw [oks_iff]
    intro d hd
    rw [List.mem_singleton] at hd
    subst hd; exact hx
  · exact p _ rfl
theorem pickR_len (R : List D) (lo hi : Option Int) : (pickR R lo hi).length ≤ (revAt R.length lo hi).2 := by
  unfold pickR
  refine Nat.le_trans (List.length_filterMap_le _ _) ?_
  rw [List.length_range]
  exact Nat.le_refl _
theorem t3_law_ok (R : List D) (hl : R.length ≤ 8) (k : Nat) (x : Str) (i : Int) (hk : R[k]? = some (.tup [.str x, .int i]))
    (s0 s1 s2 s4 s5 s6 s7 s9 s10 s11 s12 s13 s14 s15 s16 : Slot) :
    t3_law [s0, s1, s2, .val (.tup R), s4, s5, s6, s7, .val (.int k), s9, s10, s11, s12, s13, s14, s15, s16] = .nx [s0, s1, s2, .val (.tup R), s4, s5, s6, s7, .val (.int k), .val (.lst (vs12 R k x i)), s10, s11, s12, s13, s14, s15, s16] := by
  have c1 : cutD R none (some (k : Int)) = R.take k := cut_take
  have c2 : cutD R (some ((k : Int) + 1)) none = R.drop (k + 1) := cut_drop (k := k + 1)
  have c3 : cutD R none (some 1) = R.take 1 := cut_take (k := 1)
  have c4 : cutD [.str x, .int i] none (some 1) = [.str x] := cut_take (k := 1)
  have g1 : (pickR R none none).length ≤ 16777216 := by
    exact Nat.le_trans (pickR_len R none none) ((by decide +kernel : ∀ n, n ≤ 8 → (revAt n none none).2 ≤ 16777216) _ hl)
  have g2 : (R.take k).length + 1 ≤ 16777216 := by rw [List.length_take]; omega
  have g3 : (R.take k).length + 1 + (R.drop (k + 1)).length ≤ 16777216 := by rw [List.length_take, List.length_drop]; omega
  have g4 : R.length + (R.take 1).length ≤ 16777216 := by rw [List.length_take]; omega
  dsimp! only [t3_law, c1, c2, c3, c4, hk, dSl, dRev, g1, g2, g3, g4, List.length_append]
  rfl
end K00
end Mi
namespace Mi
open PySem PySem.Spec L2
open PyProof.Rows hiding St
local macro_rules | `(tactic| dsimp! only [$ls,*]) => `(tactic| (simp -dsimp only [xb_ok, xb_exc, xb_bad, xb_ite, xo_ok, xo_exc, xo_bad, xo_ite, xp_some, xp_none, xp_ite, xe_some, xe_none, xs_nx, xs_bk, xs_ct, xs_ret, xs_rnew, xs_exc, xs_bad, xs_ite,
     xf_ite, xk_ite, xm_seq, xm_fn, xm_call, xm_callN, xm_and, xm_or, xk_and, xk_or, xa_0, xa_1, xa_n, xa_nat, xi_n, xi_nat, Int.ofNat_lt, Int.ofNat_le,
     xf_ret, xf_rnew, xf_nx, xf_exc, xf_bad, xk_ret, xk_exc, xk_bad, xn_new, xn_exc, finS, backE, argSlots, mutIx, frzAt, xm_skip, xm_drop, xm_ret, xm_retN, xm_retF, xm_ifS, xm_asg, xm_asgNew, xm_lstC, xm_mut, xm_set, xm_aug, xm_pre, xm_C, xm_nm, xm_ex, xm_val, xm_nil, xm_cons, xm_bin, xm_binF, xm_un, xm_isi, xm_callD, xm_callF, xm_owns, xm_isT, xm_andT, xm_orT, xm_not, xm_notV, xm_if, xm_meth, xm_slice, xm_noP, xm_P, xm_chain, xk_chain, xm_fr, xm_frL, xm_raise, xm_yes, xm_newD, xg_N, xg_nil, xg_cons, xg_T,
     slotD, slotV, Arg.rd, Arg.own, rds, owns, Cell.frz, Cell.ty, dTup, dLst, dAdd, dSub, dMod, dDiv, dPow, dMulI, dMul, dInts, dNeg, dLt, dLe, dGt, dGe, dCmpI, dIxD, dIx, dIs, dIsNot, D.isNon, dLen, isTy, dIntOf, dListOf, dTupOf, cAppend, xpop, cSetX, cSetL, dAddI,
     List.length_cons, List.length_nil, List.getElem?_cons_zero, List.getElem?_cons_succ, List.getElem?_nil, List.set_cons_zero, List.set_cons_succ, List.set_nil, List.cons_append, List.nil_append, List.append_nil, List.replicate, List.nodup_cons, List.not_mem_nil, List.nodup_nil, List.mem_singleton,
     Option.map_some, Option.map_none, Option.bind_some, Option.bind_none, if_true, if_false, ite_true, ite_false, reduceIte, reduceCtorEq, not_false_eq_true, not_true_eq_false, and_true, true_and, and_false, false_and, or_true, true_or, or_false, false_or, decide_eq_true_eq, Bool.not_true, Bool.not_false, Bool.true_eq_false, Bool.false_eq_true, Nat.reduceAdd, Nat.reduceSub, Nat.reduceEqDiff, Nat.reduceLeDiff, Nat.reduceLT, Nat.reduceMul, Int.reduceAdd, Int.reduceLT, Int.reduceLE, Int.reduceNeg, Int.reduceSub, Int.reduceToNat, Int.reducePow, Int.reduceMul, Int.natCast_add, Int.cast_ofNat_Int, Int.sub_zero, gt_iff_lt, ge_iff_le, String.reduceEq, String.reduceBEq, beq_self_eq_true, Nat.zero_add, sizeLine, Nat.reducePow, decide_true, decide_false, $ls,*]))
namespace K00
theorem strsOf_map : ∀ ws : List Str, strsOf (ws.map .str) = some ws
  | [] => rfl
  | w :: ws => by
    show (strsOf (ws.map .str)).map (w :: ·) = _
    rw [strsOf_map ws]; rfl
theorem join_len {ws : List Str} (h : ∀ y ∈ ws, PyData.strOk y = true ∧ y.length = 1) : (ws.map (·.length)).sum = ws.length := by
  induction ws with
  | nil => rfl
  | cons w ws ih =>
    rw [List.map_cons, List.sum_cons, ih fun y hy => h y (List.mem_cons_of_mem _ hy), (h w List.mem_cons_self).2, List.length_cons]
    omega
theorem pick5 (s : DS) : ∃ n : Int, (n = 0 ∨ n = 6 ∨ n = 8 ∨ n = 9) ∧ atI [D.int 0, .int 0, .int 6, .int 8, .int 9] (s.val 5) = some (.int n) := by
  have h1 := s.val_nonneg (n := 5) (by decide)
  have h2 := s.val_lt (n := 5) (by decide)
  have : s.val 5 = 0 ∨ s.val 5 = 1 ∨ s.val 5 = 2 ∨ s.val 5 = 3 ∨ s.val 5 = 4 := by omega
  rcases this with e | e | e | e | e <;> rw [e]
  · exact ⟨0, .inl rfl, rfl⟩
  · exact ⟨0, .inl rfl, rfl⟩
  · exact ⟨6, .inr (.inl rfl), rfl⟩
  · exact ⟨8, .inr (.inr (.inl rfl)), rfl⟩
  · exact ⟨9, .inr (.inr (.inr rfl)), rfl⟩
theorem rep_q {n : Int} (h : n = 0 ∨ n = 6 ∨ n = 8 ∨ n = 9) : (-1048576 ≤ n ∧ n ≤ 1048576 ∧ (Str.ofString "q").length * n.toNat ≤ 1048576) ∧ (repS "q" n).length ≤ 9 := by
  rcases h with rfl | rfl | rfl | rfl <;> exact ⟨by decide +kernel, by decide +kernel⟩
theorem w3_law_ok (s : DS) (s0 s2 s3 s4 s5 s6 s7 s8 s9 s10 s11 s12 s13 s14 s15 s16 : Slot) (n5 : s5.nc = true) : ∃ (s' : DS) (t11 : Slot),
    w3_law [s0, .cel true s.c, s2, s3, s4, s5, s6, s7, s8, s9, s10, s11, s12, s13, s14, s15, s16] = .nx [s0, .cel true s'.c, s2, s3, s4, s5, s6, s7, s8, s9, s10, t11, s12, s13, s14, s15, s16] := by
  obtain ⟨s', ws, e1, hl, hw⟩ := c1_law_ok s s0 s2 s3 s4 s5 s6 s7 s8 s9 s10 s11 s12 s13 s14 s15 s16 n5
  obtain ⟨n, hn, e2⟩ := pick5 s'
  obtain ⟨r1, r2⟩ := rep_q hn
  have d5 := draw_eq s' 5 (by decide) (by decide)
  have jl : (Txt.join "" ws).length ≤ 3 := by
    show (Builtin.Str.glued "" ws).length ≤ 3
    rw [size_glued, join_len hw]
    show ws.length + (ws.length - 1) * 0 ≤ 3
    omega
  have j1 : dJoin (.str "") [.lst (ws.map .str)] = some (.str (Txt.join "" ws)) := by
    unfold dJoin
    simp only [strsOf_map]
    rw [if_pos]
    rw [join_len hw]
    show ws.length + ws.length * 0 ≤ 16777216
    omega
  have q1 : (Txt.join "" ws).length + (repS "q" n).length ≤ 16777216 := by omega
  have pl : (D.str (Txt.join "" ws ++ repS "q" n)).pl = true := by
    show decide (_ ≤ 100) = true
    rw [decide_eq_true_eq, PySem.Str.length_append]
    omega
  have a1 := is_sign_eq _ pl
  have a2 := law_is_sign_eq _ pl
  have a3 := is_sign_eq .non rfl
  have a4 := is_sign_eq (.tup [.str "a"]) rfl
  have b3 : isSign .non = false := rfl
  have b4 : isSign (.tup [.str "a"]) = false := rfl
  rw [b3] at a3
  rw [b4] at a4
  refine ⟨s'.next 5, .val (.str (Txt.join "" ws ++ repS "q" n)), ?_⟩
  dsimp! only [w3_law, e1, tyOk, j1, d5, e2, q1, a1, a2, a3, a4, law_same_bb, BEq.rfl, beq_self_eq_true]
  rw [if_pos r1]
theorem dIsNot_n : dIsNot .non .non = some (.bl false) := rfl
theorem b3_law_ok (s : DS) (s0 s2 s3 s4 s5 s6 s7 s8 s9 s10 s11 s12 s13 s14 s15 s16 : Slot) (n5 : s5.nc = true) (n6 : s6.nc = true) (n7 : s7.nc = true) (n10 : s10.nc = true) : ∃ (s' : DS) (t3 t4 t5 t6 t7 t8 t9 t10 t11 : Slot),
    b3_law [s0, .cel true s.c, s2, s3, s4, s5, s6, s7, s8, s9, s10, s11, s12, s13, s14, s15, s16] = .nx [s0, .cel true s'.c, s2, t3, t4, t5, t6, t7, t8, t9, t10, t11, s12, s13, s14, s15, s16] ∧ t5.nc = true ∧ t6.nc = true ∧ t7.nc = true ∧ t10.nc = true := by
  obtain ⟨rs, hrs, e1⟩ := law_ranks_eq s
  have h := RK_rks rs hrs
  have hr := RK_are rs hrs
  have hu := RK_up rs hrs
  obtain ⟨sa, t, e2, ht, hw, hh, hz⟩ := law_tree_eq rs h (s.next 6)
  have hT : isTree (knw rs) t = true := by
    unfold isTree
    rw [hw, decide_eq_true (show hgt t ≤ 40 by omega), decide_eq_true (show size t ≤ 4000 by omega)]; rfl
  have e3 := is_tree_eq rs t h.oks hr ht (by omega)
  have e4 := asked1 rs t h.oks hr ht (by omega)
  rw [hT] at e3 e4
  rw [if_pos rfl] at e4
  obtain ⟨sb, t5, t6, t7, e5, m5, m6, m7⟩ := l1_law_ok rs h hr hu t ht hw hz sa s0 s2 s5 s6 s7 s8 s9 s10 s11 s12 s13 s14 s15 s16 n6 n7
  have hl := h.len
  have e6 := draw_eq sb (rs.length : Int) (by omega) (by omega)
  have v1 := sb.val_nonneg (n := (rs.length : Int)) (by omega)
  have v2 := sb.val_lt (n := (rs.length : Int)) (by omega)
  obtain ⟨k, hk⟩ := Int.eq_ofNat_of_zero_le v1
  have kl : k < rs.length := by omega
  rw [hk] at e6
  have e7 : (rs.map mkR)[k]? = some (mkR rs[k]) := by
    rw [List.getElem?_map, List.getElem?_eq_getElem kl]; rfl
  have sm := h.small rs[k] (List.getElem_mem kl)
  have okx : (D.str rs[k].1).ok = true := by
    show (PyData.strOk _ && decide (_ ≤ 100)) = true
    rw [sm.1, decide_eq_true sm.2.1]; rfl
  have e8 := t3_law_ok (rs.map mkR) (by rw [List.length_map]; exact hl.2) k rs[k].1 rs[k].2 e7 s0 (.cel true (sb.next rs.length).c) s2 (.val t) t5 t6 t7 s9 s10 s11 s12 s13 s14 s15 s16
  obtain ⟨u7, u10, e9, k7, k10⟩ := l2_law_ok (vs12 (rs.map mkR) k rs[k].1 rs[k].2) (vs12_ok h.oks k okx rs[k].2) s0 (.cel true (sb.next rs.length).c) s2 (.val (.tup (rs.map mkR))) (.val t) t5 t6 t7 (.val (.int k)) s10 s11 s12 s13 s14 s15 s16 m7 n10
  obtain ⟨sc, t11, e10⟩ := w3_law_ok (sb.next rs.length) s0 s2 (.val (.tup (rs.map mkR))) (.val t) t5 t6 u7 (.val (.int k)) (.val (.lst (vs12 (rs.map mkR) k rs[k].1 rs[k].2))) u10 s11 s12 s13 s14 s15 s16 m5
  refine ⟨sc, .val (.tup (rs.map mkR)), .val t, t5, t6, u7, .val (.int k), .val (.lst (vs12 (rs.map mkR) k rs[k].1 rs[k].2)), u10, t11, ?_, m5, m6, k7, k10⟩
  rw [b3_split]
  dsimp! only [e1, e2, e3, e4, e5, List.length_map, e6, law_same_bb, BEq.rfl, beq_self_eq_true, e8, e9, e10]
end K00
end Mi
namespace Mi
open PySem PySem.Spec L2
open PyProof.Rows hiding St
local macro_rules | `(tactic| dsimp! only [$ls,*]) => `(tactic| (simp -dsimp only [xb_ok, xb_exc, xb_bad, xb_ite, xo_ok, xo_exc, xo_bad, xo_ite, xp_some, xp_none, xp_ite, xe_some, xe_none, xs_nx, xs_bk, xs_ct, xs_ret, xs_rnew, xs_exc, xs_bad, xs_ite,
     xf_ite, xk_ite, xm_seq, xm_fn, xm_call, xm_callN, xm_and, xm_or, xk_and, xk_or, xa_0, xa_1, xa_n, xa_nat, xi_n, xi_nat, Int.ofNat_lt, Int.ofNat_le,
     xf_ret, xf_rnew, xf_nx, xf_exc, xf_bad, xk_ret, xk_exc, xk_bad, xn_new, xn_exc, finS, backE, argSlots, mutIx, frzAt, xm_skip, xm_drop, xm_ret, xm_retN, xm_retF, xm_ifS, xm_asg, xm_asgNew, xm_lstC, xm_mut, xm_set, xm_aug, xm_pre, xm_C, xm_nm, xm_ex, xm_val, xm_nil, xm_cons, xm_bin, xm_binF, xm_un, xm_isi, xm_callD, xm_callF, xm_owns, xm_isT, xm_andT, xm_orT, xm_not, xm_notV, xm_if, xm_meth, xm_slice, xm_noP, xm_P, xm_chain, xk_chain, xm_fr, xm_frL, xm_raise, xm_yes, xm_newD, xg_N, xg_nil, xg_cons, xg_T,
     slotD, slotV, Arg.rd, Arg.own, rds, owns, Cell.frz, Cell.ty, dTup, dLst, dAdd, dSub, dMod, dDiv, dPow, dMulI, dMul, dInts, dNeg, dLt, dLe, dGt, dGe, dCmpI, dIxD, dIx, dIs, dIsNot, D.isNon, dLen, isTy, dIntOf, dListOf, dTupOf, cAppend, xpop, cSetX, cSetL, dAddI,
     List.length_cons, List.length_nil, List.getElem?_cons_zero, List.getElem?_cons_succ, List.getElem?_nil, List.set_cons_zero, List.set_cons_succ, List.set_nil, List.cons_append, List.nil_append, List.append_nil, List.replicate, List.nodup_cons, List.not_mem_nil, List.nodup_nil, List.mem_singleton,
     Option.map_some, Option.map_none, Option.bind_some, Option.bind_none, if_true, if_false, ite_true, ite_false, reduceIte, reduceCtorEq, not_false_eq_true, not_true_eq_false, and_true, true_and, and_false, false_and, or_true, true_or, or_false, false_or, decide_eq_true_eq, Bool.not_true, Bool.not_false, Bool.true_eq_false, Bool.false_eq_true, Nat.reduceAdd, Nat.reduceSub, Nat.reduceEqDiff, Nat.reduceLeDiff, Nat.reduceLT, Nat.reduceMul, Int.reduceAdd, Int.reduceLT, Int.reduceLE, Int.reduceNeg, Int.reduceSub, Int.reduceToNat, Int.reducePow, Int.reduceMul, Int.natCast_add, Int.cast_ofNat_Int, Int.sub_zero, gt_iff_lt, ge_iff_le, String.reduceEq, String.reduceBEq, beq_self_eq_true, Nat.zero_add, sizeLine, Nat.reducePow, decide_true, decide_false, $ls,*]))
namespace K00
theorem l3_law_ok (s : DS) (s0 s2 s3 s4 s5 s6 s7 s8 s9 s10 s11 s12 s13 s14 s15 s16 : Slot) (n5 : s5.nc = true) (n6 : s6.nc = true) (n7 : s7.nc = true) (n10 : s10.nc = true) : ∃ (s' : DS) (t2 t3 t4 t5 t6 t7 t8 t9 t10 t11 : Slot),
    l3_law [s0, .cel true s.c, s2, s3, s4, s5, s6, s7, s8, s9, s10, s11, s12, s13, s14, s15, s16] = .nx [s0, .cel true s'.c, t2, t3, t4, t5, t6, t7, t8, t9, t10, t11, s12, s13, s14, s15, s16] ∧ t5.nc = true ∧ t10.nc = true := by
  have hm : (mRng dRng1 (mCons (mEx (mC (.int 5))) (mNil))) [s0, .cel true s.c, s2, s3, s4, s5, s6, s7, s8, s9, s10, s11, s12, s13, s14, s15, s16] = .ok ((List.range 5).map fun i => D.int (0 + (i : Nat)), none) [s0, .cel true s.c, s2, s3, s4, s5, s6, s7, s8, s9, s10, s11, s12, s13, s14, s15, s16] :=
    mRng_eq (as := [.v (.int 5)]) (ds := [.int 5]) rfl rfl (rngN 5 (by decide))
  have hf := xm_for (g := gN 2) (b := b3_law) hm
  have w := for_W (g := gN 2) (b := b3_law) (N := fun e => ∃ (s' : DS) (t2 t3 t4 t5 t6 t7 t8 t9 t10 t11 : Slot), e = [s0, .cel true s'.c, t2, t3, t4, t5, t6, t7, t8, t9, t10, t11, s12, s13, s14, s15, s16] ∧ t5.nc = true ∧ t6.nc = true ∧ t7.nc = true ∧ t10.nc = true) (T := fun _ _ => False)
    (fun i e => ∃ (s' : DS) (t2 t3 t4 t5 t6 t7 t8 t9 t10 t11 : Slot), e = [s0, .cel true s'.c, t2, t3, t4, t5, t6, t7, t8, t9, t10, t11, s12, s13, s14, s15, s16] ∧ t5.nc = true ∧ t6.nc = true ∧ t7.nc = true ∧ t10.nc = true)
    ((List.range 5).map fun i => D.int (0 + (i : Nat))) 0 _ ⟨s, s2, s3, s4, s5, s6, s7, s8, s9, s10, s11, rfl, n5, n6, n7, n10⟩
    (fun i d hd e ⟨s', t2, t3, t4, t5, t6, t7, t8, t9, t10, t11, he, g5, g6, g7, g10⟩ => by
      subst he
      refine ⟨_, rfl, ?_⟩
      obtain ⟨sb, u3, u4, u5, u6, u7, u8, u9, u10, u11, q, k5, k6, k7, k10⟩ := b3_law_ok s' s0 (.val d) t3 t4 t5 t6 t7 t8 t9 t10 t11 s12 s13 s14 s15 s16 g5 g6 g7 g10
      show (b3_law [s0, .cel true s'.c, .val d, t3, t4, t5, t6, t7, t8, t9, t10, t11, s12, s13, s14, s15, s16]).WL _ _ _
      rw [q]
      exact ⟨sb, _, u3, u4, u5, u6, u7, u8, u9, u10, u11, rfl, k5, k6, k7, k10⟩)
    (fun e h => h)
  obtain ⟨e, h2, s', t2, t3, t4, t5, t6, t7, t8, t9, t10, t11, rfl, g5, g6, g7, g10⟩ := W_nx w
  exact ⟨s', t2, t3, t4, t5, t6, t7, t8, t9, t10, t11, hf.trans h2, g5, g10⟩
/-! ### the trees deep and great -/
def deepT : Nat → D
  | 0 => .tup [.str "a"]
  | n + 1 => .tup [.str "g", deepT n]
def fullT : Nat → D
  | 0 => .tup [.str "a"]
  | n + 1 => .tup [.str "f", fullT n, fullT n]
def wideR : List (Str × Int) := [("a", 0), ("f", 2), ("g", 1)]
def greatT : D := .tup [.str "f", .tup [.str "f", fullT 10, fullT 9], .tup [.str "f", fullT 8, deepT 0]]
theorem wide_a : arOf (knw wideR) "a" = some 0 := by decide +kernel
theorem wide_f : arOf (knw wideR) "f" = some 2 := by decide +kernel
theorem wide_g : arOf (knw wideR) "g" = some 1 := by decide +kernel
theorem wide_are : areRanks (.tup (wideR.map mkR)) = true := by
  have f : (wideR.map mkR).filterMap rankOf = wideR := rfl
  have e : sortS (wideR.map (·.1)) = wideR.map (·.1) := sortS_id (by decide +kernel) (by decide +kernel)
  show (decide (0 < (wideR.map mkR).length ∧ (wideR.map mkR).length ≤ 8) && (wideR.map mkR).all rankOk && rksOk ((wideR.map mkR).filterMap rankOf)) = true
  rw [f]
  unfold rksOk
  rw [e, decide_eq_true rfl]
  decide +kernel
theorem wide_oks : oks (wideR.map mkR) = true := by decide +kernel
theorem ok_a : (D.str "a").ok = true := by decide +kernel
theorem ok_f : (D.str "f").ok = true := by decide +kernel
theorem ok_g : (D.str "g").ok = true := by decide +kernel
theorem ok_1 {x : Str} {t : D} (h : (D.str x).ok = true) (h1 : t.ok = true) : (D.tup [.str x, t]).ok = true := by
  show ((D.str x).ok && (t.ok && true)) = true
  rw [h, h1]; rfl
theorem ok_2 {x : Str} {t u : D} (h : (D.str x).ok = true) (h1 : t.ok = true) (h2 : u.ok = true) : (D.tup [.str x, t, u]).ok = true := by
  show ((D.str x).ok && (t.ok && (u.ok && true))) = true
  rw [h, h1, h2]; rfl
theorem size_1 {x : Str} {t : D} : size (.tup [.str x, t]) = 1 + size t := by
  simp [size, sizes]
theorem size_2 {x : Str} {t u : D} : size (.tup [.str x, t, u]) = 1 + size t + size u := by
  simp [size, sizes]; omega
theorem hgt_1 {x : Str} {t : D} : hgt (.tup [.str x, t]) = 1 + hgt t := by
  simp [hgt, hgts]
theorem hgt_2 {x : Str} {t u : D} : hgt (.tup [.str x, t, u]) = 1 + max (hgt t) (hgt u) := by
  simp [hgt, hgts]
theorem wf_1 {t : D} (h : wf (knw wideR) t = true) : wf (knw wideR) (.tup [.str "g", t]) = true := by
  simp [wf, wfs, wide_g, h]
theorem wf_2 {t u : D} (h : wf (knw wideR) t = true) (h2 : wf (knw wideR) u = true) : wf (knw wideR) (.tup [.str "f", t, u]) = true := by
  simp [wf, wfs, wide_f, h, h2]
theorem wf_0 : wf (knw wideR) (.tup [.str "a"]) = true := by
  simp [wf, wfs, wide_a]
theorem deep_all : ∀ n, (deepT n).ok = true ∧ wf (knw wideR) (deepT n) = true ∧ hgt (deepT n) = n + 1 ∧ size (deepT n) = n + 1
  | 0 => ⟨by decide +kernel, wf_0, by decide +kernel, by decide +kernel⟩
  | n + 1 => by
    obtain ⟨h1, h2, h3, h4⟩ := deep_all n
    exact ⟨ok_1 ok_g h1, wf_1 h2, by rw [deepT, hgt_1, h3]; omega, by rw [deepT, size_1, h4]; omega⟩
theorem full_all : ∀ n, (fullT n).ok = true ∧ wf (knw wideR) (fullT n) = true ∧ hgt (fullT n) = n + 1 ∧ size (fullT n) = 2 ^ (n + 1) - 1
  | 0 => ⟨by decide +kernel, wf_0, by decide +kernel, by decide +kernel⟩
  | n + 1 => by
    obtain ⟨h1, h2, h3, h4⟩ := full_all n
    refine ⟨ok_2 ok_f h1 h1, wf_2 h2 h2, by rw [fullT, hgt_2, h3]; omega, ?_⟩
    rw [fullT, size_2, h4, Nat.pow_succ 2 (n + 1)]
    have : 0 < 2 ^ (n + 1) := Nat.two_pow_pos _
    omega
theorem great_all : greatT.ok = true ∧ wf (knw wideR) greatT = true ∧ hgt greatT ≤ 40 ∧ size greatT = 3585 := by
  obtain ⟨a1, a2, a3, a4⟩ := full_all 10
  obtain ⟨b1, b2, b3, b4⟩ := full_all 9
  obtain ⟨c1, c2, c3, c4⟩ := full_all 8
  obtain ⟨d1, d2, d3, d4⟩ := deep_all 0
  refine ⟨ok_2 ok_f (ok_2 ok_f a1 b1) (ok_2 ok_f c1 d1), wf_2 (wf_2 a2 b2) (wf_2 c2 d2), ?_, ?_⟩
  · unfold greatT
    rw [hgt_2, hgt_2, hgt_2, a3, b3, c3, d3]; decide
  · unfold greatT
    rw [size_2, size_2, size_2, a4, b4, c4, d4]
theorem l4_law_ok (s0 s1 s2 s3 s4 s5 s6 s7 s8 s9 s10 s11 s13 s14 s15 s16 : Slot) (n5 : s5.nc = true) : ∃ t5 : Slot,
    l4_law [s0, s1, s2, s3, s4, s5, s6, s7, s8, s9, s10, s11, .val (deepT 0), s13, s14, s15, s16] = .nx [s0, s1, s2, s3, s4, t5, s6, s7, s8, s9, s10, s11, .val (deepT 39), s13, s14, s15, s16] ∧ t5.nc = true := by
  have hm : (mRng dRng1 (mCons (mEx (mC (.int 39))) (mNil))) [s0, s1, s2, s3, s4, s5, s6, s7, s8, s9, s10, s11, .val (deepT 0), s13, s14, s15, s16] = .ok ((List.range 39).map fun i => D.int (0 + (i : Nat)), none) [s0, s1, s2, s3, s4, s5, s6, s7, s8, s9, s10, s11, .val (deepT 0), s13, s14, s15, s16] :=
    mRng_eq (as := [.v (.int 39)]) (ds := [.int 39]) rfl rfl (rngN 39 (by decide))
  have hf := xm_for (g := gN 5) (b := b4_law) hm
  have w := for_W (g := gN 5) (b := b4_law) (N := fun e => ∃ t5 : Slot, e = [s0, s1, s2, s3, s4, t5, s6, s7, s8, s9, s10, s11, .val (deepT 39), s13, s14, s15, s16] ∧ t5.nc = true) (T := fun _ _ => False)
    (fun i e => ∃ t5 : Slot, e = [s0, s1, s2, s3, s4, t5, s6, s7, s8, s9, s10, s11, .val (deepT i), s13, s14, s15, s16] ∧ t5.nc = true)
    ((List.range 39).map fun i => D.int (0 + (i : Nat))) 0 _ ⟨s5, rfl, n5⟩
    (fun i d hd e ⟨t5, he, g5⟩ => by
      subst he
      refine ⟨_, rfl, ?_⟩
      have q : b4_law [s0, s1, s2, s3, s4, .val d, s6, s7, s8, s9, s10, s11, .val (deepT (0 + i)), s13, s14, s15, s16] = .nx [s0, s1, s2, s3, s4, .val d, s6, s7, s8, s9, s10, s11, .val (deepT (0 + i + 1)), s13, s14, s15, s16] := by
        rw [deepT]
        dsimp! only [b4_law]
      show (b4_law [s0, s1, s2, s3, s4, .val d, s6, s7, s8, s9, s10, s11, .val (deepT (0 + i)), s13, s14, s15, s16]).WL _ _ _
      rw [q]
      exact ⟨_, rfl, rfl⟩)
    (fun e h => by rw [List.length_map, List.length_range] at h; exact h)
  obtain ⟨e, h2, t5, rfl, g5⟩ := W_nx w
  exact ⟨t5, hf.trans h2, g5⟩
theorem l5_law_ok (s0 s1 s2 s3 s4 s5 s6 s7 s8 s9 s10 s11 s12 s13 s15 s16 : Slot) (n5 : s5.nc = true) : ∃ t5 : Slot,
    l5_law [s0, s1, s2, s3, s4, s5, s6, s7, s8, s9, s10, s11, s12, s13, .val (fullT 0), s15, s16] = .nx [s0, s1, s2, s3, s4, t5, s6, s7, s8, s9, s10, s11, s12, s13, .val (fullT 10), s15, s16] ∧ t5.nc = true := by
  have hm : (mRng dRng1 (mCons (mEx (mC (.int 10))) (mNil))) [s0, s1, s2, s3, s4, s5, s6, s7, s8, s9, s10, s11, s12, s13, .val (fullT 0), s15, s16] = .ok ((List.range 10).map fun i => D.int (0 + (i : Nat)), none) [s0, s1, s2, s3, s4, s5, s6, s7, s8, s9, s10, s11, s12, s13, .val (fullT 0), s15, s16] :=
    mRng_eq (as := [.v (.int 10)]) (ds := [.int 10]) rfl rfl (rngN 10 (by decide))
  have hf := xm_for (g := gN 5) (b := b5_law) hm
  have w := for_W (g := gN 5) (b := b5_law) (N := fun e => ∃ t5 : Slot, e = [s0, s1, s2, s3, s4, t5, s6, s7, s8, s9, s10, s11, s12, s13, .val (fullT 10), s15, s16] ∧ t5.nc = true) (T := fun _ _ => False)
    (fun i e => ∃ t5 : Slot, e = [s0, s1, s2, s3, s4, t5, s6, s7, s8, s9, s10, s11, s12, s13, .val (fullT i), s15, s16] ∧ t5.nc = true)
    ((List.range 10).map fun i => D.int (0 + (i : Nat))) 0 _ ⟨s5, rfl, n5⟩
    (fun i d hd e ⟨t5, he, g5⟩ => by
      subst he
      refine ⟨_, rfl, ?_⟩
      have q : b5_law [s0, s1, s2, s3, s4, .val d, s6, s7, s8, s9, s10, s11, s12, s13, .val (fullT (0 + i)), s15, s16] = .nx [s0, s1, s2, s3, s4, .val d, s6, s7, s8, s9, s10, s11, s12, s13, .val (fullT (0 + i + 1)), s15, s16] := by
        rw [fullT]
        dsimp! only [b5_law]
      show (b5_law [s0, s1, s2, s3, s4, .val d, s6, s7, s8, s9, s10, s11, s12, s13, .val (fullT (0 + i)), s15, s16]).WL _ _ _
      rw [q]
      exact ⟨_, rfl, rfl⟩)
    (fun e h => by rw [List.length_map, List.length_range] at h; exact h)
  obtain ⟨e, h2, t5, rfl, g5⟩ := W_nx w
  exact ⟨t5, hf.trans h2, g5⟩
end K00
end Mi
namespace Mi
open PySem PySem.Spec L2
open PyProof.Rows hiding St
local macro_rules | `(tactic| dsimp! only [$ls,*]) => `(tactic| (simp -dsimp only [xb_ok, xb_exc, xb_bad, xb_ite, xo_ok, xo_exc, xo_bad, xo_ite, xp_some, xp_none, xp_ite, xe_some, xe_none, xs_nx, xs_bk, xs_ct, xs_ret, xs_rnew, xs_exc, xs_bad, xs_ite,
     xf_ite, xk_ite, xm_seq, xm_fn, xm_call, xm_callN, xm_and, xm_or, xk_and, xk_or, xa_0, xa_1, xa_n, xa_nat, xi_n, xi_nat, Int.ofNat_lt, Int.ofNat_le,
     xf_ret, xf_rnew, xf_nx, xf_exc, xf_bad, xk_ret, xk_exc, xk_bad, xn_new, xn_exc, finS, backE, argSlots, mutIx, frzAt, xm_skip, xm_drop, xm_ret, xm_retN, xm_retF, xm_ifS, xm_asg, xm_asgNew, xm_lstC, xm_mut, xm_set, xm_aug, xm_pre, xm_C, xm_nm, xm_ex, xm_val, xm_nil, xm_cons, xm_bin, xm_binF, xm_un, xm_isi, xm_callD, xm_callF, xm_owns, xm_isT, xm_andT, xm_orT, xm_not, xm_notV, xm_if, xm_meth, xm_slice, xm_noP, xm_P, xm_chain, xk_chain, xm_fr, xm_frL, xm_raise, xm_yes, xm_newD, xg_N, xg_nil, xg_cons, xg_T,
     slotD, slotV, Arg.rd, Arg.own, rds, owns, Cell.frz, Cell.ty, dTup, dLst, dAdd, dSub, dMod, dDiv, dPow, dMulI, dMul, dInts, dNeg, dLt, dLe, dGt, dGe, dCmpI, dIxD, dIx, dIs, dIsNot, D.isNon, dLen, isTy, dIntOf, dListOf, dTupOf, cAppend, xpop, cSetX, cSetL, dAddI,
     List.length_cons, List.length_nil, List.getElem?_cons_zero, List.getElem?_cons_succ, List.getElem?_nil, List.set_cons_zero, List.set_cons_succ, List.set_nil, List.cons_append, List.nil_append, List.append_nil, List.replicate, List.nodup_cons, List.not_mem_nil, List.nodup_nil, List.mem_singleton,
     Option.map_some, Option.map_none, Option.bind_some, Option.bind_none, if_true, if_false, ite_true, ite_false, reduceIte, reduceCtorEq, not_false_eq_true, not_true_eq_false, and_true, true_and, and_false, false_and, or_true, true_or, or_false, false_or, decide_eq_true_eq, Bool.not_true, Bool.not_false, Bool.true_eq_false, Bool.false_eq_true, Nat.reduceAdd, Nat.reduceSub, Nat.reduceEqDiff, Nat.reduceLeDiff, Nat.reduceLT, Nat.reduceMul, Int.reduceAdd, Int.reduceLT, Int.reduceLE, Int.reduceNeg, Int.reduceSub, Int.reduceToNat, Int.reducePow, Int.reduceMul, Int.natCast_add, Int.cast_ofNat_Int, Int.sub_zero, gt_iff_lt, ge_iff_le, String.reduceEq, String.reduceBEq, beq_self_eq_true, Nat.zero_add, sizeLine, Nat.reducePow, decide_true, decide_false, $ls,*]))
namespace K00
theorem c1_nodes (s0 s1 s2 s3 : Slot) (h : D) (r : List D) (hl : r.length ≤ sizeLine) : c1__law_nodes [s0, s1, s2, s3, .val (.tup (h :: r)), .emp] = .ok (.lst r) [s0, s1, s2, s3, .val (.tup (h :: r)), .emp] := by
  have hm : (mSrc (mEx (mSlice dSl (mNm 4) (mP (mC (.int 1))) (mNoP)))) [s0, s1, s2, s3, .val (.tup (h :: r)), .emp] = .ok (r, none) [s0, s1, s2, s3, .val (.tup (h :: r)), .emp] := by
    show R.bind _ _ = _
    dsimp! only [dSl, cut_tail, srcOf, itemsOf]
  have := mcomp_map (mi := mSrc (mEx (mSlice dSl (mNm 4) (mP (mC (.int 1))) (mNoP)))) (g := gN 5) (t := mYes) (m := mVal 5) (vs := [5]) (ds := r) (fun d => d) hm rfl hl rfl fun d _ => by
    dsimp! only [cStep, xl_0, xl_1, xx_ok]
  rw [List.map_id'] at this
  exact this
theorem b1_nodes (s0 s3 s4 : Slot) (F T : List D) (h : D) (r : List D) (hl : T.length + r.length ≤ 1000000) (hF : F.length < 16777216) :
    b1__law_nodes [s0, .cel true (.lst F), .cel true (.lst (T ++ [.tup (h :: r)])), s3, s4, .emp] = .nx [s0, .cel true (.lst (F ++ [.tup (h :: r)])), .cel true (.lst (T ++ r)), s3, .val (.tup (h :: r)), .emp] := by
  have hl2 : r.length ≤ 16777216 := by omega
  have hl3 : T.length + r.length ≤ 16777216 := by omega
  have hl4 : T.length + 1 ≤ 16777216 := by omega
  have pos : (0 : Int) < (T.length : Int) + 1 := by omega
  dsimp! only [b1__law_nodes, c1_nodes _ _ _ _ h r hl2, List.length_append, fAdd, hl3, hl4, pos, hF]
theorem b1_nodes0 (s0 s3 s4 : Slot) (F : List D) :
    b1__law_nodes [s0, .cel true (.lst F), .cel true (.lst []), s3, s4, .emp] = .nx [s0, .cel true (.lst F), .cel true (.lst []), s3, s4, .emp] := by
  dsimp! only [b1__law_nodes]
theorem wf_shape {kvs : List (D × D)} {d : D} (h : wf kvs d = true) : ∃ y r, d = .tup (.str y :: r) ∧ wfs kvs r = true := by
  unfold wf at h
  split at h
  · rw [Bool.and_eq_true] at h
    exact ⟨_, _, rfl, h.2⟩
  · cases h
/-- what is known of the rows in the search for nodes -/
structure Seek (kvs : List (D × D)) (N i : Nat) (F T : List D) : Prop where
  sum : F.length + sizes T = N
  wf : ∀ d ∈ T, K00.wf kvs d = true
  turn : T = [] ∨ F.length = i
theorem law_nodes_eq (t : D) (hw : wf (knw wideR) t = true) (hs : size t ≤ 4000) : ∃ L : List D, f__law_nodes [.val t] = .ret (.lst L) [.val t] ∧ L.length = size t := by
  have hm : (mRng dRng1 (mCons (mEx (mC (.int 5000))) (mNil))) [.val t, .cel true (.lst []), .cel true (.lst [t]), .emp, .emp, .emp] = .ok ((List.range 5000).map fun i => D.int (0 + (i : Nat)), none) [.val t, .cel true (.lst []), .cel true (.lst [t]), .emp, .emp, .emp] :=
    mRng_eq (as := [.v (.int 5000)]) (ds := [.int 5000]) rfl rfl (rngN 5000 (by decide))
  have hf := xm_for (g := gN 3) (b := b1__law_nodes) hm
  have w := for_W (g := gN 3) (b := b1__law_nodes) (N := fun e => ∃ (F T : List D) (s3 s4 : Slot), e = [.val t, .cel true (.lst F), .cel true (.lst T), s3, s4, .emp] ∧ Seek (knw wideR) (size t) 5000 F T) (T := fun _ _ => False)
    (fun i e => ∃ (F T : List D) (s3 s4 : Slot), e = [.val t, .cel true (.lst F), .cel true (.lst T), s3, s4, .emp] ∧ Seek (knw wideR) (size t) i F T)
    ((List.range 5000).map fun i => D.int (0 + (i : Nat))) 0 _ ⟨[], [t], .emp, .emp, rfl, by simp [sizes], fun d hd => by rw [List.mem_singleton] at hd; subst hd; exact hw, .inr rfl⟩
    (fun i d hd e ⟨F, T, s3, s4, he, g⟩ => by
      subst he
      refine ⟨_, rfl, ?_⟩
      show (b1__law_nodes [.val t, .cel true (.lst F), .cel true (.lst T), .val d, s4, .emp]).WL _ _ _
      rcases List.eq_nil_or_concat T with rfl | ⟨T', x, rfl⟩
      · rw [b1_nodes0]
        exact ⟨F, [], _, _, rfl, g.sum, g.wf, .inl rfl⟩
      · rw [List.concat_eq_append] at g ⊢
        have hx := g.wf x (by simp)
        have gs := g.sum
        rw [sizes_append] at gs
        have gl := sizes_len T'
        obtain ⟨y, r, rfl, hr⟩ := wf_shape hx
        have sx : sizes [D.tup (.str y :: r)] = 1 + sizes r := by simp [sizes, size]
        rw [sx] at gs
        have rl := sizes_len r
        rw [b1_nodes _ _ _ _ _ _ _ (by omega) (by omega)]
        refine ⟨_, _, _, _, rfl, ?_, ?_, ?_⟩
        · rw [List.length_append, sizes_append]
          show F.length + 1 + _ = _
          omega
        · intro z hz
          rcases List.mem_append.mp hz with hz | hz
          · exact g.wf z (by simp [hz])
          · exact wfs_iff.mp hr z hz
        · refine .inr ?_
          rw [List.length_append]
          rcases g.turn with e | e
          · simp at e
          · rw [e]; rfl)
    (fun e h => by rw [List.length_map, List.length_range] at h; exact h)
  obtain ⟨e, h2, F, T, s3, s4, rfl, g⟩ := W_nx w
  have hT : T = [] := by
    rcases g.turn with e | e
    · exact e
    · have := g.sum
      omega
  subst hT
  have q : l1__law_nodes [.val t, .cel true (.lst []), .cel true (.lst [t]), .emp, .emp, .emp] = .nx [.val t, .cel true (.lst F), .cel true (.lst []), s3, s4, .emp] := hf.trans h2
  refine ⟨F.reverse, ?_, ?_⟩
  · dsimp! only [f__law_nodes, m__law_nodes, q, dRev]
  · rw [List.length_reverse]
    exact g.sum
/-! ### rows of bools -/
theorem c1_same (b c : List Bool) (h : b.length = c.length) (hl : c.length ≤ 1000) (n k : Nat) : ∃ l : List D,
    c1__law_same (fun _ => r__law_same (n + 1)) k [.val (.lst (b.map .bl)), .val (.lst (c.map .bl)), .emp] = .ok (.lst l) [.val (.lst (b.map .bl)), .val (.lst (c.map .bl)), .emp] ∧ (l.length = 0 ↔ b = c) := by
  have hm : (mRng dRng1 (mCons (mEx (mCallD dLen (mCons (mNm 1) (mNil)))) (mNil))) [.val (.lst (b.map .bl)), .val (.lst (c.map .bl)), .emp] = .ok ((List.range c.length).map fun i => D.int (0 + (i : Nat)), none) [.val (.lst (b.map .bl)), .val (.lst (c.map .bl)), .emp] := by
    refine mRng_eq (as := [.v (.int c.length)]) (ds := [.int c.length]) ?_ rfl (rngN c.length (by omega))
    dsimp! only [List.length_map]
  have := mcomp_filter (mi := mRng dRng1 (mCons (mEx (mCallD dLen (mCons (mNm 1) (mNil)))) (mNil))) (g := gN 2) (t := mNot (mIsT (mCall ((fun _ => r__law_same (n + 1)) k) [false, false] (mCons (mEx (mBin dIxD (mNm 0) (mNm 2))) (mCons (mEx (mBin dIxD (mNm 1) (mNm 2))) (mNil)))))) (m := mVal 2) (vs := [2])
    (ds := (List.range c.length).map fun i => D.int (0 + (i : Nat)))
    (fun d => match d with | .int i => if b[i.toNat]? = c[i.toNat]? then none else some d | _ => none) hm rfl (by rw [List.length_map, List.length_range]; show c.length ≤ 16777216; omega) rfl fun d hd => by
    obtain ⟨i, hi, rfl⟩ := List.mem_map.mp hd
    rw [List.mem_range] at hi
    have hb : b[i]? = some b[i] := List.getElem?_eq_getElem (by omega)
    have hc : c[i]? = some c[i] := List.getElem?_eq_getElem hi
    have eb : (b.map D.bl)[i]? = some (.bl b[i]) := by rw [List.getElem?_map, hb]; rfl
    have ec : (c.map D.bl)[i]? = some (.bl c[i]) := by rw [List.getElem?_map, hc]; rfl
    rw [Int.zero_add]
    dsimp! only [cStep, xl_0, xl_1, xx_ok, xx_ite, eb, ec, same_bb, Int.toNat_natCast, hb, hc, Option.some.injEq]
    by_cases hq : b[i] = c[i]
    · rw [hq]; simp [hb, hc, hq]
    · simp [hb, hc, hq]
  refine ⟨_, this, ?_⟩
  rw [List.length_eq_zero_iff, List.filterMap_eq_nil_iff]
  constructor
  · intro q
    refine List.ext_getElem? fun i => ?_
    by_cases hi : i < c.length
    · have := q (.int i) (List.mem_map.mpr ⟨i, List.mem_range.mpr hi, by rw [Int.zero_add]⟩)
      simp only [Int.toNat_natCast] at this
      by_cases e : b[i]? = c[i]?
      · exact e
      · rw [if_neg e] at this; cases this
    · rw [List.getElem?_eq_none (by omega), List.getElem?_eq_none (by omega)]
  · rintro rfl d hd
    obtain ⟨i, hi, rfl⟩ := List.mem_map.mp hd
    rw [Int.zero_add]
    simp
theorem er (n : Nat) : r__law_same (n + 2) = mkFn 2 3 (m__law_same (fun _ => r__law_same (n + 1)) (n + 1)) := by rw [r__law_same]

theorem t5 (M : Mi.M Cell) (R : MS) (X Y l : List D) (r : Bool) (e : M [.val (.lst X), .val (.lst Y), .emp] = .ok (.lst l) [.val (.lst X), .val (.lst Y), .emp])
    (d1 : dNe (.int X.length) (.int Y.length) = some (.bl false)) (d2 : dEq (.int (l.length : Nat)) (.int 0) = some (.bl r)) :
   (mSeq (mIfS (mOr (mIsT (mIsi .tuple (mNm 1))) (mIsT (mIsi .list (mNm 1)))) (mSeq (mIfS (mOr (mIsT (mBin dNe (mEx (mIsi .tuple (mNm 1))) (mEx (mIsi .tuple (mNm 0))))) (mIsT (mBin dNe (mEx (mIsi .list (mNm 1))) (mEx (mIsi .list (mNm 0)))))) (mRet (mC (.bl false))) (mSkip)) (mSeq (mIfS (mIsT (mBin dNe (mEx (mCallD dLen (mCons (mNm 0) (mNil)))) (mEx (mCallD dLen (mCons (mNm 1) (mNil)))))) (mRet (mC (.bl false))) (mSkip)) (mRet (mBin dEq (mEx (mCallD dLen (mCons (mEx (mFr M)) (mNil)))) (mEx (mC (.int 0))))))) (mSkip)) R) [.val (.lst X), .val (.lst Y), .emp] = .ret (.bl r) [.val (.lst X), .val (.lst Y), .emp] := by
  dsimp! only [e, ne_bb, d1, BEq.rfl, d2]
theorem same_lists (X Y l : List D) (n : Nat) (r : Bool) (e : c1__law_same (fun _ => r__law_same (n + 1)) (n + 1) [.val (.lst X), .val (.lst Y), .emp] = .ok (.lst l) [.val (.lst X), .val (.lst Y), .emp])
    (d1 : dNe (.int X.length) (.int Y.length) = some (.bl false)) (d2 : dEq (.int (l.length : Nat)) (.int 0) = some (.bl r)) :
    r__law_same (n + 2) [.val (.lst X), .val (.lst Y)] = .ret (.bl r) [.val (.lst X), .val (.lst Y)] := by
  have q : m__law_same (fun _ => r__law_same (n + 1)) (n + 1) [.val (.lst X), .val (.lst Y), .emp] = .ret (.bl r) [.val (.lst X), .val (.lst Y), .emp] := by
    unfold m__law_same
    exact t5 _ _ X Y l r e d1 d2
  rw [er]
  dsimp! only [q]
theorem same_bools (b c : List Bool) (h : b.length = c.length) (hl : c.length ≤ 1000) (n : Nat) :
    r__law_same (n + 2) [.val (.lst (b.map .bl)), .val (.lst (c.map .bl))] = .ret (.bl (decide (b = c))) [.val (.lst (b.map .bl)), .val (.lst (c.map .bl))] := by
  obtain ⟨l, e, hq⟩ := c1_same b c h hl n (n + 1)
  have e2 : decide (((l.length : Nat) : Int) = 0) = decide (b = c) := by
    have e3 : ((l.length : Nat) : Int) = 0 ↔ l.length = 0 := by omega
    by_cases q : b = c
    · rw [decide_eq_true q, decide_eq_true (e3.mpr (hq.mpr q))]
    · rw [decide_eq_false q, decide_eq_false (mt (fun z => hq.mp (e3.mp z)) q)]
  have d1 : dNe (.int ((b.map D.bl).length : Nat)) (.int ((c.map D.bl).length : Nat)) = some (.bl false) := by
    rw [ne_ii, List.length_map, List.length_map, h]; simp
  have d2 : dEq (.int (l.length : Nat)) (.int 0) = some (.bl (decide (b = c))) := by
    rw [eq_ii, e2]
  exact same_lists _ _ l n _ e d1 d2
end K00
end Mi
namespace Mi
open PySem PySem.Spec L2
open PyProof.Rows hiding St
local macro_rules | `(tactic| dsimp! only [$ls,*]) => `(tactic| (simp -dsimp only [xb_ok, xb_exc, xb_bad, xb_ite, xo_ok, xo_exc, xo_bad, xo_ite, xp_some, xp_none, xp_ite, xe_some, xe_none, xs_nx, xs_bk, xs_ct, xs_ret, xs_rnew, xs_exc, xs_bad, xs_ite,
     xf_ite, xk_ite, xm_seq, xm_fn, xm_call, xm_callN, xm_and, xm_or, xk_and, xk_or, xa_0, xa_1, xa_n, xa_nat, xi_n, xi_nat, Int.ofNat_lt, Int.ofNat_le,
     xf_ret, xf_rnew, xf_nx, xf_exc, xf_bad, xk_ret, xk_exc, xk_bad, xn_new, xn_exc, finS, backE, argSlots, mutIx, frzAt, xm_skip, xm_drop, xm_ret, xm_retN, xm_retF, xm_ifS, xm_asg, xm_asgNew, xm_lstC, xm_mut, xm_set, xm_aug, xm_pre, xm_C, xm_nm, xm_ex, xm_val, xm_nil, xm_cons, xm_bin, xm_binF, xm_un, xm_isi, xm_callD, xm_callF, xm_owns, xm_isT, xm_andT, xm_orT, xm_not, xm_notV, xm_if, xm_meth, xm_slice, xm_noP, xm_P, xm_chain, xk_chain, xm_fr, xm_frL, xm_raise, xm_yes, xm_newD, xg_N, xg_nil, xg_cons, xg_T,
     slotD, slotV, Arg.rd, Arg.own, rds, owns, Cell.frz, Cell.ty, dTup, dLst, dAdd, dSub, dMod, dDiv, dPow, dMulI, dMul, dInts, dNeg, dLt, dLe, dGt, dGe, dCmpI, dIxD, dIx, dIs, dIsNot, D.isNon, dLen, isTy, dIntOf, dListOf, dTupOf, cAppend, xpop, cSetX, cSetL, dAddI,
     List.length_cons, List.length_nil, List.getElem?_cons_zero, List.getElem?_cons_succ, List.getElem?_nil, List.set_cons_zero, List.set_cons_succ, List.set_nil, List.cons_append, List.nil_append, List.append_nil, List.replicate, List.nodup_cons, List.not_mem_nil, List.nodup_nil, List.mem_singleton,
     Option.map_some, Option.map_none, Option.bind_some, Option.bind_none, if_true, if_false, ite_true, ite_false, reduceIte, reduceCtorEq, not_false_eq_true, not_true_eq_false, and_true, true_and, and_false, false_and, or_true, true_or, or_false, false_or, decide_eq_true_eq, Bool.not_true, Bool.not_false, Bool.true_eq_false, Bool.false_eq_true, Nat.reduceAdd, Nat.reduceSub, Nat.reduceEqDiff, Nat.reduceLeDiff, Nat.reduceLT, Nat.reduceMul, Int.reduceAdd, Int.reduceLT, Int.reduceLE, Int.reduceNeg, Int.reduceSub, Int.reduceToNat, Int.reducePow, Int.reduceMul, Int.natCast_add, Int.cast_ofNat_Int, Int.sub_zero, gt_iff_lt, ge_iff_le, String.reduceEq, String.reduceBEq, beq_self_eq_true, Nat.zero_add, sizeLine, Nat.reducePow, decide_true, decide_false, $ls,*]))
namespace K00
theorem c2_law_ok (s0 s1 s2 s3 s4 s5 s6 s7 s8 s9 s10 s11 s12 s13 s14 s15 s16 : Slot) (n10 : s10.nc = true) :
    c2_law [s0, s1, s2, s3, s4, s5, s6, s7, s8, s9, s10, s11, s12, s13, s14, s15, s16] = .ok (.lst [.bl true, .bl true, .bl false, .bl false, .bl false, .bl false]) [s0, s1, s2, s3, s4, s5, s6, s7, s8, s9, s10, s11, s12, s13, s14, s15, s16] := by
  have hm : (mSrc (mEx (mOwns dLst (mCons (mEx (mC (.int 0))) (mCons (mEx (mUn dNeg (mEx (mC (.int 5))))) (mCons (mEx (mC (.bl true))) (mCons (mEx (mC .non)) (mCons (mEx (mC (.str "1"))) (mCons (mEx (mOwns dTup (mCons (mEx (mC (.int 1))) (mNil)))) (mNil)))))))))) [s0, s1, s2, s3, s4, s5, s6, s7, s8, s9, s10, s11, s12, s13, s14, s15, s16] = .ok ([.int 0, .int (-5), .bl true, .non, .str "1", .tup [.int 1]], none) [s0, s1, s2, s3, s4, s5, s6, s7, s8, s9, s10, s11, s12, s13, s14, s15, s16] := rfl
  have pl : ∀ d ∈ [D.int 0, .int (-5), .bl true, .non, .str "1", .tup [.int 1]], d.pl = true := by
    intro d hd
    simp only [List.mem_cons, List.not_mem_nil, or_false] at hd
    rcases hd with rfl | rfl | rfl | rfl | rfl | rfl <;> rfl
  refine mcomp_map (fun d => .bl (isInt d)) hm ?_ (by decide) ?_ fun d hd => ?_
  · cases s10 <;> first | rfl | cases n10
  · rfl
  · dsimp! only [cStep, xl_0, xl_1, xx_ok, is_integer_eq d (pl d hd)]
theorem eq_bools6 : dEq (.lst [.bl true, .bl true, .bl false, .bl false, .bl false, .bl false]) (.lst [.bl true, .bl true, .bl false, .bl false, .bl false, .bl false]) = some (.bl true) := by
  unfold dEq
  simp only [toPy, toPys, Option.map_some]
  rw [if_pos (by decide +kernel)]
  congr 2
noncomputable def g15 : MS := mAsg (mOwns dTup (mCons (mEx (mC (.str "f"))) (mCons (mEx (mOwns dTup (mCons (mEx (mC (.str "f"))) (mCons (mNm 14) (mCons (mEx (mBin dIxD (mNm 14) (mEx (mC (.int 1))))) (mNil)))))) (mCons (mEx (mOwns dTup (mCons (mEx (mC (.str "f"))) (mCons (mEx (mBin dIxD (mEx (mBin dIxD (mNm 14) (mEx (mC (.int 1))))) (mEx (mC (.int 1))))) (mCons (mEx (mOwns dTup (mCons (mEx (mC (.str "a"))) (mNil)))) (mNil)))))) (mNil))))) (gN 15)
theorem m_split : m_law = mSeq (mAsgNew 1 (mCallN (f__law_draws) [false] (mCons (mNm 0) (mNil)))) (mSeq (l3_law) (mSeq (mAsg (mOwns dTup (mCons (mEx (mC (.str "a"))) (mNil))) (gN 12)) (mSeq (l4_law) (mSeq (mAsg (mOwns dTup (mCons (mEx (mOwns dTup (mCons (mEx (mC (.str "a"))) (mCons (mEx (mC (.int 0))) (mNil))))) (mCons (mEx (mOwns dTup (mCons (mEx (mC (.str "f"))) (mCons (mEx (mC (.int 2))) (mNil))))) (mCons (mEx (mOwns dTup (mCons (mEx (mC (.str "g"))) (mCons (mEx (mC (.int 1))) (mNil))))) (mNil))))) (gN 13)) (mSeq (mAsg (mOwns dTup (mCons (mEx (mC (.str "a"))) (mNil))) (gN 14)) (mSeq (l5_law) (mSeq (g15) (mSeq (mAsg (mCallD dLen (mCons (mEx (mCall (f__law_nodes) [false] (mCons (mNm 15) (mNil)))) (mNil))) (gN 16)) (mSeq (mIfS (mNot (mIsT (mCall (f__law_same) [false, false] (mCons (mEx (mOwns dLst (mCons (mEx (mCall (f_is_tree) [false, false] (mCons (mNm 13) (mCons (mNm 12) (mNil))))) (mCons (mEx (mCall (f_is_tree) [false, false] (mCons (mNm 13) (mCons (mEx (mOwns dTup (mCons (mEx (mC (.str "g"))) (mCons (mNm 12) (mNil))))) (mNil))))) (mCons (mEx (mCall (f_is_tree) [false, false] (mCons (mNm 13) (mCons (mNm 14) (mNil))))) (mCons (mEx (mCall (f_is_tree) [false, false] (mCons (mNm 13) (mCons (mEx (mOwns dTup (mCons (mEx (mC (.str "f"))) (mCons (mNm 14) (mCons (mNm 14) (mNil)))))) (mNil))))) (mNil))))))) (mCons (mEx (mOwns dLst (mCons (mEx (mC (.bl true))) (mCons (mEx (mC (.bl false))) (mCons (mEx (mC (.bl true))) (mCons (mEx (mC (.bl false))) (mNil))))))) (mNil)))))) (mRet (mC (.bl false))) (mSkip)) (mSeq (mIfS (mOr (mNot (mIsT (mCall (f__law_same) [false, false] (mCons (mEx (mCall (f_is_tree) [false, false] (mCons (mNm 13) (mCons (mNm 15) (mNil))))) (mCons (mEx (mBin dLe (mNm 16) (mEx (mC (.int 4000))))) (mNil)))))) (mIsT (mBin dNe (mEx (mCall (f__law_asked) [false, false, false] (mCons (mEx (mC (.int 1))) (mCons (mEx (mOwns dTup (mNil))) (mCons (mEx (mOwns dTup (mCons (mEx (mC (.str "a"))) (mNil)))) (mNil)))))) (mEx (mC (.str "ranks")))))) (mRet (mC (.bl false))) (mSkip)) (mRet (mBin dEq (mEx (mFr (c2_law ))) (mEx (mOwns dLst (mCons (mEx (mC (.bl true))) (mCons (mEx (mC (.bl true))) (mCons (mEx (mC (.bl false))) (mCons (mEx (mC (.bl false))) (mCons (mEx (mC (.bl false))) (mCons (mEx (mC (.bl false))) (mNil))))))))))))))))))))) := rfl
theorem g15_ok (X : D) (s0 s1 s2 s3 s4 s5 s6 s7 s8 s9 s10 s11 s12 s13 s15 s16 : Slot) :
    g15 [s0, s1, s2, s3, s4, s5, s6, s7, s8, s9, s10, s11, s12, s13, .val (.tup [.str "f", .tup [.str "f", X, X], .tup [.str "f", X, X]]), s15, s16] =
      .nx [s0, s1, s2, s3, s4, s5, s6, s7, s8, s9, s10, s11, s12, s13, .val (.tup [.str "f", .tup [.str "f", X, X], .tup [.str "f", X, X]]), .val (.tup [.str "f", .tup [.str "f", .tup [.str "f", .tup [.str "f", X, X], .tup [.str "f", X, X]], .tup [.str "f", X, X]], .tup [.str "f", X, .tup [.str "a"]]]), s16] := by
  dsimp! only [g15]
theorem plain : PlainOf f_law := by
  intro ns hl
  have e0 := law_draws_eq ns
  obtain ⟨s1, t2, t3, t4, t5, t6, t7, t8, t9, t10, t11, e1, m5, m10⟩ := l3_law_ok ⟨ns, 0, 0, 1⟩ (.val (.lst (ns.map .int))) .emp .emp .emp .emp .emp .emp .emp .emp .emp .emp .emp .emp .emp .emp .emp rfl rfl rfl rfl
  obtain ⟨t5', e2, m5'⟩ := l4_law_ok (.val (.lst (ns.map .int))) (.cel true s1.c) t2 t3 t4 t5 t6 t7 t8 t9 t10 t11 .emp .emp .emp .emp m5
  obtain ⟨W, hW⟩ : ∃ W : D, W = .tup (wideR.map mkR) := ⟨_, rfl⟩
  have hW' : D.tup [.tup [.str "a", .int 0], .tup [.str "f", .int 2], .tup [.str "g", .int 1]] = W := hW.symm
  obtain ⟨t5'', e3, m5''⟩ := l5_law_ok (.val (.lst (ns.map .int))) (.cel true s1.c) t2 t3 t4 t5' t6 t7 t8 t9 t10 t11 (.val (deepT 39)) (.val W) .emp .emp m5'
  have e2 : l4_law [.val (.lst (ns.map .int)), .cel true s1.c, t2, t3, t4, t5, t6, t7, t8, t9, t10, t11, .val (.tup [.str "a"]), .emp, .emp, .emp, .emp] = _ := e2
  have e3 : l5_law [.val (.lst (ns.map .int)), .cel true s1.c, t2, t3, t4, t5', t6, t7, t8, t9, t10, t11, .val (deepT 39), .val W, .val (.tup [.str "a"]), .emp, .emp] = _ := e3
  have e7 : g15 [.val (.lst (ns.map .int)), .cel true s1.c, t2, t3, t4, t5'', t6, t7, t8, t9, t10, t11, .val (deepT 39), .val W, .val (fullT 10), .emp, .emp] =
      .nx [.val (.lst (ns.map .int)), .cel true s1.c, t2, t3, t4, t5'', t6, t7, t8, t9, t10, t11, .val (deepT 39), .val W, .val (fullT 10), .val greatT, .emp] :=
    g15_ok (fullT 8) (.val (.lst (ns.map .int))) (.cel true s1.c) t2 t3 t4 t5'' t6 t7 t8 t9 t10 t11 (.val (deepT 39)) (.val W) .emp .emp
  obtain ⟨a1, a2, a3, a4⟩ := deep_all 39
  obtain ⟨b1, b2, b3, b4⟩ := deep_all 40
  obtain ⟨c1, c2, c3, c4⟩ := full_all 10
  obtain ⟨d1, d2, d3, d4⟩ := full_all 11
  obtain ⟨g1, g2, g3, g4⟩ := great_all
  have tr : ∀ t : D, t.ok = true → size t ≤ 1000000 → f_is_tree [.val W, .val t] = .ret (.bl (isTree (knw wideR) t)) [.val W, .val t] := fun t h1 h2 => by
    rw [hW]; exact is_tree_eq wideR t wide_oks wide_are h1 h2
  have r1 := tr (deepT 39) a1 (by omega)
  have r2 := tr (deepT 40) b1 (by omega)
  have r3 := tr (fullT 10) c1 (by rw [c4]; decide)
  have r4 := tr (fullT 11) d1 (by rw [d4]; decide)
  have r5 := tr greatT g1 (by omega)
  have q1 : isTree (knw wideR) (deepT 39) = true := by unfold isTree; rw [a2, a3, a4]; rfl
  have q2 : isTree (knw wideR) (deepT 40) = false := by unfold isTree; rw [b2, b3, b4]; rfl
  have q3 : isTree (knw wideR) (fullT 10) = true := by unfold isTree; rw [c2, c3, c4]; rfl
  have q4 : isTree (knw wideR) (fullT 11) = false := by unfold isTree; rw [d2, d3, d4]; rfl
  have q5 : isTree (knw wideR) greatT = true := by unfold isTree; rw [g2, g4, decide_eq_true g3]; rfl
  rw [q1] at r1
  rw [q2] at r2
  rw [q3] at r3
  rw [q4] at r4
  rw [q5] at r5
  have r2 : f_is_tree [.val W, .val (.tup [.str "g", deepT 39])] = .ret (.bl false) [.val W, .val (.tup [.str "g", deepT 39])] := r2
  have r4 : f_is_tree [.val W, .val (.tup [.str "f", fullT 10, fullT 10])] = .ret (.bl false) [.val W, .val (.tup [.str "f", fullT 10, fullT 10])] := r4
  obtain ⟨L, n1, n2⟩ := law_nodes_eq greatT g2 (by omega)
  rw [g4] at n2
  have sb := same_bools [true, false, true, false] [true, false, true, false] rfl (by decide) 3
  have sb : f__law_same [.val (.lst [.bl true, .bl false, .bl true, .bl false]), .val (.lst [.bl true, .bl false, .bl true, .bl false])] = .ret (.bl true) [.val (.lst [.bl true, .bl false, .bl true, .bl false]), .val (.lst [.bl true, .bl false, .bl true, .bl false])] := sb
  have ab := asked_bad (.tup []) (.tup [.str "a"]) rfl rfl
  have nr : dNe (.str "ranks") (.str "ranks") = some (.bl false) := by rw [ne_ss (by decide +kernel) (by decide +kernel)]; rfl
  have le : ((L.length : Nat) : Int) ≤ 4000 := by omega
  have c2 := c2_law_ok (.val (.lst (ns.map .int))) (.cel true s1.c) t2 t3 t4 t5'' t6 t7 t8 t9 t10 t11 (.val (deepT 39)) (.val W) (.val (fullT 10)) (.val greatT) (.val (.int L.length)) m10
  refine ⟨[.val (.lst (ns.map .int))], ?_⟩
  dsimp! only [f_law, m_split, e0, e1, e2, hW', e3, e7, n1, r1, r2, r3, r4, r5, sb, law_same_bb, ab, nr, le, decide_true, BEq.rfl, beq_self_eq_true, c2, eq_bools6]
end K00
end Mi
open PySem PySem.W PyProof.Rows in
set_option maxRecDepth 100000 in
set_option maxHeartbeats 0 in
theorem PySem.Challenge.cw_treesread_k00_signs_ranks_and_trees_holds : PySem.Challenge.rw_treesread_k00_signs_ranks_and_trees.Holds := by
  w_on; o_law; k_head; (case hw => w_witness2)
  k_fill
  refine Mi.K00.walk (l := PySem.Challenge.rw_treesread_k00_signs_ranks_and_trees) rfl rfl Mi.K00.plain (fun w h Y => PySem.W.kIn_of Y) ?F
  case F =>
    intro w mg fa h KX G hmg
    refine' ⟨Mi.K00.mkTxt KX G ?zb_all ?zb_bool ?zb_dict ?zb_int ?zb_isinstance ?zb_len ?zb_list ?zb_range ?zb_set ?zb_sorted ?zb_str ?zb_tuple ?zc_LETTERS ?zc_MOST_DEEP ?zc_MOST_NODES ?zc_MOST_RANK ?zc_MOST_SIGNS ?ns_TreeError ?xx_TreeError ?kk_TreeError ?sb_TreeError ?tt_TreeError ?e1_TreeError ?e2_TreeError ?e3_TreeError ?e4_TreeError ?e7_TreeError ?ns_BadTree ?xx_BadTree ?kk_BadTree ?sb_BadTree ?tt_BadTree ?e1_BadTree ?e2_BadTree ?e3_BadTree ?e4_BadTree ?e7_BadTree ?ns_BadRanks ?xx_BadRanks ?kk_BadRanks ?sb_BadRanks ?tt_BadRanks ?e1_BadRanks ?e2_BadRanks ?e3_BadRanks ?e4_BadRanks ?e7_BadRanks ?e5 ?e6 ?em_TreeError_TreeError ?em_BadTree_TreeError ?em_BadRanks_TreeError ?ki_TreeError_BadRanks ?ki_BadTree_BadRanks ?ki_BadRanks_BadRanks ?ki_TreeError_BadTree ?ki_BadTree_BadTree ?ki_BadRanks_BadTree ?ki_TreeError_TreeError ?ki_BadTree_TreeError ?ki_BadRanks_TreeError ?ns_is_integer ?lk_is_integer ?co_is_integer ?kk_is_integer ?ns_is_sign ?lk_is_sign ?co_is_sign ?kk_is_sign ?ns_are_ranks ?lk_are_ranks ?co_are_ranks ?kk_are_ranks ?ns_look_at_ranks ?lk_look_at_ranks ?co_look_at_ranks ?kk_look_at_ranks ?ns_is_tree ?lk_is_tree ?co_is_tree ?kk_is_tree ?ns_look_at_tree ?lk_look_at_tree ?co_look_at_tree ?kk_look_at_tree ?ns__law_draws ?lk__law_draws ?co__law_draws ?kk__law_draws ?ns__law_draw ?lk__law_draw ?co__law_draw ?kk__law_draw ?ns__law_same ?lk__law_same ?co__law_same ?kk__law_same ?ns__law_ranks ?lk__law_ranks ?co__law_ranks ?kk__law_ranks ?ns__law_tree ?lk__law_tree ?co__law_tree ?kk__law_tree ?ns__law_nodes ?lk__law_nodes ?co__law_nodes ?kk__law_nodes ?ns__law_is_sign ?lk__law_is_sign ?co__law_is_sign ?kk__law_is_sign ?ns__law_number ?lk__law_number ?co__law_number ?kk__law_number ?ns__law_are_ranks ?lk__law_are_ranks ?co__law_are_ranks ?kk__law_are_ranks ?ns__law_is_tree ?lk__law_is_tree ?co__law_is_tree ?kk__law_is_tree ?ns__law_asked ?lk__law_asked ?co__law_asked ?kk__law_asked ?ns__law_changed ?lk__law_changed ?co__law_changed ?kk__law_changed ?ns_law ?lk_law ?co_law ?kk_law, hmg⟩
    (case zb_all => k_is)
    (case zb_bool => k_is)
    (case zb_dict => k_is)
    (case zb_int => k_is)
    (case zb_isinstance => k_is)
    (case zb_len => k_is)
    (case zb_list => k_is)
    (case zb_range => k_is)
    (case zb_set => k_is)
    (case zb_sorted => k_is)
    (case zb_str => k_is)
    (case zb_tuple => k_is)
    (case zc_LETTERS => k_is)
    (case zc_MOST_DEEP => k_is)
    (case zc_MOST_NODES => k_is)
    (case zc_MOST_RANK => k_is)
    (case zc_MOST_SIGNS => k_is)
    (case ns_TreeError => k_is)
    (case xx_TreeError => kernel_rfl)
    (case kk_TreeError => k_is)
    (case sb_TreeError => k_is)
    (case tt_TreeError => k_is)
    (case e1_TreeError => k_is)
    (case e2_TreeError => k_is)
    (case e3_TreeError => k_is)
    (case e4_TreeError => k_is)
    (case e7_TreeError => k_is)
    (case ns_BadTree => k_is)
    (case xx_BadTree => kernel_rfl)
    (case kk_BadTree => k_is)
    (case sb_BadTree => k_is)
    (case tt_BadTree => k_is)
    (case e1_BadTree => k_is)
    (case e2_BadTree => k_is)
    (case e3_BadTree => k_is)
    (case e4_BadTree => k_is)
    (case e7_BadTree => k_is)
    (case ns_BadRanks => k_is)
    (case xx_BadRanks => kernel_rfl)
    (case kk_BadRanks => k_is)
    (case sb_BadRanks => k_is)
    (case tt_BadRanks => k_is)
    (case e1_BadRanks => k_is)
    (case e2_BadRanks => k_is)
    (case e3_BadRanks => k_is)
    (case e4_BadRanks => k_is)
    (case e7_BadRanks => k_is)
    (case e5 => k_is)
    (case e6 => k_is)
    (case em_TreeError_TreeError => kernel_rfl)
    (case em_BadTree_TreeError => kernel_rfl)
    (case em_BadRanks_TreeError => kernel_rfl)
    (case ki_TreeError_BadRanks => kernel_rfl)
    (case ki_BadTree_BadRanks => kernel_rfl)
    (case ki_BadRanks_BadRanks => kernel_rfl)
    (case ki_TreeError_BadTree => kernel_rfl)
    (case ki_BadTree_BadTree => kernel_rfl)
    (case ki_BadRanks_BadTree => kernel_rfl)
    (case ki_TreeError_TreeError => kernel_rfl)
    (case ki_BadTree_TreeError => kernel_rfl)
    (case ki_BadRanks_TreeError => kernel_rfl)
    (case ns_is_integer => k_is)
    (case lk_is_integer => k_is)
    (case co_is_integer => k_is)
    (case kk_is_integer => k_is)
    (case ns_is_sign => k_is)
    (case lk_is_sign => k_is)
    (case co_is_sign => k_is)
    (case kk_is_sign => k_is)
    (case ns_are_ranks => k_is)
    (case lk_are_ranks => k_is)
    (case co_are_ranks => k_is)
    (case kk_are_ranks => k_is)
    (case ns_look_at_ranks => k_is)
    (case lk_look_at_ranks => k_is)
    (case co_look_at_ranks => k_is)
    (case kk_look_at_ranks => k_is)
    (case ns_is_tree => k_is)
    (case lk_is_tree => k_is)
    (case co_is_tree => k_is)
    (case kk_is_tree => k_is)
    (case ns_look_at_tree => k_is)
    (case lk_look_at_tree => k_is)
    (case co_look_at_tree => k_is)
    (case kk_look_at_tree => k_is)
    (case ns__law_draws => k_is)
    (case lk__law_draws => k_is)
    (case co__law_draws => k_is)
    (case kk__law_draws => k_is)
    (case ns__law_draw => k_is)
    (case lk__law_draw => k_is)
    (case co__law_draw => k_is)
    (case kk__law_draw => k_is)
    (case ns__law_same => k_is)
    (case lk__law_same => k_is)
    (case co__law_same => k_is)
    (case kk__law_same => k_is)
    (case ns__law_ranks => k_is)
    (case lk__law_ranks => k_is)
    (case co__law_ranks => k_is)
    (case kk__law_ranks => k_is)
    (case ns__law_tree => k_is)
    (case lk__law_tree => k_is)
    (case co__law_tree => k_is)
    (case kk__law_tree => k_is)
    (case ns__law_nodes => k_is)
    (case lk__law_nodes => k_is)
    (case co__law_nodes => k_is)
    (case kk__law_nodes => k_is)
    (case ns__law_is_sign => k_is)
    (case lk__law_is_sign => k_is)
    (case co__law_is_sign => k_is)
    (case kk__law_is_sign => k_is)
    (case ns__law_number => k_is)
    (case lk__law_number => k_is)
    (case co__law_number => k_is)
    (case kk__law_number => k_is)
    (case ns__law_are_ranks => k_is)
    (case lk__law_are_ranks => k_is)
    (case co__law_are_ranks => k_is)
    (case kk__law_are_ranks => k_is)
    (case ns__law_is_tree => k_is)
    (case lk__law_is_tree => k_is)
    (case co__law_is_tree => k_is)
    (case kk__law_is_tree => k_is)
    (case ns__law_asked => k_is)
    (case lk__law_asked => k_is)
    (case co__law_asked => k_is)
    (case kk__law_asked => k_is)
    (case ns__law_changed => k_is)
    (case lk__law_changed => k_is)
    (case co__law_changed => k_is)
    (case kk__law_changed => k_is)
    (case ns_law => k_is)
    (case lk_law => k_is)
    (case co_law => k_is)
    (case kk_law => k_is)
#print axioms PySem.Challenge.cw_treesread_k00_signs_ranks_and_trees_holds