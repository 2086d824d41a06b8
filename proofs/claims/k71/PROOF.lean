import PyProof.Rows.All
import Wide.All
import OpenK.AllK
import Wide.FinOn
import PyProof.EqAt
import PyProof.EqKinds
import PyProof.TupleCall
import HandS.ForMost
import HandS.ForExc
import KE.DataEq
import HandS.Lambda
import HandS.IsInst
import HandS.Wide
import HandS.Gcd
import HandS.SortInts
import HandS.NoneIn
import HandS.Style
import HandS.ExcOwn
import HandS.WordsExc
import HandS.ExcCtx
import HandS.Zip
import HandS.Walk
import KE.GoesEnum
import KE.GoesMore
import HandS.Dict
import HandS.DictTup
import HandS.BoundDict
import KE.KDictPairs
import HandS.TupAny
import KE.KRevSl
import HandS.SetFor
import HandS.Strs
import HandS.More
import KE.LtSeq
import PyProof.MinMaxWalk
import PyProof.WalkInts
import PyProof.WalksMore
import PyProof.DictWalks
import HandS.TupSets
import HandS.Conv
import HandS.Iter
import PySem.Challenge.RW_cordscrossed_k71_whole_torus_cords
import HandS.Hot
import HandS.HotCalls
import HandS.ExcIs
import HandS.Comp
import HandS.Text
import HandS.CallLocal
import HandS.EndOwn
import HandS.HeadWalk
section
set_option Elab.async false
set_option linter.all false
set_option maxRecDepth 100000
set_option maxHeartbeats 2000000
/-! Ev1: plain values D, what a value of the heap stands for (Rep), the slots, the state, what stays (Stp). -/
namespace Ev
open PySem PySem.Spec PyProof.Rows L2

/-- a plain value: data as trees; fn: a def of the text by number; gref: a changing object of the whole run by number -/
inductive D where
  | non | bl (b : Bool) | int (i : Int) | str (x : Str)
  | tup (xs : List D) | lst (xs : List D)
  | dK (ks : List Key) (vs : List D) | dT (ks : List (List Key)) (vs : List D)
  | fn (k : Nat) | gref (k : Nat) | ktup (xs : List D)
  deriving Inhabited


/-- no dict of its own -/
def NoDk (_ : PySem.W.Frag) (o : Obj) : Prop := o.dict = none
/-- a tuple's record: as it is, or with the very object (no dict of its own) -/
inductive TupO where
  | t (xs : List V) | f (o : Obj) (xs : List V)
def TupO.ho : TupO → HO
  | .t xs => .tup xs
  | .f o xs => .frz o (.tup xs)
theorem TupO.nt : ∀ (o : TupO) (ps : Array Value), o.ho ≠ .tbl ps
  | .t _, _ => fun z => nomatch z
  | .f _ _, _ => fun z => nomatch z
section
variable (K : PySem.W.Frag) (fa : Nat → Addr) (A : Addr → Prop) (ga : Nat → Option Addr) (H : Hp)
mutual
/-- the value v stands for d; no list or dict within stands at an address of A -/
inductive Rep : V → D → Prop
  | non : Rep .non .non
  | bl (b : Bool) : Rep (.bl b) (.bl b)
  | int (i : Int) : Rep (.int i) (.int i)
  | str (x : Str) : Rep (.str x) (.str x)
  | lst {a : Addr} {xs : List V} {ds : List D} : ¬ A a → H a = some (.lst xs) → RepL xs ds → Rep (.ref a) (.lst ds)
  | tup {a : Addr} {xs : List V} {ds : List D} : ¬ A a → H a = some (.tup xs) → RepL xs ds → Rep (.ref a) (.tup ds)
  | dK {a : Addr} {kvs : List (Key × V)} {ks : List Key} {ds : List D} : ¬ A a → Rd H a (.dK kvs) → kvs.map (·.1) = ks → RepL (kvs.map (·.2)) ds → Rep (.ref a) (.dK ks ds)
  | dT {a : Addr} {kvs : List (List Key × V)} {ks : List (List Key)} {ds : List D} : ¬ A a → Rd H a (.dT kvs) → kvs.map (·.1) = ks → RepL (kvs.map (·.2)) ds → Rep (.ref a) (.dT ks ds)
  | fn (k : Nat) : Rep (.ref (fa k)) (.fn k)
  | gref {k : Nat} {a : Addr} : ga k = some a → Rep (.ref a) (.gref k)
  | ktup {a : Addr} {o : Obj} {xs : List V} {ds : List D} : ¬ A a → H a = some (.frz o (.tup xs)) → NoDk K o → RepL xs ds → Rep (.ref a) (.ktup ds)
inductive RepL : List V → List D → Prop
  | nil : RepL [] []
  | cons {v : V} {vs : List V} {d : D} {ds : List D} : Rep v d → RepL vs ds → RepL (v :: vs) (d :: ds)
end
/-- the same, but the object itself may be one of A -/
inductive RepW : V → D → Prop
  | non : RepW .non .non
  | bl (b : Bool) : RepW (.bl b) (.bl b)
  | int (i : Int) : RepW (.int i) (.int i)
  | str (x : Str) : RepW (.str x) (.str x)
  | lst {a : Addr} {xs : List V} {ds : List D} : H a = some (.lst xs) → RepL K fa A ga H xs ds → RepW (.ref a) (.lst ds)
  | tup {a : Addr} {xs : List V} {ds : List D} : ¬ A a → H a = some (.tup xs) → RepL K fa A ga H xs ds → RepW (.ref a) (.tup ds)
  | dK {a : Addr} {kvs : List (Key × V)} {ks : List Key} {ds : List D} : Rd H a (.dK kvs) → kvs.map (·.1) = ks → RepL K fa A ga H (kvs.map (·.2)) ds → RepW (.ref a) (.dK ks ds)
  | dT {a : Addr} {kvs : List (List Key × V)} {ks : List (List Key)} {ds : List D} : Rd H a (.dT kvs) → kvs.map (·.1) = ks → RepL K fa A ga H (kvs.map (·.2)) ds → RepW (.ref a) (.dT ks ds)
  | fn (k : Nat) : RepW (.ref (fa k)) (.fn k)
  | gref {k : Nat} {a : Addr} : ga k = some a → RepW (.ref a) (.gref k)
  | ktup {a : Addr} {o : Obj} {xs : List V} {ds : List D} : ¬ A a → H a = some (.frz o (.tup xs)) → NoDk K o → RepL K fa A ga H xs ds → RepW (.ref a) (.ktup ds)
/-- the object at p is one that changes: what it holds now -/
def Own (p : Addr) : D → Prop
  | .lst ds => ∃ vs, H p = some (.lst vs) ∧ RepL K fa A ga H vs ds
  | .dK ks ds => ∃ kvs : List (Key × V), H p = some (.dK kvs) ∧ kvs.map (·.1) = ks ∧ RepL K fa A ga H (kvs.map (·.2)) ds
  | .dT ks ds => ∃ kvs : List (List Key × V), H p = some (.dT kvs) ∧ kvs.map (·.1) = ks ∧ RepL K fa A ga H (kvs.map (·.2)) ds
  | _ => False
end

section
variable {K : PySem.W.Frag} {fa : Nat → Addr} {A A' : Addr → Prop} {ga ga' : Nat → Option Addr} {H H' H2 : Hp}
/-- what is asked for a tree to stand as before -/
structure Kp (A A' : Addr → Prop) (ga ga' : Nat → Option Addr) (H H' : Hp) : Prop where
  rd : ∀ a u, ¬ A a → (∀ ps, u ≠ .tbl ps) → (∀ o w, u ≠ .frz o w) → Rd H a u → Rd H' a u
  ls : ∀ a xs, ¬ A a → H a = some (.lst xs) → H' a = some (.lst xs)
  tp : ∀ a (o : TupO), ¬ A a → H a = some o.ho → H' a = some o.ho
  av : ∀ a, A' a → A a ∨ H a = none
  gr : ∀ k a, ga k = some a → ga' k = some a
theorem Rd.some {a : Addr} {u : HO} (r : Rd H a u) : H a ≠ none := by
  rcases r with r | ⟨o, r⟩ <;> rw [r] <;> simp
theorem Rep.keep {v : V} {d : D} (k : Kp A A' ga ga' H H') (h : Rep K fa A ga H v d) : Rep K fa A' ga' H' v d := by
  induction h using Rep.rec (motive_2 := fun vs ds _ => RepL K fa A' ga' H' vs ds) with
  | non => exact .non
  | bl b => exact .bl b
  | int i => exact .int i
  | str x => exact .str x
  | lst n q r ih => exact .lst (fun z => (k.av _ z).elim n (by rw [q]; simp)) (k.ls _ _ n q) ih
  | tup n q r ih => exact .tup (fun z => (k.av _ z).elim n (by rw [q]; simp)) (k.tp _ (.t _) n q) ih
  | dK n q e r ih => exact .dK (fun z => (k.av _ z).elim n (Rd.some q)) (k.rd _ _ n (fun _ z => nomatch z) (fun _ _ z => nomatch z) q) e ih
  | dT n q e r ih => exact .dT (fun z => (k.av _ z).elim n (Rd.some q)) (k.rd _ _ n (fun _ z => nomatch z) (fun _ _ z => nomatch z) q) e ih
  | fn j => exact .fn j
  | gref e => exact .gref (k.gr _ _ e)
  | ktup n q e r ih => exact .ktup (fun z => (k.av _ z).elim n (by rw [q]; simp)) (k.tp _ (.f _ _) n q) e ih
  | nil => exact .nil
  | cons h r ih1 ih2 => exact .cons ih1 ih2
theorem RepL.keep {vs : List V} {ds : List D} (k : Kp A A' ga ga' H H') (h : RepL K fa A ga H vs ds) : RepL K fa A' ga' H' vs ds := by
  induction h using RepL.rec (motive_1 := fun v d _ => Rep K fa A' ga' H' v d) with
  | non => exact .non
  | bl b => exact .bl b
  | int i => exact .int i
  | str x => exact .str x
  | lst n q r ih => exact .lst (fun z => (k.av _ z).elim n (by rw [q]; simp)) (k.ls _ _ n q) ih
  | tup n q r ih => exact .tup (fun z => (k.av _ z).elim n (by rw [q]; simp)) (k.tp _ (.t _) n q) ih
  | dK n q e r ih => exact .dK (fun z => (k.av _ z).elim n (Rd.some q)) (k.rd _ _ n (fun _ z => nomatch z) (fun _ _ z => nomatch z) q) e ih
  | dT n q e r ih => exact .dT (fun z => (k.av _ z).elim n (Rd.some q)) (k.rd _ _ n (fun _ z => nomatch z) (fun _ _ z => nomatch z) q) e ih
  | fn j => exact .fn j
  | gref e => exact .gref (k.gr _ _ e)
  | ktup n q e r ih => exact .ktup (fun z => (k.av _ z).elim n (by rw [q]; simp)) (k.tp _ (.f _ _) n q) e ih
  | nil => exact .nil
  | cons h r ih1 ih2 => exact .cons ih1 ih2
theorem RepL.length : ∀ {vs : List V} {ds : List D}, RepL K fa A ga H vs ds → vs.length = ds.length
  | _, _, .nil => rfl
  | _, _, .cons _ r => by simp [RepL.length r]
theorem RepL.get : ∀ {vs : List V} {ds : List D} {i : Nat} {d : D}, RepL K fa A ga H vs ds → ds[i]? = some d → ∃ v, vs[i]? = some v ∧ Rep K fa A ga H v d
  | _, _, _, _, .nil, e => by simp at e
  | _, _, 0, _, .cons h _, e => by simp at e; subst e; exact ⟨_, rfl, h⟩
  | _, _, i + 1, d, .cons _ r, e => by
    obtain ⟨v, h1, h2⟩ := RepL.get (i := i) (d := d) r (by simpa using e)
    exact ⟨v, by simpa using h1, h2⟩
theorem RepL.getV : ∀ {vs : List V} {ds : List D} {i : Nat} {v : V}, RepL K fa A ga H vs ds → vs[i]? = some v → ∃ d, ds[i]? = some d ∧ Rep K fa A ga H v d
  | _, _, _, _, .nil, e => by simp at e
  | _, _, 0, _, .cons h _, e => by simp at e; subst e; exact ⟨_, rfl, h⟩
  | _, _, i + 1, v, .cons _ r, e => by
    obtain ⟨d, h1, h2⟩ := RepL.getV (i := i) (v := v) r (by simpa using e)
    exact ⟨d, by simpa using h1, h2⟩
theorem RepL.append : ∀ {vs ws : List V} {ds es : List D}, RepL K fa A ga H vs ds → RepL K fa A ga H ws es → RepL K fa A ga H (vs ++ ws) (ds ++ es)
  | _, _, _, _, .nil, s => s
  | _, _, _, _, .cons h r, s => .cons h (RepL.append r s)
theorem RepL.one {v : V} {d : D} (h : Rep K fa A ga H v d) : RepL K fa A ga H [v] [d] := .cons h .nil
theorem RepL.set : ∀ {vs : List V} {ds : List D} (i : Nat) {v : V} {d : D}, RepL K fa A ga H vs ds → Rep K fa A ga H v d → RepL K fa A ga H (vs.set i v) (ds.set i d)
  | _, _, _, _, _, .nil, _ => .nil
  | _, _, 0, _, _, .cons _ r, h => .cons h r
  | _, _, i + 1, _, _, .cons q r, h => .cons q (RepL.set i r h)
theorem RepL.take : ∀ {vs : List V} {ds : List D} (n : Nat), RepL K fa A ga H vs ds → RepL K fa A ga H (vs.take n) (ds.take n)
  | _, _, 0, _ => .nil
  | _, _, _ + 1, .nil => .nil
  | _, _, n + 1, .cons h r => .cons h (RepL.take n r)
theorem RepL.drop : ∀ {vs : List V} {ds : List D} (n : Nat), RepL K fa A ga H vs ds → RepL K fa A ga H (vs.drop n) (ds.drop n)
  | _, _, 0, r => r
  | _, _, _ + 1, .nil => .nil
  | _, _, n + 1, .cons _ r => RepL.drop n r
theorem RepL.eraseIdx : ∀ {vs : List V} {ds : List D} (i : Nat), RepL K fa A ga H vs ds → RepL K fa A ga H (vs.eraseIdx i) (ds.eraseIdx i)
  | _, _, _, .nil => .nil
  | _, _, 0, .cons _ r => r
  | _, _, i + 1, .cons h r => .cons h (RepL.eraseIdx i r)
theorem RepL.reverse {vs : List V} {ds : List D} (h : RepL K fa A ga H vs ds) : RepL K fa A ga H vs.reverse ds.reverse := by
  induction h using RepL.rec (motive_1 := fun _ _ _ => True) with
  | non => trivial
  | bl => trivial
  | int => trivial
  | str => trivial
  | lst => trivial
  | tup => trivial
  | dK => trivial
  | dT => trivial
  | fn => trivial
  | gref => trivial
  | ktup => trivial
  | nil => exact .nil
  | cons h _ _ ih => rw [List.reverse_cons, List.reverse_cons]; exact RepL.append ih (.one h)
theorem RepL.flatRep {vs : List V} {ds : List D} (h : RepL K fa A ga H vs ds) : ∀ k : Nat, RepL K fa A ga H (List.replicate k vs).flatten (List.replicate k ds).flatten
  | 0 => .nil
  | k + 1 => by
    rw [List.replicate_succ, List.replicate_succ, List.flatten_cons, List.flatten_cons]
    exact RepL.append h (RepL.flatRep h k)
theorem RepL.ints : ∀ (ns : List Int), RepL K fa A ga H (ns.map V.int) (ns.map D.int)
  | [] => .nil
  | n :: r => .cons (.int n) (RepL.ints r)
theorem Rep.weak {v : V} {d : D} (h : Rep K fa A ga H v d) : RepW K fa A ga H v d := by
  cases h with
  | non => exact .non
  | bl b => exact .bl b
  | int i => exact .int i
  | str x => exact .str x
  | lst n q r => exact .lst q r
  | tup n h r => exact .tup n h r
  | dK n q e r => exact .dK q e r
  | dT n q e r => exact .dT q e r
  | fn k => exact .fn k
  | gref e => exact .gref e
  | ktup n q e r => exact .ktup n q e r
theorem Own.weak {p : Addr} : ∀ {d : D}, Own K fa A ga H p d → RepW K fa A ga H (.ref p) d
  | .lst ds, ⟨vs, h, r⟩ => .lst h r
  | .dK ks ds, ⟨kvs, h, e, r⟩ => .dK (.inl h) e r
  | .dT ks ds, ⟨kvs, h, e, r⟩ => .dT (.inl h) e r
theorem Own.rep {p : Addr} (n : ¬ A p) : ∀ {d : D}, Own K fa A ga H p d → Rep K fa A ga H (.ref p) d
  | .lst ds, ⟨vs, h, r⟩ => .lst n h r
  | .dK ks ds, ⟨kvs, h, e, r⟩ => .dK n (.inl h) e r
  | .dT ks ds, ⟨kvs, h, e, r⟩ => .dT n (.inl h) e r
theorem Own.some {p : Addr} : ∀ {d : D}, Own K fa A ga H p d → H p ≠ none
  | .lst ds, ⟨vs, h, r⟩ => by rw [h]; simp
  | .dK ks ds, ⟨kvs, h, e, r⟩ => by rw [h]; simp
  | .dT ks ds, ⟨kvs, h, e, r⟩ => by rw [h]; simp
theorem Own.keep (k : Kp A A' ga ga' H H') {p : Addr} (hp : H' p = H p) : ∀ {d : D}, Own K fa A ga H p d → Own K fa A' ga' H' p d
  | .lst ds, ⟨vs, h, r⟩ => ⟨vs, hp.trans h, RepL.keep k r⟩
  | .dK ks ds, ⟨kvs, h, e, r⟩ => ⟨kvs, hp.trans h, e, RepL.keep k r⟩
  | .dT ks ds, ⟨kvs, h, e, r⟩ => ⟨kvs, hp.trans h, e, RepL.keep k r⟩
theorem Own.nt {p : Addr} {d : D} (h : Own K fa A ga H p d) : ∃ o, H p = Option.some o ∧ ∀ ps, o ≠ HO.tbl ps := by
  match d, h with
  | .lst ds, ⟨vs, h, r⟩ => exact ⟨_, h, fun _ z => nomatch z⟩
  | .dK ks ds, ⟨kvs, h, e, r⟩ => exact ⟨_, h, fun _ z => nomatch z⟩
  | .dT ks ds, ⟨kvs, h, e, r⟩ => exact ⟨_, h, fun _ z => nomatch z⟩

/-- what stands outside of M stays, nothing vanishes, what is in M' was in M or is new -/
structure Stp (M M' : Addr → Prop) (ga ga' : Nat → Option Addr) (H H' : Hp) : Prop where
  st : ∀ a o, ¬ M a → H a = some o → (∀ ps, o ≠ .tbl ps) → H' a = some o
  dm : ∀ a, H a ≠ none → H' a ≠ none
  mm : ∀ a, M' a → M a ∨ H a = none
  gr : ∀ k a, ga k = some a → ga' k = some a
theorem Stp.refl {M : Addr → Prop} : Stp M M ga ga H H := ⟨fun _ _ _ h _ => h, fun _ h => h, fun _ h => .inl h, fun _ _ h => h⟩
theorem Stp.trans {M1 M2 M3 : Addr → Prop} {g1 g2 g3 : Nat → Option Addr} {H1 H2 H3 : Hp} (a : Stp M1 M2 g1 g2 H1 H2) (b : Stp M2 M3 g2 g3 H2 H3) : Stp M1 M3 g1 g3 H1 H3 :=
  ⟨fun c o n h t => b.st c o (fun z => (a.mm c z).elim n (by rw [h]; simp)) (a.st c o n h t) t, fun c h => b.dm c (a.dm c h), fun c h => by
    rcases b.mm c h with z | z
    · exact a.mm c z
    · by_cases q : H1 c = none
      · exact .inr q
      · exact absurd z (a.dm c q), fun k c e => b.gr k c (a.gr k c e)⟩
theorem Stp.kp {M M' av : Addr → Prop} (s : Stp M M' ga ga' H H') : Kp (fun a => av a ∨ M a) (fun a => av a ∨ M' a) ga ga' H H' :=
  ⟨fun a u n t _ r => by
    have n' : ¬ M a := fun z => n (.inr z)
    rcases r with r | ⟨o, r⟩
    · exact .inl (s.st a _ n' r t)
    · exact .inr ⟨o, s.st a _ n' r (fun _ z => nomatch z)⟩, fun a xs n h => s.st a _ (fun z => n (.inr z)) h (fun _ z => nomatch z), fun a o n h => s.st a _ (fun z => n (.inr z)) h o.nt, fun a h => h.elim (fun z => .inl (.inl z)) fun z => (s.mm a z).elim (fun y => .inl (.inr y)) .inr, s.gr⟩
end
end Ev
end
section
set_option Elab.async false
set_option linter.all false
set_option maxRecDepth 100000
set_option maxHeartbeats 2000000
/-! Ev2: slots, states, results; the relation Rel; what stands behind an expression (Pst); readings by plain functions (rdE, rdA, rdS, spOf). -/
namespace Ev
open PySem PySem.Spec PyProof.Rows L2

inductive Slot where
  | no | fz (d : D) | ow (d : D)
  deriving Inhabited
inductive R where
  | fz (d : D) | fr (d : D) | pk (i : Nat)
abbrev G := List (List D)
structure S where
  env : List Slot
  g : G
structure Exc where
  cls : Nat
  arg : Option D
inductive Out (α : Type) where
  | ok (a : α) (s : S) | ex (x : Exc) (g : G)
abbrev Ev (α : Type) := S → Option (Out α)
def bd {α β : Type} (o : Option (Out α)) (f : α → S → Option (Out β)) : Option (Out β) := match o with
  | none => none
  | some (.ok a s) => f a s
  | some (.ex x g) => some (.ex x g)
def aft {α : Type} (o : Option (Out α)) (k : α → S → Prop) (x : Exc → G → Prop) : Prop := match o with
  | none => False
  | some (.ok a s) => k a s
  | some (.ex e g) => x e g
theorem aft_bd {α β : Type} {o : Option (Out α)} {f : α → S → Option (Out β)} {k : β → S → Prop} {x : Exc → G → Prop} (h : aft (bd o f) k x) : aft o (fun a s => aft (f a s) k x) x := by
  match o with
  | none => exact h
  | some (.ok a s) => exact h
  | some (.ex e g) => exact h
theorem aft_mono {α : Type} {o : Option (Out α)} {k k' : α → S → Prop} {x x' : Exc → G → Prop} (h : aft o k x) (hk : ∀ a s, k a s → k' a s) (hx : ∀ e g, x e g → x' e g) : aft o k' x' := by
  match o with
  | none => exact h
  | some (.ok a s) => exact hk a s h
  | some (.ex e g) => exact hx e g h
/-- a plain value that may be missing -/
def lif {α : Type} (o : Option α) (s : S) : Option (Out α) := match o with
  | none => none
  | some a => some (.ok a s)
theorem aft_lif {α : Type} {o : Option α} {s : S} {k : α → S → Prop} {x : Exc → G → Prop} (h : aft (lif o s) k x) : ∃ a, o = some a ∧ k a s := by
  match o with
  | none => exact h.elim
  | some a => exact ⟨a, rfl, h⟩

abbrev avU (av : Addr → Prop) (fs : List Addr) : Addr → Prop := fun a => av a ∨ a ∈ fs
theorem avU_nil (av : Addr → Prop) : avU av [] = av := by funext a; simp [avU]
theorem avU_app (av : Addr → Prop) (fs gs : List Addr) : avU (avU av fs) gs = avU av (fs ++ gs) := by funext a; simp [avU, or_assoc]
def gmA (ga : Nat → Option Addr) (a : Addr) : Prop := ∃ k, ga k = some a
def OwA (σ : L2.St) (env : List Slot) (a : Addr) : Prop := ∃ (i : Nat) (d : D), env[i]? = some (Slot.ow d) ∧ σ[i]? = some (some (V.ref a))
def MuA (ga : Nat → Option Addr) (σ : L2.St) (env : List Slot) (a : Addr) : Prop := gmA ga a ∨ OwA σ env a
abbrev AvA (av : Addr → Prop) (ga : Nat → Option Addr) (σ : L2.St) (env : List Slot) : Addr → Prop := fun a => av a ∨ MuA ga σ env a
abbrev AvG (av : Addr → Prop) (ga : Nat → Option Addr) : Addr → Prop := fun a => av a ∨ gmA ga a

/-- the tables of code objects of the defs that make lambdas: where (by fa, 0: none), the lambdas' name -/
def tabNames : List (Nat × Str) := [(900000, (("_law_right" : Str) ++ ".<locals>.") ++ "<lambda>"), (900001, (("law" : Str) ++ ".<locals>.") ++ "<lambda>")]
def TB (fa : Nat → Addr) (H : Hp) : Prop := ∀ p ∈ tabNames, fa p.1 ≠ 0 → LamX.TabS H (fa p.1) p.2
theorem TB.ext {fa : Nat → Addr} {H H' : Hp} (t : TB fa H) (e : ∀ a o, H a = some o → H' a = some o) : TB fa H' := fun p hp h => (t p hp h).ext e
/-- an object that is no table and no code object is written -/
theorem TB.write {fa : Nat → Addr} {H H' : Hp} {q : Addr} {u : HO} (t : TB fa H) (hq : H q = some u) (h1 : ∀ ps, u ≠ .tbl ps) (h2 : ∀ c x, u ≠ LamX.CodeO c x) (same : ∀ a, a ≠ q → H' a = H a) : TB fa H' := fun p hp h => by
  obtain ⟨ps, a1, a2, a3⟩ := t p hp h
  have ne : ∀ a o, H a = some o → o ≠ u → H' a = some o := fun a o e n => (same a fun z => by rw [z, hq] at e; cases e; exact n rfl).trans e
  refine ⟨ps, ne _ _ a1 fun z => h1 ps z.symm, a2, fun pos cv hc => ?_⟩
  obtain ⟨c, e1, e2⟩ := a3 pos cv hc
  exact ⟨c, e1, ne _ _ e2 fun z => h2 c _ z.symm⟩
section
variable (K : PySem.W.Frag) (fa : Nat → Addr)
structure GRel (A : Addr → Prop) (ga : Nat → Option Addr) (H : Hp) (g : G) : Prop where
  at_ : ∀ (k : Nat) (ds : List D), g[k]? = some ds → ∃ a vs, ga k = some a ∧ H a = some (.lst vs) ∧ RepL K fa A ga H vs ds
  inj : ∀ j k a, ga j = some a → ga k = some a → j = k
  few : ∀ k a, ga k = some a → k < g.length
  tb : TB fa H
structure Rel (av : Addr → Prop) (ga : Nat → Option Addr) (σ : L2.St) (H : Hp) (s : S) : Prop where
  len : s.env.length = σ.length
  fz : ∀ (i : Nat) (d : D), s.env[i]? = some (.fz d) → ∃ v, σ[i]? = some (some v) ∧ Rep K fa (AvA av ga σ s.env) ga H v d
  ow : ∀ (i : Nat) (d : D), s.env[i]? = some (.ow d) → ∃ p, σ[i]? = some (some (.ref p)) ∧ Own K fa (AvA av ga σ s.env) ga H p d ∧ ¬ av p ∧ ∀ k, ga k ≠ some p
  inj : ∀ (i j : Nat) (d e : D) (p : Addr), s.env[i]? = some (.ow d) → s.env[j]? = some (.ow e) → σ[i]? = some (some (.ref p)) → σ[j]? = some (some (.ref p)) → i = j
  gl : GRel K fa (AvA av ga σ s.env) ga H s.g
  dom : ∀ a, av a → H a ≠ none
  sep : ∀ a k, av a → ga k ≠ some a
/-- values and results: fs the new changing objects among them -/
inductive RVs (A : Addr → Prop) (ga : Nat → Option Addr) (σ : L2.St) (H : Hp) : List Addr → List V → List R → Prop
  | nil : RVs A ga σ H [] [] []
  | fz {fs vs rs} {v : V} {d : D} : Rep K fa A ga H v d → RVs A ga σ H fs vs rs → RVs A ga σ H fs (v :: vs) (.fz d :: rs)
  | fr {fs vs rs} {p : Addr} {d : D} : Own K fa A ga H p d → p ∉ fs → RVs A ga σ H fs vs rs → RVs A ga σ H (p :: fs) (.ref p :: vs) (.fr d :: rs)
  | pk {fs vs rs} {i : Nat} {v : V} : σ[i]? = some (some v) → RVs A ga σ H fs vs rs → RVs A ga σ H fs (v :: vs) (.pk i :: rs)
structure Pst (av : Addr → Prop) (ga : Nat → Option Addr) (σ : L2.St) (H : Hp) (s : S) (ga' : Nat → Option Addr) (H' : Hp) (s' : S) (fs : List Addr) (vs : List V) (rs : List R) : Prop where
  rel : Rel K fa (avU av fs) ga' σ H' s'
  rv : RVs K fa (AvA (avU av fs) ga' σ s'.env) ga' σ H' fs vs rs
  new : ∀ p ∈ fs, H p = none ∧ ¬ av p
  st : Stp (MuA ga σ s.env) (MuA ga' σ s'.env) ga ga' H H'
def XArg (A : Addr → Prop) (ga : Nat → Option Addr) (H : Hp) (x : Exc) (d : Option Addr) : Prop := (x.arg = none → d = none) ∧ ∀ e, x.arg = some e → ∃ dd v, d = some dd ∧ H dd = some (.xd [(("limit" : Str), v)]) ∧ Rep K fa A ga H v e
variable (ca : Nat → Addr)
def XW (E : XK) (av M : Addr → Prop) (ga : Nat → Option Addr) (H : Hp) (x : Exc) (g' : G) : Prop :=
  ∀ d ga' H', GRel K fa (AvG av ga') ga' H' g' → XArg K fa (AvG av ga') ga' H' x d → Stp M (gmA ga') ga ga' H H' → E (.ref (ca x.cls)) d H'
def rdE (E : XK) (m : Ev R) : TE := fun σ H Q => ∃ av ga s, Rel K fa av ga σ H s ∧ aft (m s) (fun r s' => ∀ fs v ga' H', Pst K fa av ga σ H s ga' H' s' fs [v] [r] → Q v H') (XW K fa ca E av (MuA ga σ s.env) ga H)
def rdA (E : XK) (m : Ev (List R)) : TA := fun σ H Q => ∃ av ga s, Rel K fa av ga σ H s ∧ aft (m s) (fun rs s' => ∀ fs vs ga' H', Pst K fa av ga σ H s ga' H' s' fs vs rs → Q vs H') (XW K fa ca E av (MuA ga σ s.env) ga H)
def rdT (E : XK) (m : Ev Bool) : TT := fun σ H Q => ∃ av ga s, Rel K fa av ga σ H s ∧ aft (m s) (fun b s' => ∀ ga' H', Rel K fa av ga' σ H' s' → Stp (MuA ga σ s.env) (MuA ga' σ s'.env) ga ga' H H' → Q b H') (XW K fa ca E av (MuA ga σ s.env) ga H)
end
inductive Ct where
  | nx | rt (d : D) | bk | ct
section
variable (K : PySem.W.Frag) (fa ca : Nat → Addr)
/-- what is wanted behind a statement's end c -/
def Wct (De : Ends) (av M : Addr → Prop) (ga : Nat → Option Addr) (H : Hp) (c : Ct) (s' : S) : Prop := match c with
  | .nx => ∀ σ' ga' H', Rel K fa av ga' σ' H' s' → Stp M (MuA ga' σ' s'.env) ga ga' H H' → De.nx σ' H'
  | .bk => ∀ σ' ga' H', Rel K fa av ga' σ' H' s' → Stp M (MuA ga' σ' s'.env) ga ga' H H' → De.bk σ' H'
  | .ct => ∀ σ' ga' H', Rel K fa av ga' σ' H' s' → Stp M (MuA ga' σ' s'.env) ga ga' H H' → De.ct σ' H'
  | .rt d => ∀ v ga' H', GRel K fa (AvG av ga') ga' H' s'.g → Rep K fa (AvG av ga') ga' H' v d → Stp M (gmA ga') ga ga' H H' → De.rt v H'
def rdS (E : XK) (m : Ev Ct) : TS := fun De σ H => ∃ av ga s, Rel K fa av ga σ H s ∧ aft (m s) (Wct K fa De av (MuA ga σ s.env) ga H) (XW K fa ca E av (MuA ga σ s.env) ga H)
/-- a target: the result is one value's; stores it -/
def rdG (E : XK) (m : R → Ev Unit) : TG := fun v σ H Q => ∃ av ga s fs r, Rel K fa (avU av fs) ga σ H s ∧ RVs K fa (AvA (avU av fs) ga σ s.env) ga σ H fs [v] [r] ∧ (∀ p ∈ fs, ¬ av p) ∧
  aft (m r s) (fun _ s' => ∀ σ' ga' H', Rel K fa av ga' σ' H' s' → Stp (fun a => MuA ga σ s.env a ∨ a ∈ fs) (MuA ga' σ' s'.env) ga ga' H H' → Q σ' H') (XW K fa ca E av (fun a => MuA ga σ s.env a ∨ a ∈ fs) ga H)
/-- a target of a plain value -/
def rdGd (E : XK) (m : D → Ev Unit) : TG := fun v σ H Q => ∃ av ga s d, Rel K fa av ga σ H s ∧ Rep K fa (AvA av ga σ s.env) ga H v d ∧
  aft (m d s) (fun _ s' => ∀ σ' ga' H', Rel K fa av ga' σ' H' s' → Stp (MuA ga σ s.env) (MuA ga' σ' s'.env) ga ga' H H' → Q σ' H') (XW K fa ca E av (MuA ga σ s.env) ga H)
def runT : List (D → Ev Unit) → List D → Ev Unit
  | [], [] => fun s => some (.ok () s)
  | t :: ts, d :: ds => fun s => bd (t d s) fun _ s1 => runT ts ds s1
  | _, _ => fun _ => none
def rdGs (E : XK) (ts : List (D → Ev Unit)) : TGs := fun vs σ H Q => ∃ av ga s ds, Rel K fa av ga σ H s ∧ RepL K fa (AvA av ga σ s.env) ga H vs ds ∧
  aft (runT ts ds s) (fun _ s' => ∀ σ' ga' H', Rel K fa av ga' σ' H' s' → Stp (MuA ga σ s.env) (MuA ga' σ' s'.env) ga ga' H H' → Q σ' H') (XW K fa ca E av (MuA ga σ s.env) ga H)
end
inductive FOut where
  | ok (d : D) (g : G) | ex (x : Exc) (g : G)
abbrev Fn := List D → G → Option FOut
section
variable (K : PySem.W.Frag) (fa ca : Nat → Addr)
def spOf (n : Nat) (f : Fn) : Sp := fun vs H Q E => vs.length = n ∧ ∃ av ga g ds, GRel K fa (AvG av ga) ga H g ∧ RepL K fa (AvG av ga) ga H vs ds ∧ (∀ a, av a → H a ≠ none) ∧ (∀ a k, av a → ga k ≠ some a) ∧ match f ds g with
  | none => False
  | some (.ok d g') => ∀ v ga' H', GRel K fa (AvG av ga') ga' H' g' → Rep K fa (AvG av ga') ga' H' v d → Stp (gmA ga) (gmA ga') ga ga' H H' → Q v H'
  | some (.ex x g') => XW K fa ca E av (gmA ga) ga H x g'
end

section
variable {K : PySem.W.Frag} {fa ca : Nat → Addr} {av av' M M' A A' : Addr → Prop} {ga ga' ga2 : Nat → Option Addr} {σ σ' : L2.St} {H H' H2 : Hp} {s s' s2 : S} {fs : List Addr} {vs : List V} {rs : List R} {E : XK}

/-! ### GRel, XW -/
theorem Kp.sub (h : ∀ a, A' a → A a) : Kp A A' ga ga H H := ⟨fun _ _ _ _ _ r => r, fun _ _ _ r => r, fun _ _ _ r => r, fun a z => .inl (h a z), fun _ _ e => e⟩
theorem GRel.sub {g : G} (r : GRel K fa A ga H g) (h : ∀ a, A' a → A a) : GRel K fa A' ga H g :=
  ⟨fun k ds e => by obtain ⟨a, vs, h1, h2, h3⟩ := r.at_ k ds e; exact ⟨a, vs, h1, h2, RepL.keep (Kp.sub h) h3⟩, r.inj, r.few, r.tb⟩
theorem XArg.sub {x : Exc} {d : Option Addr} (r : XArg K fa A ga H x d) (h : ∀ a, A' a → A a) : XArg K fa A' ga H x d := ⟨r.1, fun e he => by
  obtain ⟨dd, v, h1, h2, h3⟩ := r.2 e he
  exact ⟨dd, v, h1, h2, Rep.keep (Kp.sub h) h3⟩⟩
theorem XW.sub {x : Exc} {g' : G} (w : XW K fa ca E av M ga H x g') (st : Stp M M' ga ga' H H') (hav : ∀ a, av a → av' a) : XW K fa ca E av' M' ga' H' x g' :=
  fun d ga2 H2 hg hx st2 => w d ga2 H2 (hg.sub fun a z => z.elim (fun y => .inl (hav a y)) .inr) (hx.sub fun a z => z.elim (fun y => .inl (hav a y)) .inr) (st.trans st2)

/-! ### Rel -/
theorem MuA_set_fz {i : Nat} {d : D} {env : List Slot} {a : Addr} (h : MuA ga σ (env.set i (.fz d)) a) : MuA ga σ env a := by
  rcases h with h | ⟨j, e, h1, h2⟩
  · exact .inl h
  · refine .inr ⟨j, e, ?_, h2⟩
    by_cases hj : i = j
    · subst hj
      by_cases hl : i < env.length
      · rw [List.getElem?_set_self hl] at h1; cases h1
      · rw [List.set_eq_of_length_le (by omega)] at h1; exact h1
    · rwa [List.getElem?_set_ne hj] at h1
theorem Rel.av_dom (r : Rel K fa av ga σ H s) : ∀ a, AvA av ga σ s.env a → H a ≠ none := fun a h => by
  rcases h with h | ⟨k, h⟩ | ⟨i, d, h1, h2⟩
  · exact r.dom a h
  · have hk := r.gl.few k a h
    obtain ⟨a', vs, e1, e2, _⟩ := r.gl.at_ k (s.g[k]) (by simp [hk])
    rw [h] at e1; cases e1
    rw [e2]; simp
  · obtain ⟨p, e1, e2, _⟩ := r.ow i d h1
    rw [h2] at e1; cases e1
    exact e2.some
theorem Rel.sub (r : Rel K fa av ga σ H s) (h : ∀ a, av' a → av a) : Rel K fa av' ga σ H s :=
  have hA : ∀ a, AvA av' ga σ s.env a → AvA av ga σ s.env a := fun a z => z.elim (fun y => .inl (h a y)) .inr
  ⟨r.len, fun i d e => by obtain ⟨v, h1, h2⟩ := r.fz i d e; exact ⟨v, h1, Rep.keep (Kp.sub hA) h2⟩,
    fun i d e => by obtain ⟨p, h1, h2, h3, h4⟩ := r.ow i d e; exact ⟨p, h1, h2.keep (Kp.sub hA) rfl, fun z => h3 (h p z), h4⟩,
    r.inj, r.gl.sub hA, fun a z => r.dom a (h a z), fun a k z => r.sep a k (h a z)⟩
/-- the slot's object is told apart no more: it stays as it is -/
theorem Rel.freeze {i : Nat} {d : D} (r : Rel K fa av ga σ H s) (hi : s.env[i]? = some (.ow d)) : Rel K fa av ga σ H { s with env := s.env.set i (.fz d) } ∧ ∃ v, σ[i]? = some (some v) ∧ Rep K fa (AvA av ga σ (s.env.set i (.fz d))) ga H v d := by
  have hA : ∀ a, AvA av ga σ (s.env.set i (.fz d)) a → AvA av ga σ s.env a := fun a z => z.elim .inl fun y => .inr (MuA_set_fz y)
  have hlt : i < s.env.length := (List.getElem?_eq_some_iff.mp hi).1
  have back : ∀ j e, (s.env.set i (.fz d))[j]? = some (.ow e) → j ≠ i ∧ s.env[j]? = some (.ow e) := fun j e h => by
    by_cases hj : i = j
    · subst hj
      rw [List.getElem?_set_self hlt] at h; cases h
    · rw [List.getElem?_set_ne hj] at h
      exact ⟨fun z => hj z.symm, h⟩
  obtain ⟨p, e1, e2, e3, e4⟩ := r.ow i d hi
  have nA : ¬ AvA av ga σ (s.env.set i (.fz d)) p := by
    rintro (z | ⟨k, z⟩ | ⟨j, e, z1, z2⟩)
    · exact e3 z
    · exact e4 k z
    · obtain ⟨hj, z1⟩ := back j e z1
      exact hj (r.inj j i e d p z1 hi z2 e1)
  have rp : Rep K fa (AvA av ga σ (s.env.set i (.fz d))) ga H (.ref p) d := (e2.keep (Kp.sub hA) rfl).rep nA
  refine ⟨⟨by simpa using r.len, fun j e h => ?_, fun j e h => ?_, fun j k x y q h1 h2 h3 h4 => r.inj j k x y q (back j x h1).2 (back k y h2).2 h3 h4, r.gl.sub hA, r.dom, r.sep⟩, _, e1, rp⟩
  · by_cases hj : i = j
    · subst hj
      rw [List.getElem?_set_self hlt] at h
      cases h
      exact ⟨_, e1, rp⟩
    · have h : (s.env.set i (.fz d))[j]? = some (.fz e) := h
      rw [List.getElem?_set_ne hj] at h
      obtain ⟨v, h1, h2⟩ := r.fz j e h
      exact ⟨v, h1, Rep.keep (Kp.sub hA) h2⟩
  · obtain ⟨hj, h⟩ := back j e h
    obtain ⟨q, q1, q2, q3, q4⟩ := r.ow j e h
    exact ⟨q, q1, q2.keep (Kp.sub hA) rfl, q3, q4⟩
/-- new objects beside; what is in fs is kept apart -/
theorem Rel.grow (r : Rel K fa av ga σ H s) (ext : ∀ a o, H a = some o → H' a = some o) (hn : ∀ p ∈ fs, H p = none ∧ H' p ≠ none) : Rel K fa (avU av fs) ga σ H' s := by
  have kp : Kp (AvA av ga σ s.env) (AvA (avU av fs) ga σ s.env) ga ga H H' := ⟨fun a u _ _ _ q => q.elim (fun z => .inl (ext _ _ z)) fun ⟨o, z⟩ => .inr ⟨o, ext _ _ z⟩, fun a _ _ q => ext _ _ q, fun a _ _ q => ext _ _ q,
    fun a z => by
      rcases z with (z | z) | z
      · exact .inl (.inl z)
      · exact .inr (hn a z).1
      · exact .inl (.inr z), fun _ _ e => e⟩
  have same : ∀ p, H p ≠ none → H' p = H p := fun p h => by
    cases q : H p with
    | none => exact absurd q h
    | some o => exact ext p o q
  have notin : ∀ p, H p ≠ none → p ∉ fs := fun p h z => h (hn p z).1
  refine ⟨r.len, fun i d e => ?_, fun i d e => ?_, r.inj, ⟨fun k ds e => ?_, r.gl.inj, r.gl.few, r.gl.tb.ext ext⟩, fun a z => ?_, fun a k z => ?_⟩
  · obtain ⟨v, h1, h2⟩ := r.fz i d e
    exact ⟨v, h1, Rep.keep kp h2⟩
  · obtain ⟨p, h1, h2, h3, h4⟩ := r.ow i d e
    exact ⟨p, h1, h2.keep kp (same p h2.some), fun z => z.elim h3 (notin p h2.some), h4⟩
  · obtain ⟨a, vs, h1, h2, h3⟩ := r.gl.at_ k ds e
    exact ⟨a, vs, h1, ext _ _ h2, RepL.keep kp h3⟩
  · rcases z with z | z
    · rw [same a (r.dom a z)]; exact r.dom a z
    · exact (hn a z).2
  · rcases z with z | z
    · exact r.sep a k z
    · intro e
      exact r.av_dom a (.inr (.inl ⟨k, e⟩)) (hn a z).1
theorem Stp.grow (ext : ∀ a o, H a = some o → H' a = some o) : Stp M M ga ga H H' :=
  ⟨fun a o _ h _ => ext a o h, fun a h => by cases q : H a with
    | none => exact absurd q h
    | some o => rw [ext a o q]; simp, fun _ z => .inl z, fun _ _ e => e⟩
/-- a state behind an expression that was begun elsewhere -/
theorem Rel.stay (r : Rel K fa av ga σ H s) : Stp (MuA ga σ s.env) (MuA ga σ s.env) ga ga H H := Stp.refl

/-! ### values and results -/
theorem RVs.keep (k : Kp A A' ga ga' H H') (ho : ∀ p ∈ fs, H' p = H p) (r : RVs K fa A ga σ H fs vs rs) : RVs K fa A' ga' σ H' fs vs rs := by
  induction r with
  | nil => exact .nil
  | fz h _ ih => exact .fz (Rep.keep k h) (ih ho)
  | fr h n _ ih => exact .fr (h.keep k (ho _ (by simp))) n (ih fun p hp => ho p (by simp [hp]))
  | pk h _ ih => exact .pk h (ih ho)
theorem RVs.app {gs : List Addr} {ws : List V} {qs : List R} (r : RVs K fa A ga σ H fs vs rs) (q : RVs K fa A ga σ H gs ws qs) (d : ∀ p ∈ fs, p ∉ gs) : RVs K fa A ga σ H (fs ++ gs) (vs ++ ws) (rs ++ qs) := by
  induction r with
  | nil => exact q
  | fz h _ ih => exact .fz h (ih d)
  | fr h n _ ih => exact .fr h (fun z => (List.mem_append.mp z).elim n (d _ (by simp))) (ih fun p hp => d p (by simp [hp]))
  | pk h _ ih => exact .pk h (ih d)
theorem RVs.own (r : RVs K fa A ga σ H fs vs rs) : ∀ p ∈ fs, ∃ d, Own K fa A ga H p d := by
  induction r with
  | nil => intro p hp; cases hp
  | fz _ _ ih => exact ih
  | fr h _ _ ih =>
    intro p hp
    rcases List.mem_cons.mp hp with rfl | hp
    · exact ⟨_, h⟩
    · exact ih p hp
  | pk _ _ ih => exact ih
end
end Ev
end
section
set_option Elab.async false
set_option linter.all false
set_option maxRecDepth 100000
set_option maxHeartbeats 2000000
/-! Ev3: results handed on (escL, nowL), operations on plain values (OpOk), the expressions' core rules. -/
namespace Ev
open PySem PySem.Spec PyProof.Rows L2

/-- a result becomes a plain value: a slot's own object stays as it is from now on -/
def esc (r : R) (s : S) : Option (D × S) := match r with
  | .fz d => some (d, s)
  | .fr d => some (d, s)
  | .pk i => match s.env[i]? with
    | some (.fz d) => some (d, s)
    | some (.ow d) => some (d, ⟨s.env.set i (.fz d), s.g⟩)
    | _ => none
def escL : List R → S → Option (List D × S)
  | [], s => some ([], s)
  | r :: rs, s => match esc r s with
    | none => none
    | some (d, s1) => match escL rs s1 with
      | none => none
      | some (ds, s2) => some (d :: ds, s2)
/-- what a result holds now -/
def nowR (r : R) (s : S) : Option D := match r with
  | .fz d => some d
  | .fr d => some d
  | .pk i => match s.env[i]? with
    | some (.fz d) => some d
    | some (.ow d) => some d
    | _ => none
def nowL : List R → S → Option (List D)
  | [], _ => some []
  | r :: rs, s => match nowR r s with
    | none => none
    | some d => match nowL rs s with
      | none => none
      | some ds => some (d :: ds)

section
variable {K : PySem.W.Frag} {fa ca : Nat → Addr} {av av' M M' A A' : Addr → Prop} {ga ga' ga1 ga2 : Nat → Option Addr} {σ σ' : L2.St} {H H' H1 H2 : Hp} {s s' s1 s2 : S} {fs gs : List Addr} {vs : List V} {rs : List R} {E : XK}

theorem RVs.sub (r : RVs K fa A ga σ H fs vs rs) (h : ∀ a, A' a → A a) : RVs K fa A' ga σ H fs vs rs := r.keep (Kp.sub h) fun _ _ => rfl
theorem RVs.nodup (r : RVs K fa A ga σ H fs vs rs) : fs.Nodup := by
  induction r with
  | nil => exact List.nodup_nil
  | fz _ _ ih => exact ih
  | fr _ n _ ih => exact List.nodup_cons.mpr ⟨n, ih⟩
  | pk _ _ ih => exact ih
theorem escL_ok (r : RVs K fa A ga σ H fs vs rs) : ∀ {s s' : S} {ds : List D}, (∀ a, AvA (avU av fs) ga σ s.env a → A a) → Rel K fa (avU av fs) ga σ H s → (∀ p ∈ fs, ¬ av p) → escL rs s = some (ds, s') →
    Rel K fa av ga σ H s' ∧ RepL K fa (AvA av ga σ s'.env) ga H vs ds ∧ (∀ a, MuA ga σ s'.env a → MuA ga σ s.env a) ∧ s'.env.length = s.env.length := by
  induction r with
  | nil =>
    intro s s' ds _ rel _ e
    cases e
    rw [avU_nil] at rel
    exact ⟨rel, .nil, fun _ z => z, rfl⟩
  | @fz fs vs rs v d h _ ih =>
    intro s s' ds hA rel hn e
    simp only [escL, esc] at e
    split at e
    · cases e
    · rename_i ds2 s2 e2
      cases e
      obtain ⟨r1, r2, r3, r4⟩ := ih hA rel hn e2
      refine ⟨r1, .cons (Rep.keep (Kp.sub fun a z => hA a ?_) h) r2, r3, r4⟩
      exact z.elim (fun y => .inl (.inl y)) fun y => .inr (r3 a y)
  | @fr fs vs rs p d h n _ ih =>
    intro s s' ds hA rel hn e
    simp only [escL, esc] at e
    split at e
    · cases e
    · rename_i ds2 s2 e2
      cases e
      have hsub : ∀ a, avU av fs a → avU av (p :: fs) a := fun a z => z.elim .inl fun y => .inr (List.mem_cons_of_mem _ y)
      obtain ⟨r1, r2, r3, r4⟩ := ih (fun a z => hA a (z.elim (fun y => .inl (hsub a y)) .inr)) (rel.sub hsub) (fun q hq => hn q (List.mem_cons_of_mem _ hq)) e2
      have hp : avU av (p :: fs) p := .inr List.mem_cons_self
      have nA : ¬ AvA av ga σ s'.env p := by
        rintro (z | z)
        · exact hn p List.mem_cons_self z
        · rcases r3 p z with ⟨k, z⟩ | ⟨i, e, z1, z2⟩
          · exact rel.sep p k hp z
          · obtain ⟨q, q1, _, q3, _⟩ := rel.ow i e z1
            rw [z2] at q1; cases q1
            exact q3 hp
      refine ⟨r1, .cons (Own.rep nA (h.keep (Kp.sub fun a z => hA a ?_) rfl)) r2, r3, r4⟩
      exact z.elim (fun y => .inl (.inl y)) fun y => .inr (r3 a y)
  | @pk fs vs rs i v h _ ih =>
    intro s s' ds hA rel hn e
    simp only [escL, esc] at e
    split at e
    · cases e
    · rename_i d s1 e1
      split at e
      · cases e
      · rename_i ds2 s2 e2
        cases e
        split at e1
        · rename_i d' hi
          cases e1
          obtain ⟨r1, r2, r3, r4⟩ := ih hA rel hn e2
          obtain ⟨v', h1, h2⟩ := rel.fz i d hi
          rw [h] at h1; cases h1
          refine ⟨r1, .cons (Rep.keep (Kp.sub fun a z => ?_) h2) r2, r3, r4⟩
          exact z.elim (fun y => .inl (.inl y)) fun y => .inr (r3 a y)
        · rename_i d' hi
          cases e1
          obtain ⟨rel1, v', h1, h2⟩ := rel.freeze hi
          rw [h] at h1; cases h1
          obtain ⟨r1, r2, r3, r4⟩ := ih (fun a z => hA a (z.elim .inl fun y => .inr (MuA_set_fz y))) rel1 hn e2
          refine ⟨r1, .cons (Rep.keep (Kp.sub fun a z => ?_) h2) r2, fun a z => MuA_set_fz (r3 a z), by simpa using r4⟩
          exact z.elim (fun y => .inl (.inl y)) fun y => .inr (r3 a y)
        · cases e1
/-- behind the results: all handed on -/
theorem Pst.esc {ds : List D} (p : Pst K fa av ga σ H s ga' H' s' fs vs rs) (e : escL rs s' = some (ds, s2)) :
    Rel K fa av ga' σ H' s2 ∧ RepL K fa (AvA av ga' σ s2.env) ga' H' vs ds ∧ Stp (MuA ga σ s.env) (MuA ga' σ s2.env) ga ga' H H' := by
  obtain ⟨r1, r2, r3, _⟩ := escL_ok p.rv (fun _ z => z) p.rel (fun q hq => (p.new q hq).2) e
  exact ⟨r1, r2, ⟨p.st.st, p.st.dm, fun a z => p.st.mm a (r3 a z), p.st.gr⟩⟩
theorem nowL_ok (r : RVs K fa A ga σ H fs vs rs) : ∀ {ds : List D}, (∀ a, AvA av ga σ s.env a → A a) → (∀ a, A a → AvA av ga σ s.env a) → Rel K fa av ga σ H s → nowL rs s = some ds → Paired (RepW K fa A ga H) vs ds := by
  induction r with
  | nil => intro ds _ _ _ e; cases e; exact .nil
  | @fz fs vs rs v d h _ ih =>
    intro ds hA hB rel e
    simp only [nowL, nowR] at e
    split at e
    · cases e
    · rename_i ds2 e2
      cases e
      exact .cons h.weak (ih hA hB rel e2)
  | @fr fs vs rs p d h n _ ih =>
    intro ds hA hB rel e
    simp only [nowL, nowR] at e
    split at e
    · cases e
    · rename_i ds2 e2
      cases e
      exact .cons h.weak (ih hA hB rel e2)
  | @pk fs vs rs i v h _ ih =>
    intro ds hA hB rel e
    simp only [nowL, nowR] at e
    split at e
    · cases e
    · rename_i d e1
      split at e
      · cases e
      · rename_i ds2 e2
        cases e
        refine .cons ?_ (ih hA hB rel e2)
        split at e1
        · rename_i d' hi
          cases e1
          obtain ⟨v', h1, h2⟩ := rel.fz i d hi
          rw [h] at h1; cases h1
          exact (Rep.keep (Kp.sub hB) h2).weak
        · rename_i d' hi
          cases e1
          obtain ⟨q, h1, h2, _⟩ := rel.ow i d hi
          rw [h] at h1; cases h1
          exact (h2.keep (Kp.sub hB) rfl).weak
        · cases e1
theorem Pst.now {ds : List D} (p : Pst K fa av ga σ H s ga' H' s' fs vs rs) (e : nowL rs s' = some ds) : Paired (RepW K fa (AvA (avU av fs) ga' σ s'.env) ga' H') vs ds :=
  nowL_ok p.rv (fun _ z => z) (fun _ z => z) p.rel e
/-- one behind the other -/
theorem Pst.then {ws : List V} {qs : List R} (p : Pst K fa av ga σ H s ga1 H1 s1 fs vs rs) (q : Pst K fa (avU av fs) ga1 σ H1 s1 ga2 H2 s2 gs ws qs) : Pst K fa av ga σ H s ga2 H2 s2 (fs ++ gs) (vs ++ ws) (rs ++ qs) := by
  have dis : ∀ x ∈ fs, x ∉ gs := fun x hx hg => (q.new x hg).2 (.inr hx)
  have nM : ∀ x ∈ fs, ¬ MuA ga1 σ s1.env x := fun x hx => by
    rintro (⟨k, z⟩ | ⟨i, e, z1, z2⟩)
    · exact p.rel.sep x k (.inr hx) z
    · obtain ⟨y, y1, _, y3, _⟩ := p.rel.ow i e z1
      rw [z2] at y1; cases y1
      exact y3 (.inr hx)
  have same : ∀ x ∈ fs, H2 x = H1 x := fun x hx => by
    obtain ⟨d, o⟩ := p.rv.own x hx
    obtain ⟨u, hu, nt⟩ := o.nt
    rw [hu]
    exact q.st.st x u (nM x hx) hu nt
  have kp : Kp (AvA (avU av fs) ga1 σ s1.env) (AvA (avU av (fs ++ gs)) ga2 σ s2.env) ga1 ga2 H1 H2 := by
    refine ⟨(q.st.kp (av := avU av fs)).rd, (q.st.kp (av := avU av fs)).ls, (q.st.kp (av := avU av fs)).tp, fun a z => ?_, q.st.gr⟩
    rcases z with z | z
    · rw [← avU_app] at z
      rcases z with z | z
      · exact .inl (.inl z)
      · exact .inr (q.new a z).1
    · exact (q.st.mm a z).elim (fun y => .inl (.inr y)) .inr
  refine ⟨by rw [← avU_app]; exact q.rel, RVs.app (p.rv.keep kp same) (by rw [← avU_app]; exact q.rv) dis, fun x hx => ?_, p.st.trans q.st⟩
  rcases List.mem_append.mp hx with hx | hx
  · exact p.new x hx
  · obtain ⟨h1, h2⟩ := q.new x hx
    refine ⟨?_, fun z => h2 (.inl z)⟩
    cases e : H x with
    | none => rfl
    | some o =>
      exact absurd h1 (p.st.dm x (by rw [e]; simp))

/-! ### operations on plain values -/
/-- what an operation makes: nothing that changes, or one new changing object -/
inductive NewR (K : PySem.W.Frag) (fa : Nat → Addr) (A : Addr → Prop) (ga : Nat → Option Addr) (H : Hp) : V → R → Hp → Prop
  | fz {v : V} {d : D} {H' : Hp} : (∀ a o, H a = some o → H' a = some o) → Rep K fa A ga H' v d → NewR K fa A ga H v (.fz d) H'
  | fr {p : Addr} {d : D} {H' : Hp} : (∀ a o, H a = some o → H' a = some o) → H p = none → Own K fa (fun a => A a ∨ a = p) ga H' p d → NewR K fa A ga H (.ref p) (.fr d) H'
def OpOk (K : PySem.W.Frag) (fa : Nat → Addr) (f : List D → Option R) (r : List V → Hp → VK → Prop) : Prop :=
  ∀ (A : Addr → Prop) (ga : Nat → Option Addr) (H : Hp) (vs : List V) (ds : List D) (res : R) (Q : VK), (∀ a, A a → H a ≠ none) → Paired (RepW K fa A ga H) vs ds → f ds = some res → (∀ v H', NewR K fa A ga H v res H' → Q v H') → r vs H Q
theorem Pst.op {f : List D → Option R} {r : List V → Hp → VK → Prop} {ds : List D} {res : R} {Q : VK} (p : Pst K fa av ga σ H s ga' H' s' fs vs rs) (ok : OpOk K fa f r) (e : nowL rs s' = some ds) (hf : f ds = some res)
    (hQ : ∀ gs v ga2 H2, Pst K fa av ga σ H s ga2 H2 s' gs [v] [res] → Q v H2) : r vs H' Q := by
  refine ok _ ga' H' vs ds res Q p.rel.av_dom (p.now e) hf fun v H2 n => ?_
  have sub0 : ∀ a, av a → avU av fs a := fun a z => .inl z
  cases n with
  | @fz _ d _ ext rep =>
    refine hQ [] _ ga' _ ⟨?_, .fz (Rep.keep (Kp.sub fun a z => ?_) rep) .nil, (fun q hq => nomatch hq), p.st.trans (Stp.grow ext)⟩
    · have g := p.rel.grow (fs := []) ext (fun q hq => nomatch hq)
      exact g.sub fun a z => z.elim (fun y => .inl (.inl y)) fun y => nomatch y
    · rcases z with (z | z) | z
      · exact .inl (.inl z)
      · cases z
      · exact .inr z
  | @fr q d _ ext new own =>
    have hq2 : H2 q ≠ none := own.some
    have nav : ¬ av q := fun z => p.rel.dom q (.inl z) new
    have hq0 : H q = none := by
      cases e0 : H q with
      | none => rfl
      | some o => exact absurd new (p.st.dm q (by rw [e0]; simp))
    refine hQ [q] _ ga' _ ⟨?_, .fr (own.keep (Kp.sub fun a z => ?_) rfl) (fun z => nomatch z) .nil, fun x hx => ?_, p.st.trans (Stp.grow ext)⟩
    · have g := p.rel.grow (fs := [q]) ext (fun x hx => by rw [List.mem_singleton.mp hx]; exact ⟨new, hq2⟩)
      exact g.sub fun a z => z.elim (fun y => .inl (.inl y)) fun y => .inr y
    · rcases z with (z | z) | z
      · exact .inl (.inl (.inl z))
      · exact .inr (List.mem_singleton.mp z)
      · exact .inl (.inr z)
    · rw [List.mem_singleton.mp hx]; exact ⟨hq0, nav⟩
/-- the state as it is, no result -/
theorem Pst.start (r : Rel K fa av ga σ H s) : Pst K fa av ga σ H s ga H s [] [] [] := ⟨by rw [avU_nil]; exact r, .nil, (fun _ h => nomatch h), Stp.refl⟩
theorem Pst.val {v : V} {d : D} (r : Rel K fa av ga σ H s) (h : ∀ A, Rep K fa A ga H v d) : Pst K fa av ga σ H s ga H s [] [v] [.fz d] := ⟨by rw [avU_nil]; exact r, .fz (h _) .nil, (fun _ h => nomatch h), Stp.refl⟩
theorem Pst.peek {v : V} {i : Nat} (r : Rel K fa av ga σ H s) (h : σ[i]? = some (some v)) : Pst K fa av ga σ H s ga H s [] [v] [.pk i] := ⟨by rw [avU_nil]; exact r, .pk h .nil, (fun _ h => nomatch h), Stp.refl⟩
end

/-! ### readings -/
theorem PE_imp {X : Cx} {e : Expr} {t t' : TE} (p : PE X e t) (h : ∀ σ H Q, t' σ H Q → t σ H Q) : PE X e t' := ⟨fun pins s σ H Q I q => p.run pins s σ H Q I (h σ H Q q)⟩
theorem PT_imp {X : Cx} {e : Expr} {t t' : TT} (p : PT X e t) (h : ∀ σ H Q, t' σ H Q → t σ H Q) : PT X e t' := ⟨fun pins s σ H Q I q => p.run pins s σ H Q I (h σ H Q q)⟩
theorem PW_imp {X : Cx} {e : Expr} {t t' : TT} (p : PW X e t) (h : ∀ σ H Q, t' σ H Q → t σ H Q) : PW X e t' := ⟨fun w pins s σ H Q I q => p.run w pins s σ H Q I (h σ H Q q)⟩
theorem PA_imp {X : Cx} {es : List Expr} {t t' : TA} (p : PA X es t) (h : ∀ σ H Q, t' σ H Q → t σ H Q) : PA X es t' := ⟨fun pos pins s σ H Q I q => p.run pos pins s σ H Q I (h σ H Q q)⟩
theorem PS_imp {X : Cx} {st : Stmt} {t t' : TS} (p : PS X st t) (h : ∀ D σ H, t' D σ H → t D σ H) : PS X st t' := ⟨fun pins s σ H D I q => p.run pins s σ H D I (h D σ H q)⟩
theorem PSs_imp {X : Cx} {st : List Stmt} {t t' : TS} (p : PSs X st t) (h : ∀ D σ H, t' D σ H → t D σ H) : PSs X st t' := ⟨fun pins s σ H D I q => p.run pins s σ H D I (h D σ H q)⟩

def eVar (i : Nat) : Ev R := fun s => match s.env[i]? with
  | some (.fz _) => some (.ok (.pk i) s)
  | some (.ow _) => some (.ok (.pk i) s)
  | _ => none
def eVal (d : D) : Ev R := fun s => some (.ok (.fz d) s)
/-- an operation on two values -/
def eOp2 (f : List D → Option R) (a b : Ev R) : Ev R := fun s => bd (a s) fun r1 s1 => bd (b s1) fun r2 s2 => match nowL [r1, r2] s2 with
  | none => none
  | some ds => lif (f ds) s2
def eOp1 (f : List D → Option R) (a : Ev R) : Ev R := fun s => bd (a s) fun r1 s1 => match nowL [r1] s1 with
  | none => none
  | some ds => lif (f ds) s1
def eOpL (f : List D → Option R) (a : Ev (List R)) : Ev R := fun s => bd (a s) fun rs s1 => match nowL rs s1 with
  | none => none
  | some ds => lif (f ds) s1
def aNil : Ev (List R) := fun s => some (.ok [] s)
def aCons (a : Ev R) (b : Ev (List R)) : Ev (List R) := fun s => bd (a s) fun r s1 => bd (b s1) fun rs s2 => some (.ok (r :: rs) s2)

section
variable {X : Cx} {fa ca : Nat → Addr} {E : XK} {m a b : Ev R} {ms : Ev (List R)} {e x y : Expr} {es : List Expr} {pos : Pos}
theorem xVar (i : Nat) {n : Str} (hN : X.N[i]? = some n := by rfl) (hv : Vis X.env.scope n := by first | exact Or.inl rfl | exact Or.inr (Or.inl rfl) | exact Or.inr (Or.inr rfl)) (hd : (n == ("__debug__" : Str)) = false := by decide)
    (hcd : (n == ("__classdict__" : Str)) = false := by decide) : PE X (.Name n pos) (rdE X.K fa ca E (eVar i)) :=
  PE_imp (pe_var hN hv hd hcd) fun σ H Q ⟨av, ga, s, rel, h⟩ => by
    unfold eVar at h
    split at h
    · rename_i d hi
      obtain ⟨v, h1, _⟩ := rel.fz i d hi
      exact ⟨v, h1, h [] v ga H (.peek rel h1)⟩
    · rename_i d hi
      obtain ⟨p, h1, _⟩ := rel.ow i d hi
      exact ⟨_, h1, h [] _ ga H (.peek rel h1)⟩
    · exact h.elim
theorem xVal {v : V} {d : D} (p : PE X e (tC v)) (h : ∀ A ga H, Rep X.K fa A ga H v d) : PE X e (rdE X.K fa ca E (eVal d)) :=
  PE_imp p fun σ H Q ⟨av, ga, s, rel, q⟩ => q [] v ga H (.val rel fun A => h A ga H)
theorem xInt {i : Int} {j : Nat} : PE X (.Constant (.int i) j pos) (rdE X.K fa ca E (eVal (.int i))) := xVal pe_int fun _ _ _ => .int i
theorem xBl {i : Bool} {j : Nat} : PE X (.Constant (.bool i) j pos) (rdE X.K fa ca E (eVal (.bl i))) := xVal pe_bl fun _ _ _ => .bl i
theorem xNon {j : Nat} : PE X (.Constant .none j pos) (rdE X.K fa ca E (eVal .non)) := xVal pe_non fun _ _ _ => .non
theorem xStr {x : Str} {j : Nat} : PE X (.Constant (.str x) j pos) (rdE X.K fa ca E (eVal (.str x))) := xVal pe_str fun _ _ _ => .str x
/-- two values in a row, then an operation -/
theorem xOp2' {f : List D → Option R} {r : R2} (ok : OpOk X.K fa f (fun vs H Q => ∃ x y, vs = [x, y] ∧ r x y H Q)) {σ : L2.St} {H : Hp} {Q : VK} (h : rdE X.K fa ca E (eOp2 f a b) σ H Q) : tOp r (rdE X.K fa ca E a) (rdE X.K fa ca E b) σ H Q := by
  obtain ⟨av, ga, s, rel, h⟩ := h
  refine ⟨av, ga, s, rel, aft_mono (aft_bd h) (fun r1 s1 h1 fs v ga1 H1 p1 => ?_) fun _ _ z => z⟩
  refine ⟨_, ga1, s1, p1.rel, aft_mono (aft_bd h1) (fun r2 s2 h2 gs w ga2 H2 p2 => ?_) fun _ _ z => z.sub p1.st fun _ y => .inl y⟩
  have p := p1.then p2
  split at h2
  · exact h2.elim
  · rename_i ds e
    obtain ⟨res, hf, h2⟩ := aft_lif h2
    obtain ⟨_, _, e1, q⟩ := p.op ok e hf h2
    cases e1
    exact q
theorem xBin {op : Operator} {f : List D → Option R} {r : R2} (ho : OpR X (binaryOp op) r) (ok : OpOk X.K fa f (fun vs H Q => ∃ x y, vs = [x, y] ∧ r x y H Q)) (ha : PE X x (rdE X.K fa ca E a)) (hb : PE X y (rdE X.K fa ca E b)) :
    PE X (.BinOp x op y pos) (rdE X.K fa ca E (eOp2 f a b)) := PE_imp (pe_op ho ha hb) fun _ _ _ => xOp2' ok
theorem xCmp {op : CmpOp} {f : List D → Option R} {r : R2} (ho : OpR X (compareOp op) r) (ok : OpOk X.K fa f (fun vs H Q => ∃ x y, vs = [x, y] ∧ r x y H Q)) (ha : PE X x (rdE X.K fa ca E a)) (hb : PE X y (rdE X.K fa ca E b))
    (hm : behindInMarks op y = false) : PE X (.Compare x [op] [y] pos) (rdE X.K fa ca E (eOp2 f a b)) := PE_imp (pe_cmpR ho ha hb hm) fun _ _ _ => xOp2' ok
theorem xUn {op : UnaryOp} {f : List D → Option R} {r : V → Hp → VK → Prop} (ho : UnR X (unaryOp op) r) (ok : OpOk X.K fa f (fun vs H Q => ∃ x, vs = [x] ∧ r x H Q)) (ha : PE X x (rdE X.K fa ca E a)) :
    PE X (.UnaryOp op x pos) (rdE X.K fa ca E (eOp1 f a)) := PE_imp (pe_un ho ha) fun σ H Q h => by
  obtain ⟨av, ga, s, rel, h⟩ := h
  refine ⟨av, ga, s, rel, aft_mono (aft_bd h) (fun r1 s1 h1 fs v ga1 H1 p1 => ?_) fun _ _ z => z⟩
  split at h1
  · exact h1.elim
  · rename_i ds e
    obtain ⟨res, hf, h2⟩ := aft_lif h1
    obtain ⟨_, e1, q⟩ := p1.op ok e hf h2
    cases e1
    exact q
theorem xaNil : PA X [] (rdA X.K fa ca E aNil) := PA_imp pa_nil fun σ H Q ⟨av, ga, s, rel, h⟩ => h [] [] ga H (.start rel)
def notStar : Expr → Bool
  | .Starred .. => false
  | _ => true
theorem star_of {e : Expr} {es : List Expr} {env : Env} (h : notStar e = true) : starEach (e :: es) env = (false, eval e env) :: starEach es env := by
  cases e <;> first | rfl | cases h
theorem xaCons (ha : PE X e (rdE X.K fa ca E a)) (hb : PA X es (rdA X.K fa ca E ms)) (h : notStar e = true := by rfl) : PA X (e :: es) (rdA X.K fa ca E (aCons a ms)) := PA_imp (pa_cons ha hb (star_of h)) fun σ H Q h => by
  obtain ⟨av, ga, s, rel, h⟩ := h
  refine ⟨av, ga, s, rel, aft_mono (aft_bd h) (fun r1 s1 h1 fs v ga1 H1 p1 => ?_) fun _ _ z => z⟩
  refine ⟨_, ga1, s1, p1.rel, aft_mono (aft_bd h1) (fun r2 s2 h2 gs w ga2 H2 p2 => ?_) fun _ _ z => z.sub p1.st fun _ y => .inl y⟩
  exact h2 _ _ _ _ (p1.then p2)
theorem noStars : ∀ {es : List Expr} {env : Env} {pos : Pos}, es.all notStar = true → (backTo pos (starEach es env)).any (·.1) = false
  | [], _, _, _ => rfl
  | e :: es, env, pos, h => by
    rw [List.all_cons, Bool.and_eq_true] at h
    rw [star_of h.1]
    exact noStars (es := es) h.2
end
end Ev
end
section
set_option Elab.async false
set_option linter.all false
set_option maxRecDepth 100000
set_option maxHeartbeats 2000000
/-! Ev4: operators and built-ins on plain values. -/
namespace Ev
open PySem PySem.Spec PyProof.Rows L2

def szL : Nat := 16777216
theorem szL_eq : sizeLine = szL := sizeLine_eq
section
variable {X : Cx} {K : PySem.W.Frag} {fa ca : Nat → Addr} {A : Addr → Prop} {ga : Nat → Option Addr} {H : Hp}
/-- shapes -/
theorem RepW.int' {v : V} {i : Int} (h : RepW K fa A ga H v (.int i)) : v = .int i := by cases h; rfl
theorem RepW.bl' {v : V} {i : Bool} (h : RepW K fa A ga H v (.bl i)) : v = .bl i := by cases h; rfl
theorem RepW.str' {v : V} {i : Str} (h : RepW K fa A ga H v (.str i)) : v = .str i := by cases h; rfl
theorem RepW.non' {v : V} (h : RepW K fa A ga H v .non) : v = .non := by cases h; rfl
theorem RepW.lst' {v : V} {ds : List D} (h : RepW K fa A ga H v (.lst ds)) : ∃ a xs, v = .ref a ∧ H a = some (.lst xs) ∧ RepL K fa A ga H xs ds := by
  cases h with
  | lst h r => exact ⟨_, _, rfl, h, r⟩
theorem RepW.tup' {v : V} {ds : List D} (h : RepW K fa A ga H v (.tup ds)) : ∃ a xs, v = .ref a ∧ (¬ A a ∧ H a = some (.tup xs)) ∧ RepL K fa A ga H xs ds := by
  cases h with
  | tup n h r => exact ⟨_, _, rfl, ⟨n, h⟩, r⟩
/-- a new list, a new tuple -/
theorem NewR.list {p : Addr} {vs : List V} {ds : List D} (hA : ∀ a, A a → H a ≠ none) (hp : H p = none) (r : RepL K fa A ga H vs ds) : NewR K fa A ga H (.ref p) (.fr (.lst ds)) (upd H p (.lst vs)) := by
  have ext : ∀ a o, H a = some o → upd H p (.lst vs) a = some o := fun a o h => by rw [upd_ne (ne_of_none h hp)]; exact h
  refine .fr ext hp ⟨vs, upd_same, RepL.keep ⟨fun a u _ _ _ q => q.elim (fun z => .inl (ext _ _ z)) fun ⟨o, z⟩ => .inr ⟨o, ext _ _ z⟩, fun a xs _ q => ext _ _ q, fun a xs _ q => ext _ _ q, fun a z => ?_, fun _ _ e => e⟩ r⟩
  exact z.elim .inl fun y => .inr (by rw [y]; exact hp)
theorem NewR.tuple {p : Addr} {vs : List V} {ds : List D} (hA : ∀ a, A a → H a ≠ none) (hp : H p = none) (r : RepL K fa A ga H vs ds) : NewR K fa A ga H (.ref p) (.fz (.tup ds)) (upd H p (.tup vs)) := by
  have ext : ∀ a o, H a = some o → upd H p (.tup vs) a = some o := fun a o h => by rw [upd_ne (ne_of_none h hp)]; exact h
  refine .fz ext (.tup (fun z => hA p z hp) upd_same (RepL.keep ⟨fun a u _ _ _ q => q.elim (fun z => .inl (ext _ _ z)) fun ⟨o, z⟩ => .inr ⟨o, ext _ _ z⟩, fun a xs _ q => ext _ _ q, fun a xs _ q => ext _ _ q, fun a z => .inl z, fun _ _ e => e⟩ r))
theorem NewR.same {v : V} {d : D} (r : Rep K fa A ga H v d) : NewR K fa A ga H v (.fz d) H := .fz (fun _ _ h => h) r

/-! ### + - * // % ** -/
def dAdd : List D → Option R
  | [.int i, .int j] => some (.fz (.int (i + j)))
  | [.lst xs, .lst ys] => if xs.length + ys.length ≤ szL then some (.fr (.lst (xs ++ ys))) else none
  | [.tup xs, .tup ys] => match xs, ys with
    | [], ys => some (.fz (.tup ys))
    | xs, [] => if xs.length ≤ szL then some (.fz (.tup xs)) else none
    | xs, ys => if xs.length + ys.length ≤ szL then some (.fz (.tup (xs ++ ys))) else none
  | [.str x, .str y] => if x.length + y.length ≤ szL then some (.fz (.str (x ++ y))) else none
  | _ => none
/-- () + t -/
def rCat0 (K : PySem.W.Frag) : R2 := fun x y H Q => ∃ a b ys, x = .ref a ∧ y = .ref b ∧ SqT K H a [] ∧ SqT K H b ys ∧ Q (.ref b) H
theorem op_cat0 : OpR X (binaryOp .Add) (rCat0 X.K) := by
  intro pins s σ H x y v u Q I rx ry h
  obtain ⟨a, b, ys, rfl, rfl, ha, hb, q⟩ := h
  cases rx
  cases ry
  obtain ⟨its, r1, ⟨⟨cls, dd, data, sl⟩, ho, hc, n, hd⟩, _⟩ := I.tuple ha
  obtain ⟨its2, r2, ⟨⟨cls2, dd2, data2, sl2⟩, ho2, hc2, n2, hd2⟩, _⟩ := I.tuple hb
  simp only at hc hd hc2 hd2
  subst hc hd hc2 hd2
  have e0 : its = [] := r1.nil_iff.mpr rfl
  exact concat_meets ⟨_, ho, rfl⟩ ⟨_, ho2, rfl⟩ noFill_tuple_add seq_tuple_add PySem.F.slot_tuple_add PySem.F.entry_tuple_add (PySem.F.args_tuple_add_2 _ _)
      (tuple_addW0 a b its.toArray its2.toArray n n2 dd dd2 sl sl2 (by simp [e0])) ⟨ho, ho2, .ref b, H, I, rfl, q⟩
def rAdd' (K : PySem.W.Frag) : R2 := fun x y H Q => rI0 (fun i j => .int (i + j)) x y H Q ∨ rCat x y H Q ∨ rCatT K x y H Q ∨ rCat0 K x y H Q ∨ (∃ i j, x = .str i ∧ y = .str j ∧ i.length + j.length ≤ sizeLine ∧ Q (.str (i ++ j)) H)
theorem op_add' : OpR X (binaryOp .Add) (rAdd' X.K) := op_add.or (op_cat.or (op_catT.or (op_cat0.or op_add_str)))
theorem ok_add : OpOk K fa dAdd (fun vs H Q => ∃ x y, vs = [x, y] ∧ rAdd' K x y H Q) := by
  intro A ga H vs ds res Q hA hp hf hQ
  unfold dAdd at hf
  split at hf
  · cases hp with | cons h1 hp => cases hp with | cons h2 hp => cases hp; cases hf; cases h1.int'; cases h2.int'; exact ⟨_, _, rfl, .inl ⟨_, _, rfl, rfl, hQ _ _ (.same (.int _))⟩⟩
  · rename_i xs ys
    cases hp with | cons h1 hp => cases hp with | cons h2 hp =>
      cases hp
      split at hf
      · rename_i hz
        cases hf
        obtain ⟨a, us, rfl, e1, r1⟩ := h1.lst'
        obtain ⟨b, ws, rfl, e2, r2⟩ := h2.lst'
        exact ⟨_, _, rfl, .inr (.inl ⟨a, b, us, ws, rfl, rfl, e1, e2, by rw [r1.length, r2.length, szL_eq]; exact hz, fun p hp => hQ _ _ (.list hA hp (r1.append r2))⟩)⟩
      · cases hf
  · rename_i xs ys
    cases hp with | cons h1 hp => cases hp with | cons h2 hp =>
      cases hp
      obtain ⟨a, us, rfl, e1, r1⟩ := h1.tup'
      obtain ⟨b, ws, rfl, e2, r2⟩ := h2.tup'
      split at hf
      · rename_i ys
        cases hf
        cases r1
        exact ⟨_, _, rfl, .inr (.inr (.inr (.inl ⟨a, b, ws, rfl, rfl, SqT.of e1.2, SqT.of e2.2, hQ _ _ (.same (.tup e2.1 e2.2 r2))⟩)))⟩
      · rename_i xs hx
        split at hf
        · rename_i hz
          cases hf
          have hl := r1.length
          cases r2
          have hx' : us ≠ [] := fun z => hx (by cases r1; rfl; cases z)
          exact ⟨_, _, rfl, .inr (.inr (.inl ⟨a, b, us, [], rfl, rfl, SqT.of e1.2, SqT.of e2.2, hx', by rw [szL_eq]; simpa [hl] using hz, fun _ => hQ _ _ (.same (.tup e1.1 e1.2 r1)), fun z => (z rfl).elim⟩))⟩
        · cases hf
      · rename_i xs ys hx hy
        split at hf
        · rename_i hz
          cases hf
          have hx' : us ≠ [] := fun z => hx (by cases r1; rfl; cases z)
          have hy' : ws ≠ [] := fun z => hy (by cases r2; rfl; cases z)
          exact ⟨_, _, rfl, .inr (.inr (.inl ⟨a, b, us, ws, rfl, rfl, SqT.of e1.2, SqT.of e2.2, hx', by rw [r1.length, r2.length, szL_eq]; exact hz, fun z => (hy' z).elim, fun _ p hp => hQ _ _ (.tuple hA hp (r1.append r2))⟩))⟩
        · cases hf
  · cases hp with | cons h1 hp => cases hp with | cons h2 hp =>
      cases hp
      split at hf
      · rename_i hz
        cases hf
        cases h1.str'
        cases h2.str'
        exact ⟨_, _, rfl, .inr (.inr (.inr (.inr ⟨_, _, rfl, rfl, by rw [szL_eq]; exact hz, hQ _ _ (.same (.str _))⟩)))⟩
      · cases hf
  · cases hf

/-- two ints -/
theorem ok_ii {f : List D → Option R} {r : R2} {g : Int → Int → Option R} (hf : ∀ ds res, f ds = some res → ∃ i j, ds = [.int i, .int j] ∧ g i j = some res)
    (hr : ∀ (i j : Int) (H : Hp) (Q : VK) (res : R), g i j = some res → (∃ d, res = .fz d ∧ ((∃ k, d = .int k ∧ (Q (.int k) H → r (.int i) (.int j) H Q)) ∨ (∃ k, d = .bl k ∧ (Q (.bl k) H → r (.int i) (.int j) H Q))))) :
    OpOk K fa f (fun vs H Q => ∃ x y, vs = [x, y] ∧ r x y H Q) := by
  intro A ga H vs ds res Q hA hp h hQ
  obtain ⟨i, j, rfl, hg⟩ := hf ds res h
  cases hp with | cons h1 hp => cases hp with | cons h2 hp =>
    cases hp
    cases h1.int'
    cases h2.int'
    obtain ⟨d, e, h'⟩ := hr i j H Q res hg
    clear h
    subst e
    rcases h' with ⟨k, rfl, h⟩ | ⟨k, rfl, h⟩
    · exact ⟨_, _, rfl, h (hQ _ _ (.same (.int _)))⟩
    · exact ⟨_, _, rfl, h (hQ _ _ (.same (.bl _)))⟩
def dII (g : Int → Int → Option R) : List D → Option R
  | [.int i, .int j] => g i j
  | _ => none
theorem dII_inv {g : Int → Int → Option R} (ds : List D) (res : R) (h : dII g ds = some res) : ∃ i j, ds = [.int i, .int j] ∧ g i j = some res := by
  unfold dII at h
  split at h
  · exact ⟨_, _, rfl, h⟩
  · cases h
def dSub := dII fun i j => some (.fz (.int (i - j)))
def dFdiv := dII fun i j => if j ≠ 0 ∧ j.natAbs < 1073741824 then some (.fz (.int (i.fdiv j))) else none
def dMod := dII fun i j => if j ≠ 0 then some (.fz (.int (i.fmod j))) else none
def dPow := dII fun i j => if 0 ≤ j ∧ j ≤ 1000000 ∧ i.natAbs < 2 ^ 64 then some (.fz (.int (i ^ j.toNat))) else none
def dXor := dII fun i j => some (.fz (.int (Builtin.bitXor i j)))
def dLt := dII fun i j => some (.fz (.bl (decide (i < j))))
def dLe := dII fun i j => some (.fz (.bl (decide (i ≤ j))))
def dGt := dII fun i j => some (.fz (.bl (decide (j < i))))
def dGe := dII fun i j => some (.fz (.bl (decide (j ≤ i))))
theorem ok_sub : OpOk K fa dSub (fun vs H Q => ∃ x y, vs = [x, y] ∧ rI0 (fun i j => .int (i - j)) x y H Q) := ok_ii dII_inv fun i j H Q res h => by
  cases h; exact ⟨_, rfl, .inl ⟨_, rfl, fun q => ⟨_, _, rfl, rfl, q⟩⟩⟩
theorem ok_xor : OpOk K fa dXor (fun vs H Q => ∃ x y, vs = [x, y] ∧ rI0 (fun i j => .int (Builtin.bitXor i j)) x y H Q) := ok_ii dII_inv fun i j H Q res h => by
  cases h; exact ⟨_, rfl, .inl ⟨_, rfl, fun q => ⟨_, _, rfl, rfl, q⟩⟩⟩
theorem ok_fdiv : OpOk K fa dFdiv (fun vs H Q => ∃ x y, vs = [x, y] ∧ rI CDivN (fun i j => .int (i.fdiv j)) x y H Q) := ok_ii dII_inv fun i j H Q res h => by
  split at h
  · rename_i c; cases h; exact ⟨_, rfl, .inl ⟨_, rfl, fun q => ⟨_, _, rfl, rfl, c, q⟩⟩⟩
  · cases h
theorem ok_mod : OpOk K fa dMod (fun vs H Q => ∃ x y, vs = [x, y] ∧ rI (fun _ j => j ≠ 0) (fun i j => .int (i.fmod j)) x y H Q) := ok_ii dII_inv fun i j H Q res h => by
  split at h
  · rename_i c; cases h; exact ⟨_, rfl, .inl ⟨_, rfl, fun q => ⟨_, _, rfl, rfl, c, q⟩⟩⟩
  · cases h
theorem ok_pow : OpOk K fa dPow (fun vs H Q => ∃ x y, vs = [x, y] ∧ rI CPow (fun i j => .int (i ^ j.toNat)) x y H Q) := ok_ii dII_inv fun i j H Q res h => by
  split at h
  · rename_i c; cases h; exact ⟨_, rfl, .inl ⟨_, rfl, fun q => ⟨_, _, rfl, rfl, c, q⟩⟩⟩
  · cases h
theorem ok_lt : OpOk K fa dLt (fun vs H Q => ∃ x y, vs = [x, y] ∧ rI0 (fun i j => .bl (decide (i < j))) x y H Q) := ok_ii dII_inv fun i j H Q res h => by
  cases h; exact ⟨_, rfl, .inr ⟨_, rfl, fun q => ⟨_, _, rfl, rfl, q⟩⟩⟩
theorem ok_le : OpOk K fa dLe (fun vs H Q => ∃ x y, vs = [x, y] ∧ rI0 (fun i j => .bl (decide (i ≤ j))) x y H Q) := ok_ii dII_inv fun i j H Q res h => by
  cases h; exact ⟨_, rfl, .inr ⟨_, rfl, fun q => ⟨_, _, rfl, rfl, q⟩⟩⟩
theorem ok_gt : OpOk K fa dGt (fun vs H Q => ∃ x y, vs = [x, y] ∧ rI0 (fun i j => .bl (decide (j < i))) x y H Q) := ok_ii dII_inv fun i j H Q res h => by
  cases h; exact ⟨_, rfl, .inr ⟨_, rfl, fun q => ⟨_, _, rfl, rfl, q⟩⟩⟩
theorem ok_ge : OpOk K fa dGe (fun vs H Q => ∃ x y, vs = [x, y] ∧ rI0 (fun i j => .bl (decide (j ≤ i))) x y H Q) := ok_ii dII_inv fun i j H Q res h => by
  cases h; exact ⟨_, rfl, .inr ⟨_, rfl, fun q => ⟨_, _, rfl, rfl, q⟩⟩⟩
def smI (i : Int) : Bool := decide (-(2 ^ 64) < i) && decide (i < 2 ^ 64)
theorem smI_ok {i : Int} (h : smI i = true) : -(2 ^ 64) < i ∧ i < 2 ^ 64 := by
  unfold smI at h
  rw [Bool.and_eq_true] at h
  exact ⟨of_decide_eq_true h.1, of_decide_eq_true h.2⟩
def dMul : List D → Option R
  | [.int i, .int j] => if smI i || smI j then some (.fz (.int (i * j))) else none
  | [.lst xs, .int k] => if smI k && decide (-(2 ^ 63) ≤ k) && decide (k < 2 ^ 63) && decide (xs.length * k.toNat ≤ szL) then some (.fr (.lst (List.replicate k.toNat xs).flatten)) else none
  | _ => none
def rMul' : R2 := fun x y H Q => rI CMul (fun i j => .int (i * j)) x y H Q ∨ rRep x y H Q
theorem op_mul' : OpR X (binaryOp .Mult) rMul' := op_mul.or op_rep
theorem ok_mul : OpOk K fa dMul (fun vs H Q => ∃ x y, vs = [x, y] ∧ rMul' x y H Q) := by
  intro A ga H vs ds res Q hA hp hf hQ
  unfold dMul at hf
  split at hf
  · cases hp with | cons h1 hp => cases hp with | cons h2 hp =>
      cases hp
      cases h1.int'
      cases h2.int'
      split at hf
      · rename_i c
        cases hf
        refine ⟨_, _, rfl, .inl ⟨_, _, rfl, rfl, ?_, hQ _ _ (.same (.int _))⟩⟩
        rw [Bool.or_eq_true] at c
        exact c.elim (fun z => .inl (smI_ok z)) fun z => .inr (smI_ok z)
      · cases hf
  · cases hp with | cons h1 hp => cases hp with | cons h2 hp =>
      cases hp
      cases h2.int'
      obtain ⟨a, us, rfl, e1, r1⟩ := h1.lst'
      split at hf
      · rename_i c
        cases hf
        simp only [Bool.and_eq_true, decide_eq_true_eq] at c
        exact ⟨_, _, rfl, .inr ⟨a, _, us, rfl, rfl, e1, c.1.1.2, c.1.2, by rw [r1.length, szL_eq]; exact c.2, fun p hp => hQ _ _ (.list hA hp (r1.flatRep _))⟩⟩
      · cases hf
  · cases hf
def dNeg : List D → Option R
  | [.int i] => some (.fz (.int (-i)))
  | _ => none
theorem ok_neg : OpOk K fa dNeg (fun vs H Q => ∃ x, vs = [x] ∧ rU (fun i => .int (-i)) x H Q) := by
  intro A ga H vs ds res Q hA hp hf hQ
  unfold dNeg at hf
  split at hf
  · cases hf
    cases hp with | cons h1 hp => cases hp; cases h1.int'; exact ⟨_, rfl, _, rfl, hQ _ _ (.same (.int _))⟩
  · cases hf
/-! ### is None -/
def isNonD : D → Bool
  | .non => true
  | _ => false
def dIsN : List D → Option R
  | [d, .non] => some (.fz (.bl (isNonD d)))
  | _ => none
def dNotN : List D → Option R
  | [d, .non] => some (.fz (.bl (!isNonD d)))
  | _ => none
theorem RepW.isN {v : V} {d : D} (h : RepW K fa A ga H v d) : decide (v = .non) = isNonD d := by
  cases h <;> simp [isNonD]
theorem ok_isN : OpOk K fa dIsN (fun vs H Q => ∃ x y, vs = [x, y] ∧ (y = .non ∧ Q (.bl (decide (x = .non))) H)) := by
  intro A ga H vs ds res Q hA hp hf hQ
  unfold dIsN at hf
  split at hf
  · cases hf
    cases hp with | cons h1 hp => cases hp with | cons h2 hp => cases hp; cases h2.non'; exact ⟨_, _, rfl, rfl, by rw [h1.isN]; exact hQ _ _ (.same (.bl _))⟩
  · cases hf
theorem ok_notN : OpOk K fa dNotN (fun vs H Q => ∃ x y, vs = [x, y] ∧ (y = .non ∧ Q (.bl (!decide (x = .non))) H)) := by
  intro A ga H vs ds res Q hA hp hf hQ
  unfold dNotN at hf
  split at hf
  · rename_i d
    cases hf
    cases hp with | cons h1 hp => cases hp with | cons h2 hp =>
      cases hp
      cases h2.non'
      refine ⟨_, _, rfl, rfl, ?_⟩
      rw [h1.isN]
      exact hQ _ _ (.same (.bl _))
  · cases hf
/-! ### built-ins of one or two values -/
def dAbs : List D → Option R
  | [.int i] => some (.fz (.int (if i < 0 then -i else i)))
  | _ => none
theorem ok_abs : OpOk K fa dAbs (fun xs H Q => ∃ i, xs = [.int i] ∧ Q (.int (if i < 0 then -i else i)) H) := by
  intro A ga H vs ds res Q hA hp hf hQ
  unfold dAbs at hf
  split at hf
  · cases hf
    cases hp with | cons h1 hp => cases hp; cases h1.int'; exact ⟨_, rfl, hQ _ _ (.same (.int _))⟩
  · cases hf
def dInt : List D → Option R
  | [.int i] => some (.fz (.int i))
  | [.bl k] => some (.fz (.int (if k then 1 else 0)))
  | _ => none
theorem ok_int : OpOk K fa dInt (fun xs H Q => (∃ i, xs = [.int i] ∧ Q (.int i) H) ∨ ∃ k, xs = [.bl k] ∧ Q (.int (if k then 1 else 0)) H) := by
  intro A ga H vs ds res Q hA hp hf hQ
  unfold dInt at hf
  split at hf
  · cases hf
    cases hp with | cons h1 hp => cases hp; cases h1.int'; exact .inl ⟨_, rfl, hQ _ _ (.same (.int _))⟩
  · cases hf
    cases hp with | cons h1 hp => cases hp; cases h1.bl'; exact .inr ⟨_, rfl, hQ _ _ (.same (.int _))⟩
  · cases hf
def dMax2 := dII fun i j => some (.fz (.int (if j > i then j else i)))
def dMin2 := dII fun i j => some (.fz (.int (if j < i then j else i)))
theorem ok_max2 : OpOk K fa dMax2 (fun xs H Q => ∃ i j, xs = [.int i, .int j] ∧ Q (.int (if j > i then j else i)) H) := by
  intro A ga H vs ds res Q hA hp hf hQ
  obtain ⟨i, j, rfl, hg⟩ := dII_inv ds res hf
  cases hg
  cases hp with | cons h1 hp => cases hp with | cons h2 hp => cases hp; cases h1.int'; cases h2.int'; exact ⟨_, _, rfl, hQ _ _ (.same (.int _))⟩
theorem ok_min2 : OpOk K fa dMin2 (fun xs H Q => ∃ i j, xs = [.int i, .int j] ∧ Q (.int (if j < i then j else i)) H) := by
  intro A ga H vs ds res Q hA hp hf hQ
  obtain ⟨i, j, rfl, hg⟩ := dII_inv ds res hf
  cases hg
  cases hp with | cons h1 hp => cases hp with | cons h2 hp => cases hp; cases h1.int'; cases h2.int'; exact ⟨_, _, rfl, hQ _ _ (.same (.int _))⟩
def dGcd := dII fun i j => some (.fz (.int ((Nat.gcd i.natAbs j.natAbs : Nat) : Int)))
theorem ok_gcd : OpOk K fa dGcd rGcd := by
  intro A ga H vs ds res Q hA hp hf hQ
  obtain ⟨i, j, rfl, hg⟩ := dII_inv ds res hf
  cases hg
  cases hp with | cons h1 hp => cases hp with | cons h2 hp => cases hp; cases h1.int'; cases h2.int'; exact ⟨_, _, rfl, hQ _ _ (.same (.int _))⟩
/-- len of a list, a tuple, a text -/
def dLen : List D → Option R
  | [.lst xs] => some (.fz (.int xs.length))
  | [.tup xs] => some (.fz (.int xs.length))
  | [.str x] => if x.length ≤ szL then some (.fz (.int x.length)) else none
  | [.ktup xs] => some (.fz (.int xs.length))
  | _ => none
theorem ok_len : OpOk K fa dLen (fun xs H Q => ∃ x n, xs = [x] ∧ LenV K x H n ∧ Q (.int n) H) := by
  intro A ga H vs ds res Q hA hp hf hQ
  unfold dLen at hf
  split at hf
  · cases hf
    cases hp with | cons h1 hp =>
      cases hp
      obtain ⟨a, us, rfl, e1, r1⟩ := h1.lst'
      exact ⟨_, _, rfl, .inl ⟨us, .inl (.inl e1), rfl⟩, by rw [r1.length]; exact hQ _ _ (.same (.int _))⟩
  · cases hf
    cases hp with | cons h1 hp =>
      cases hp
      obtain ⟨a, us, rfl, e1, r1⟩ := h1.tup'
      exact ⟨_, _, rfl, .inr ⟨us, SqT.of e1.2, rfl⟩, by rw [r1.length]; exact hQ _ _ (.same (.int _))⟩
  · split at hf
    · rename_i hz
      cases hf
      cases hp with | cons h1 hp => cases hp; cases h1.str'; exact ⟨_, _, rfl, ⟨by rw [szL_eq]; exact hz, rfl⟩, hQ _ _ (.same (.int _))⟩
    · cases hf
  · cases hf
    cases hp with | cons h1 hp =>
      cases hp
      cases h1 with
      | ktup n q e r1 => exact ⟨_, _, rfl, .inr ⟨_, .inl (.inr ⟨_, q⟩), rfl⟩, by rw [r1.length]; exact hQ _ _ (.same (.int _))⟩
  · cases hf
def dList : List D → Option R
  | [.lst xs] => some (.fr (.lst xs))
  | [.tup xs] => some (.fr (.lst xs))
  | _ => none
theorem ok_list : OpOk K fa dList (fun xs H Q => ∃ p ys, xs = [.ref p] ∧ (SqL K H p ys ∨ SqT K H p ys) ∧ ∀ l, H l = none → Q (.ref l) (upd H l (.lst ys))) := by
  intro A ga H vs ds res Q hA hp hf hQ
  unfold dList at hf
  split at hf
  · cases hf
    cases hp with | cons h1 hp =>
      cases hp
      obtain ⟨a, us, rfl, e1, r1⟩ := h1.lst'
      exact ⟨_, _, rfl, .inl (.inl (.inl e1)), fun p hp => hQ _ _ (.list hA hp r1)⟩
  · cases hf
    cases hp with | cons h1 hp =>
      cases hp
      obtain ⟨a, us, rfl, e1, r1⟩ := h1.tup'
      exact ⟨_, _, rfl, .inr (SqT.of e1.2), fun p hp => hQ _ _ (.list hA hp r1)⟩
  · cases hf
def dTuple : List D → Option R
  | [.lst xs] => some (.fz (.tup xs))
  | [.tup xs] => some (.fz (.tup xs))
  | _ => none
theorem ok_tuple : OpOk K fa dTuple (fun xs H Q => ∃ p ys, xs = [.ref p] ∧ ((SqL K H p ys ∧ ∀ l, H l = none → Q (.ref l) (upd H l (.tup ys))) ∨ (SqT K H p ys ∧ Q (.ref p) H))) := by
  intro A ga H vs ds res Q hA hp hf hQ
  unfold dTuple at hf
  split at hf
  · cases hf
    cases hp with | cons h1 hp =>
      cases hp
      obtain ⟨a, us, rfl, e1, r1⟩ := h1.lst'
      exact ⟨_, _, rfl, .inl ⟨.inl (.inl e1), fun p hp => hQ _ _ (.tuple hA hp r1)⟩⟩
  · cases hf
    cases hp with | cons h1 hp =>
      cases hp
      obtain ⟨a, us, rfl, e1, r1⟩ := h1.tup'
      exact ⟨_, _, rfl, .inr ⟨SqT.of e1.2, hQ _ _ (.same (.tup e1.1 e1.2 r1))⟩⟩
  · cases hf
/-- a list of ints, of bools -/
def asInts : List D → Option (List Int)
  | [] => some []
  | .int i :: r => match asInts r with
    | none => none
    | some is => some (i :: is)
  | _ => none
def asBls : List D → Option (List Bool)
  | [] => some []
  | .bl i :: r => match asBls r with
    | none => none
    | some is => some (i :: is)
  | _ => none
theorem asInts_ok : ∀ {ds : List D} {ns : List Int}, asInts ds = some ns → ds = ns.map D.int
  | [], ns, h => by cases h; rfl
  | .int i :: r, ns, h => by
    unfold asInts at h
    split at h
    · cases h
    · rename_i is e2
      cases h
      rw [asInts_ok e2]; rfl
  | .non :: r, ns, h => nomatch h
  | .bl _ :: r, ns, h => nomatch h
  | .str _ :: r, ns, h => nomatch h
  | .tup _ :: r, ns, h => nomatch h
  | .lst _ :: r, ns, h => nomatch h
  | .dK _ _ :: r, ns, h => nomatch h
  | .dT _ _ :: r, ns, h => nomatch h
  | .fn _ :: r, ns, h => nomatch h
  | .gref _ :: r, ns, h => nomatch h
  | .ktup _ :: r, ns, h => nomatch h
theorem asBls_ok : ∀ {ds : List D} {ns : List Bool}, asBls ds = some ns → ds = ns.map D.bl
  | [], ns, h => by cases h; rfl
  | .bl i :: r, ns, h => by
    unfold asBls at h
    split at h
    · cases h
    · rename_i is e2
      cases h
      rw [asBls_ok e2]; rfl
  | .non :: r, ns, h => nomatch h
  | .int _ :: r, ns, h => nomatch h
  | .str _ :: r, ns, h => nomatch h
  | .tup _ :: r, ns, h => nomatch h
  | .lst _ :: r, ns, h => nomatch h
  | .dK _ _ :: r, ns, h => nomatch h
  | .dT _ _ :: r, ns, h => nomatch h
  | .fn _ :: r, ns, h => nomatch h
  | .gref _ :: r, ns, h => nomatch h
  | .ktup _ :: r, ns, h => nomatch h
theorem RepL.toInts : ∀ {vs : List V} {ns : List Int}, RepL K fa A ga H vs (ns.map D.int) → vs = ns.map V.int
  | vs, [], h => by cases h; rfl
  | vs, n :: ns, h => by
    cases h with
    | cons h1 h2 => cases h1; rw [RepL.toInts h2]; rfl
theorem RepL.toBls : ∀ {vs : List V} {ns : List Bool}, RepL K fa A ga H vs (ns.map D.bl) → vs = ns.map V.bl
  | vs, [], h => by cases h; rfl
  | vs, n :: ns, h => by
    cases h with
    | cons h1 h2 => cases h1; rw [RepL.toBls h2]; rfl
def dOfInts (g : List Int → Option R) : List D → Option R
  | [.lst xs] => match asInts xs with
    | none => none
    | some ns => g ns
  | _ => none
theorem dOfInts_ok {g : List Int → Option R} {r : List V → Hp → VK → Prop} (hr : ∀ (A : Addr → Prop) (ga : Nat → Option Addr) (H : Hp) (a : Addr) (ns : List Int) (res : R) (Q : VK), (∀ a, A a → H a ≠ none) → H a = some (.lst (ns.map V.int)) → g ns = some res → (∀ v H', NewR K fa A ga H v res H' → Q v H') → r [.ref a] H Q) :
    OpOk K fa (dOfInts g) r := by
  intro A ga H vs ds res Q hA hp hf hQ
  unfold dOfInts at hf
  split at hf
  · split at hf
    · cases hf
    · rename_i ns e
      cases hp with | cons h1 hp =>
        cases hp
        obtain ⟨a, us, rfl, e1, r1⟩ := h1.lst'
        rw [asInts_ok e] at r1
        rw [r1.toInts] at e1
        exact hr A ga H a ns res Q hA e1 hf hQ
  · cases hf
def dSum := dOfInts fun ns => some (.fz (.int ns.sum))
theorem ok_sum : OpOk K fa dSum (rSum K) := dOfInts_ok fun A ga H a ns res Q hA h hg hQ => by
  cases hg; exact ⟨a, ns, rfl, .inl (.inl h), hQ _ _ (.same (.int _))⟩
def minI : List Int → Int
  | [] => 0
  | [x] => x
  | x :: r => min x (minI r)
def maxI : List Int → Int
  | [] => 0
  | [x] => x
  | x :: r => max x (maxI r)
theorem minI_ok : ∀ {ns : List Int} {m : Int}, m ∈ ns → (∀ y, y ∈ ns → m ≤ y) → m = minI ns
  | [x], m, h, _ => by rw [List.mem_singleton.mp h]; rfl
  | x :: y :: r, m, h, hl => by
    have ih : ∀ (n : Int), n ∈ y :: r → (∀ z, z ∈ y :: r → n ≤ z) → n = minI (y :: r) := fun n => minI_ok
    have hx := hl x List.mem_cons_self
    have mem : ∀ (l : List Int), l ≠ [] → minI l ∈ l ∧ ∀ z ∈ l, minI l ≤ z := by
      intro l
      induction l with
      | nil => intro h; exact (h rfl).elim
      | cons a t iht =>
        intro _
        cases t with
        | nil => exact ⟨List.mem_cons_self, fun z hz => by rw [List.mem_singleton.mp hz]; exact Int.le_refl _⟩
        | cons b t =>
          obtain ⟨i1, i2⟩ := iht (by simp)
          have e : minI (a :: b :: t) = min a (minI (b :: t)) := rfl
          rw [e]
          refine ⟨?_, fun z hz => ?_⟩
          · by_cases c : a ≤ minI (b :: t)
            · rw [Int.min_eq_left c]; exact List.mem_cons_self
            · rw [Int.min_eq_right (by omega)]; exact List.mem_cons_of_mem _ i1
          · rcases List.mem_cons.mp hz with rfl | hz
            · exact Int.min_le_left _ _
            · exact Int.le_trans (Int.min_le_right _ _) (i2 z hz)
    obtain ⟨i1, i2⟩ := mem (x :: y :: r) (by simp)
    exact Int.le_antisymm (hl _ i1) (i2 _ h)
theorem maxI_ok : ∀ {ns : List Int} {m : Int}, m ∈ ns → (∀ y, y ∈ ns → y ≤ m) → m = maxI ns := by
  intro ns m h hl
  have mem : ∀ (l : List Int), l ≠ [] → maxI l ∈ l ∧ ∀ z ∈ l, z ≤ maxI l := by
    intro l
    induction l with
    | nil => intro h; exact (h rfl).elim
    | cons a t iht =>
      intro _
      cases t with
      | nil => exact ⟨List.mem_cons_self, fun z hz => by rw [List.mem_singleton.mp hz]; exact Int.le_refl _⟩
      | cons b t =>
        obtain ⟨i1, i2⟩ := iht (by simp)
        have e : maxI (a :: b :: t) = max a (maxI (b :: t)) := rfl
        rw [e]
        refine ⟨?_, fun z hz => ?_⟩
        · by_cases c : maxI (b :: t) ≤ a
          · rw [Int.max_eq_left c]; exact List.mem_cons_self
          · rw [Int.max_eq_right (by omega)]; exact List.mem_cons_of_mem _ i1
        · rcases List.mem_cons.mp hz with rfl | hz
          · exact Int.le_max_left _ _
          · exact Int.le_trans (i2 z hz) (Int.le_max_right _ _)
  obtain ⟨i1, i2⟩ := mem ns (by intro z; rw [z] at h; cases h)
  exact Int.le_antisymm (i2 _ h) (hl _ i1)
def dMinI := dOfInts fun ns => if 0 < ns.length then some (.fz (.int (minI ns))) else none
def dMaxI := dOfInts fun ns => if 0 < ns.length then some (.fz (.int (maxI ns))) else none
theorem ok_minI : OpOk K fa dMinI (rMin K) := dOfInts_ok fun A ga H a ns res Q hA h hg hQ => by
  split at hg
  · rename_i c
    cases hg
    exact ⟨a, ns, rfl, .inl (.inl h), c, fun m h1 h2 => by rw [minI_ok h1 h2]; exact hQ _ _ (.same (.int _))⟩
  · cases hg
theorem ok_maxI : OpOk K fa dMaxI (rMax K) := dOfInts_ok fun A ga H a ns res Q hA h hg hQ => by
  split at hg
  · rename_i c
    cases hg
    exact ⟨a, ns, rfl, .inl (.inl h), c, fun m h1 h2 => by rw [maxI_ok h1 h2]; exact hQ _ _ (.same (.int _))⟩
  · cases hg
def insI (x : Int) : List Int → List Int
  | [] => [x]
  | y :: r => if x ≤ y then x :: y :: r else y :: insI x r
def sortI : List Int → List Int
  | [] => []
  | x :: r => insI x (sortI r)
theorem insI_perm (x : Int) : ∀ l : List Int, (insI x l).Perm (x :: l)
  | [] => List.Perm.refl _
  | y :: r => by
    unfold insI
    split
    · exact List.Perm.refl _
    · exact ((insI_perm x r).cons y).trans (List.Perm.swap x y r)
theorem sortI_perm : ∀ l : List Int, (sortI l).Perm l
  | [] => List.Perm.refl _
  | x :: r => (insI_perm x _).trans ((sortI_perm r).cons x)
theorem insI_sorted (x : Int) : ∀ {l : List Int}, l.Pairwise (· ≤ ·) → (insI x l).Pairwise (· ≤ ·)
  | [], _ => List.pairwise_singleton _ _
  | y :: r, h => by
    unfold insI
    obtain ⟨h1, h2⟩ := List.pairwise_cons.mp h
    split
    · rename_i c
      refine List.pairwise_cons.mpr ⟨fun z hz => ?_, h⟩
      rcases List.mem_cons.mp hz with rfl | hz
      · exact c
      · exact Int.le_trans c (h1 z hz)
    · rename_i c
      refine List.pairwise_cons.mpr ⟨fun z hz => ?_, insI_sorted x h2⟩
      rcases List.mem_cons.mp ((insI_perm x r).mem_iff.mp hz) with rfl | hz
      · omega
      · exact h1 z hz
theorem sortI_sorted : ∀ l : List Int, (sortI l).Pairwise (· ≤ ·)
  | [] => List.Pairwise.nil
  | x :: r => insI_sorted x (sortI_sorted r)
theorem sorted_uniq : ∀ {a b : List Int}, a.Perm b → a.Pairwise (· ≤ ·) → b.Pairwise (· ≤ ·) → a = b
  | [], b, p, _, _ => (List.nil_perm.mp p).symm
  | x :: a, [], p, _, _ => (List.perm_nil.mp p)
  | x :: a, y :: b, p, h1, h2 => by
    obtain ⟨a1, a2⟩ := List.pairwise_cons.mp h1
    obtain ⟨b1, b2⟩ := List.pairwise_cons.mp h2
    have hx : x ≤ y := by
      rcases List.mem_cons.mp (p.mem_iff.mpr (List.mem_cons_self : y ∈ y :: b)) with e | e
      · omega
      · exact a1 y e
    have hy : y ≤ x := by
      rcases List.mem_cons.mp (p.mem_iff.mp (List.mem_cons_self : x ∈ x :: a)) with e | e
      · omega
      · exact b1 x e
    have e : x = y := Int.le_antisymm hx hy
    subst e
    rw [sorted_uniq (List.Perm.cons_inv p) a2 b2]
theorem sortI_ok {ns ns' : List Int} (p : ns'.Perm ns) (h : ns'.Pairwise (· ≤ ·)) : ns' = sortI ns := sorted_uniq (p.trans (sortI_perm ns).symm) h (sortI_sorted ns)
def dSortI := dOfInts fun ns => some (.fr (.lst ((sortI ns).map D.int)))
theorem ok_sortI : OpOk K fa dSortI (rSortedI K) := dOfInts_ok fun A ga H a ns res Q hA h hg hQ => by
  cases hg
  exact ⟨a, ns, rfl, .inl (.inl h), fun ns' p h1 h2 hp => by rw [sortI_ok h1 h2]; exact hQ _ _ (.list hA hp (RepL.ints _))⟩
def dOfBls (g : List Bool → Bool) : List D → Option R
  | [.lst xs] => match asBls xs with
    | none => none
    | some ns => some (.fz (.bl (g ns)))
  | _ => none
theorem dOfBls_ok {g : List Bool → Bool} {r : List V → Hp → VK → Prop} (hr : ∀ (H : Hp) (a : Addr) (ns : List Bool) (Q : VK), H a = some (.lst (ns.map V.bl)) → Q (.bl (g ns)) H → r [.ref a] H Q) : OpOk K fa (dOfBls g) r := by
  intro A ga H vs ds res Q hA hp hf hQ
  unfold dOfBls at hf
  split at hf
  · split at hf
    · cases hf
    · rename_i ns e
      cases hf
      cases hp with | cons h1 hp =>
        cases hp
        obtain ⟨a, us, rfl, e1, r1⟩ := h1.lst'
        rw [asBls_ok e] at r1
        rw [r1.toBls] at e1
        exact hr H a ns Q e1 (hQ _ _ (.same (.bl _)))
  · cases hf
def dAll := dOfBls fun bs => bs.all id
def dAny := dOfBls fun bs => bs.any id
theorem ok_all : OpOk K fa dAll (rAll K) := dOfBls_ok fun H a ns Q h q => ⟨a, ns, rfl, .inl (.inl h), q⟩
theorem ok_any : OpOk K fa dAny (rAny K) := dOfBls_ok fun H a ns Q h q => ⟨a, ns, rfl, .inl (.inl h), q⟩
/-! ### subscripts, slices -/
def atD (xs : List D) (i : Int) : Option D := if 0 ≤ i then xs[i.toNat]? else if -(xs.length : Int) ≤ i then xs[(i + xs.length).toNat]? else none
def dIx : List D → Option R
  | [.lst xs, .int i] => match atD xs i with
    | none => none
    | some d => some (.fz d)
  | [.tup xs, .int i] => match atD xs i with
    | none => none
    | some d => some (.fz d)
  | [.ktup xs, .int i] => match atD xs i with
    | none => none
    | some d => some (.fz d)
  | _ => none
theorem atD_ok {vs : List V} {ds : List D} {i : Int} {d : D} (r : RepL K fa A ga H vs ds) (h : atD ds i = some d) : ∃ v, atI vs i = some v ∧ Rep K fa A ga H v d := by
  have hl := r.length
  unfold atD at h
  split at h
  · rename_i c
    obtain ⟨v, h1, h2⟩ := r.get h
    have hlt : i.toNat < vs.length := (List.getElem?_eq_some_iff.mp h1).1
    refine ⟨v, ?_, h2⟩
    unfold atI ixN
    rw [if_pos c, if_pos (by omega)]
    exact h1
  · rename_i c
    split at h
    · rename_i c2
      obtain ⟨v, h1, h2⟩ := r.get h
      refine ⟨v, ?_, h2⟩
      unfold atI ixN
      rw [if_neg c, if_pos (by omega)]
      rw [hl]
      exact h1
    · cases h
theorem ok_ix : OpOk K fa dIx (fun vs H Q => ∃ x y, vs = [x, y] ∧ rIx K x y H Q) := by
  intro A ga H vs ds res Q hA hp hf hQ
  unfold dIx at hf
  split at hf
  · split at hf
    · cases hf
    · rename_i d e
      cases hf
      cases hp with | cons h1 hp => cases hp with | cons h2 hp =>
        cases hp
        cases h2.int'
        obtain ⟨a, us, rfl, e1, r1⟩ := h1.lst'
        obtain ⟨v, q1, q2⟩ := atD_ok r1 e
        exact ⟨_, _, rfl, .inl ⟨a, us, _, v, rfl, rfl, .inl (.inl e1), q1, hQ _ _ (.same q2)⟩⟩
  · split at hf
    · cases hf
    · rename_i d e
      cases hf
      cases hp with | cons h1 hp => cases hp with | cons h2 hp =>
        cases hp
        cases h2.int'
        obtain ⟨a, us, rfl, e1, r1⟩ := h1.tup'
        obtain ⟨v, q1, q2⟩ := atD_ok r1 e
        exact ⟨_, _, rfl, .inr (.inl ⟨a, us, _, v, rfl, rfl, SqT.of e1.2, q1, hQ _ _ (.same q2)⟩)⟩
  · split at hf
    · cases hf
    · rename_i d e
      cases hf
      cases hp with | cons h1 hp => cases hp with | cons h2 hp =>
        cases hp
        cases h2.int'
        cases h1 with
        | @ktup a _ us _ n q _ r1 =>
          obtain ⟨v, q1, q2⟩ := atD_ok r1 e
          exact ⟨_, _, rfl, .inr (.inl ⟨a, us, _, v, rfl, rfl, .inl (.inr ⟨_, q⟩), q1, hQ _ _ (.same q2)⟩)⟩
  · cases hf
end
end Ev
end
section
set_option Elab.async false
set_option linter.all false
set_option maxRecDepth 100000
set_option maxHeartbeats 2000000
/-! Ev5: ==, in, dicts read; tests; displays; built-ins called. -/
namespace Ev
open PySem PySem.Spec PyProof.Rows L2

mutual
def toPy : D → PyData
  | .non => .none
  | .bl b => .bool b
  | .int i => .int i
  | .str x => .str x
  | .tup xs => .tuple (toPyL xs)
  | .lst xs => .list (toPyL xs)
  | .ktup xs => .tuple (toPyL xs)
  | _ => .none
def toPyL : List D → List PyData
  | [] => []
  | x :: xs => toPy x :: toPyL xs
end
mutual
def isPl : D → Bool
  | .non => true
  | .bl _ => true
  | .int _ => true
  | .str _ => true
  | .tup xs => isPlL xs
  | .lst xs => isPlL xs
  | .ktup xs => isPlL xs
  | _ => false
def isPlL : List D → Bool
  | [] => true
  | x :: xs => isPl x && isPlL xs
end
section
variable {K : PySem.W.Frag} {fa : Nat → Addr} {A : Addr → Prop} {ga : Nat → Option Addr} {H : Hp}
theorem Rep.dp {v : V} {d : D} (h : Rep K fa A ga H v d) : isPl d = true → Dp K H v (toPy d) := by
  induction h using Rep.rec (motive_2 := fun vs ds _ => isPlL ds = true → DpAll K H vs (toPyL ds)) with
  | non => intro _; exact .non
  | bl b => intro _; exact .bl b
  | int i => intro _; exact .int i
  | str x => intro _; exact .str x
  | lst n h r ih => intro p; exact .lst (.inl (.inl h)) (ih p)
  | tup n h r ih => intro p; exact .tup (.inl (.inl h)) (ih p)
  | dK => intro p; cases p
  | dT => intro p; cases p
  | fn => intro p; cases p
  | gref => intro p; cases p
  | ktup n h e r ih => intro p; exact .tup (.inl (.inr ⟨_, h⟩)) (ih p)
  | nil => exact .nil
  | cons h r i1 i2 =>
    rename_i p
    have p' := Bool.and_eq_true_iff.mp p
    exact .cons (i1 p'.1) (i2 p'.2)
theorem RepL.dp : ∀ {vs : List V} {ds : List D}, RepL K fa A ga H vs ds → isPlL ds = true → DpAll K H vs (toPyL ds)
  | [], _, h, _ => by cases h; exact .nil
  | v :: vs, _, h, p => by
    cases h with
    | cons h r =>
      have p' := Bool.and_eq_true_iff.mp p
      exact .cons (h.dp p'.1) (RepL.dp r p'.2)
theorem RepW.dp {v : V} {d : D} (h : RepW K fa A ga H v d) (p : isPl d = true) : Dp K H v (toPy d) := by
  cases h with
  | non => exact .non
  | bl b => exact .bl b
  | int i => exact .int i
  | str x => exact .str x
  | lst h r => exact .lst (.inl (.inl h)) (r.dp p)
  | tup n h r => exact .tup (.inl (.inl h)) (r.dp p)
  | dK => cases p
  | dT => cases p
  | fn => cases p
  | gref => cases p
  | ktup n h e r => exact .tup (.inl (.inr ⟨_, h⟩)) (r.dp p)
mutual
theorem plain_toPy : ∀ d : D, (toPy d).plain = true
  | .non => rfl
  | .bl b => rfl
  | .int i => rfl
  | .str x => rfl
  | .tup xs => by simp only [toPy, PyData.plain]; exact plainAll_toPy xs
  | .lst xs => by simp only [toPy, PyData.plain]; exact plainAll_toPy xs
  | .dK _ _ => rfl
  | .dT _ _ => rfl
  | .fn _ => rfl
  | .gref _ => rfl
  | .ktup xs => by simp only [toPy, PyData.plain]; exact plainAll_toPy xs
theorem plainAll_toPy : ∀ ds : List D, PyData.plainAll (toPyL ds) = true
  | [] => rfl
  | d :: ds => by simp only [toPyL, PyData.plainAll, plain_toPy d, plainAll_toPy ds]; rfl
end
/-- ==, by plain data -/
def eqv (d e : D) : Bool := PyData.eqv (toPy d) (toPy e)
def eqD (d e : D) : Option Bool := match d, e with
  | .int i, .int j => some (decide (i = j))
  | d, e => if isPl d && (isPl e && decide ((toPy e).depth ≤ 60)) then some (eqv d e) else none
theorem eqD_ok {d e : D} {b : Bool} (h : eqD d e = some b) : isPl d = true ∧ isPl e = true ∧ (toPy e).depth ≤ 60 ∧ b = eqv d e := by
  unfold eqD at h
  split at h
  · rename_i i j
    cases h
    refine ⟨rfl, rfl, Nat.zero_le _, ?_⟩
    unfold eqv
    simp only [toPy, PyData.eqv]
    exact (Bool.beq_eq_decide_eq i j).symm
  · split at h
    · rename_i c
      simp only [Bool.and_eq_true, decide_eq_true_eq] at c
      cases h
      exact ⟨c.1, c.2.1, c.2.2, rfl⟩
    · cases h
def dEq : List D → Option R
  | [d, e] => match eqD d e with
    | none => none
    | some b => some (.fz (.bl b))
  | _ => none
def dNe : List D → Option R
  | [d, e] => match eqD d e with
    | none => none
    | some b => some (.fz (.bl (!b)))
  | _ => none
def rEqP (K : PySem.W.Frag) : R2 := fun x y H Q => ∃ d e, Dp K H x d ∧ Dp K H y e ∧ d.plain = true ∧ e.plain = true ∧ e.depth ≤ 60 ∧ Q (.bl (PyData.eqv d e)) H
def rNeP (K : PySem.W.Frag) : R2 := fun x y H Q => ∃ d e, Dp K H x d ∧ Dp K H y e ∧ d.plain = true ∧ e.plain = true ∧ e.depth ≤ 60 ∧ Q (.bl (!PyData.eqv d e)) H
theorem op_eqP {X : Cx} (hu : X.A.units + 64 < cLine) : OpR X (compareOp .Eq) (rEqP X.K) := by
  intro pins s σ H x y v u Q I rx ry h
  obtain ⟨d, e, hd, he, sd, se, hz, q⟩ := h
  obtain ⟨as, r1⟩ := Dp.reads I d x v hd rx
  obtain ⟨bs, r2⟩ := Dp.reads I e y u he ry
  exact SeqAt.eq_plain r1 r2 sd se (by omega) ⟨.bl _, H, I, rfl, q⟩
theorem op_neP {X : Cx} (hu : X.A.units + 64 < cLine) : OpR X (compareOp .NotEq) (rNeP X.K) := by
  intro pins s σ H x y v u Q I rx ry h
  obtain ⟨d, e, hd, he, sd, se, hz, q⟩ := h
  obtain ⟨as, r1⟩ := Dp.reads I d x v hd rx
  obtain ⟨bs, r2⟩ := Dp.reads I e y u he ry
  exact SeqAt.ne_plain r1 r2 sd se (by omega) ⟨.bl _, H, I, rfl, q⟩
theorem ok_eq : OpOk K fa dEq (fun vs H Q => ∃ x y, vs = [x, y] ∧ rEqP K x y H Q) := by
  intro A ga H vs ds res Q hA hp hf hQ
  unfold dEq at hf
  split at hf
  · split at hf
    · cases hf
    · rename_i b e
      cases hf
      obtain ⟨p1, p2, p3, rfl⟩ := eqD_ok e
      cases hp with | cons h1 hp => cases hp with | cons h2 hp => cases hp; exact ⟨_, _, rfl, _, _, h1.dp p1, h2.dp p2, plain_toPy _, plain_toPy _, p3, hQ _ _ (.same (.bl _))⟩
  · cases hf
theorem ok_ne : OpOk K fa dNe (fun vs H Q => ∃ x y, vs = [x, y] ∧ rNeP K x y H Q) := by
  intro A ga H vs ds res Q hA hp hf hQ
  unfold dNe at hf
  split at hf
  · split at hf
    · cases hf
    · rename_i b e
      cases hf
      obtain ⟨p1, p2, p3, rfl⟩ := eqD_ok e
      cases hp with | cons h1 hp => cases hp with | cons h2 hp => cases hp; exact ⟨_, _, rfl, _, _, h1.dp p1, h2.dp p2, plain_toPy _, plain_toPy _, p3, hQ _ _ (.same (.bl _))⟩
  · cases hf

/-! ### in -/
/-- whether one of the items is equal -/
def anyEq (x : D) : List D → Bool
  | [] => false
  | y :: r => (match y, x with
    | .int i, .int j => decide (i = j)
    | y, x => eqv y x) || anyEq x r
theorem anyEq_ok (x : D) : ∀ ds : List D, anyEq x ds = (toPyL ds).any fun z => PyData.eqv z (toPy x)
  | [] => rfl
  | y :: r => by
    simp only [anyEq, toPyL, List.any_cons, anyEq_ok x r]
    congr 1
    split
    · rename_i i j
      simp only [toPy, PyData.eqv]
      exact (Bool.beq_eq_decide_eq i j).symm
    · rfl
def keyD : D → Option Key
  | .int i => some (.inl i)
  | .str x => some (.inr x)
  | _ => none
def keysD : List D → Option (List Key)
  | [] => some []
  | d :: r => match keyD d with
    | none => none
    | some k => match keysD r with
      | none => none
      | some ks => some (k :: ks)
theorem keyD_ok {d : D} {k : Key} {v : V} (h : keyD d = some k) (r : RepW K fa A ga H v d) : v = kV k := by
  cases d <;> first | cases h
  · cases r; rfl
  · cases r; rfl
theorem keysD_ok : ∀ {ds : List D} {ks : List Key} {vs : List V}, keysD ds = some ks → RepL K fa A ga H vs ds → vs = ks.map kV
  | [], ks, vs, h, r => by cases h; cases r; rfl
  | d :: ds, ks, vs, h, r => by
    unfold keysD at h
    split at h
    · cases h
    · rename_i k e
      split at h
      · cases h
      · rename_i ks' e2
        cases h
        cases r with
        | cons h1 h2 => rw [keyD_ok e h1.weak, keysD_ok e2 h2]; rfl
def lookD {κ : Type} [DecidableEq κ] (k : κ) : List κ → List D → Option D
  | k' :: ks, v :: vs => if k' = k then some v else lookD k ks vs
  | _, _ => none
theorem lookD_ok {κ : Type} [DecidableEq κ] (k : κ) : ∀ {kvs : List (κ × V)} {ds : List D}, RepL K fa A ga H (kvs.map (·.2)) ds → (∃ v d, valV kvs k = some v ∧ lookD k (kvs.map (·.1)) ds = some d ∧ Rep K fa A ga H v d) ∨ (valV kvs k = none ∧ lookD k (kvs.map (·.1)) ds = none)
  | [], ds, r => by cases r; exact .inr ⟨rfl, rfl⟩
  | p :: kvs, ds, r => by
    cases r with
    | cons h r =>
      by_cases e : p.1 = k
      · refine .inl ⟨_, _, valV_pos e, ?_, h⟩
        simp only [List.map_cons, lookD, if_pos e]
      · rw [valV_neg e]
        simp only [List.map_cons, lookD, if_neg e]
        exact lookD_ok k r
def dIn (neg : Bool) : List D → Option R
  | [x, .lst xs] => if isPl x && (isPlL xs && decide ((toPy x).depth ≤ 60)) then some (.fz (.bl (neg ^^ anyEq x xs))) else none
  | [x, .tup xs] => if isPl x && (isPlL xs && decide ((toPy x).depth ≤ 60)) then some (.fz (.bl (neg ^^ anyEq x xs))) else none
  | [x, .dK ks vs] => match keyD x with
    | none => none
    | some k => some (.fz (.bl (neg ^^ (lookD k ks vs).isSome)))
  | [.tup xs, .dT ks vs] => match keysD xs with
    | none => none
    | some k => some (.fz (.bl (neg ^^ (lookD k ks vs).isSome)))
  | _ => none
def rInP (K : PySem.W.Frag) (neg : Bool) : R2 := fun x y H Q => (∃ d ds, Dp K H x d ∧ Dp K H y (.list ds) ∧ d.plain = true ∧ PyData.plainAll ds = true ∧ d.depth ≤ 60 ∧ Q (.bl (neg ^^ ds.any fun z => PyData.eqv z d)) H) ∨
  (∃ d ds, Dp K H x d ∧ Dp K H y (.tuple ds) ∧ d.plain = true ∧ PyData.plainAll ds = true ∧ d.depth ≤ 60 ∧ Q (.bl (neg ^^ ds.any fun z => PyData.eqv z d)) H) ∨ ∃ a o, y = .ref a ∧ DGet H a x o ∧ Q (.bl (neg ^^ o.isSome)) H
theorem op_inP {X : Cx} (hu : X.A.units + 64 < cLine) : OpR X (compareOp .In) (rInP X.K false) := by
  intro pins s σ H x y v u Q I rx ry h
  rcases h with ⟨d, ds, hd, he, sd, se, hz, q⟩ | ⟨d, ds, hd, he, sd, se, hz, q⟩ | ⟨a, o, rfl, g, q⟩
  · obtain ⟨as, r1⟩ := Dp.reads I d x v hd rx
    obtain ⟨bs, r2⟩ := Dp.reads I _ y u he ry
    exact SeqAt.in_list_data r2 r1 se sd (by omega) ⟨.bl _, H, I, rfl, by rw [Bool.false_xor] at q; exact q⟩
  · obtain ⟨as, r1⟩ := Dp.reads I d x v hd rx
    obtain ⟨bs, r2⟩ := Dp.reads I _ y u he ry
    exact SeqAt.in_tuple_data r2 r1 se sd (by omega) ⟨.bl _, H, I, rfl, by rw [Bool.false_xor] at q; exact q⟩
  · cases ry
    exact d_in (by omega) I g rx fun s3 I3 => ⟨.bl _, H, I3, rfl, by rw [Bool.false_xor] at q; exact q⟩
theorem op_ninP {X : Cx} (hu : X.A.units + 64 < cLine) : OpR X (compareOp .NotIn) (rInP X.K true) := by
  intro pins s σ H x y v u Q I rx ry h
  rcases h with ⟨d, ds, hd, he, sd, se, hz, q⟩ | ⟨d, ds, hd, he, sd, se, hz, q⟩ | ⟨a, o, rfl, g, q⟩
  · obtain ⟨as, r1⟩ := Dp.reads I d x v hd rx
    obtain ⟨bs, r2⟩ := Dp.reads I _ y u he ry
    exact SeqAt.notIn_list_data r2 r1 se sd (by omega) ⟨.bl _, H, I, rfl, by rw [Bool.true_xor] at q; exact q⟩
  · obtain ⟨as, r1⟩ := Dp.reads I d x v hd rx
    obtain ⟨bs, r2⟩ := Dp.reads I _ y u he ry
    exact SeqAt.notIn_tuple_data r2 r1 se sd (by omega) ⟨.bl _, H, I, rfl, by rw [Bool.true_xor] at q; exact q⟩
  · cases ry
    exact d_notIn (by omega) I g rx fun s3 I3 => ⟨.bl _, H, I3, rfl, by rw [Bool.true_xor] at q; exact q⟩
theorem dg_k {a : Addr} {kvs : List (Key × V)} {k : Key} (e : Rd H a (.dK kvs)) : DGet H a (kV k) (valV kvs k) := .inl ⟨kvs, k, e, rfl, rfl⟩
theorem dg_t {a b : Addr} {kvs : List (List Key × V)} {k : List Key} (e : Rd H a (.dT kvs)) (eb : H b = some (.tup (k.map kV))) : DGet H a (.ref b) (valV kvs k) := .inr ⟨kvs, k, b, e, rfl, eb, rfl⟩
theorem ok_in {neg : Bool} : OpOk K fa (dIn neg) (fun vs H Q => ∃ x y, vs = [x, y] ∧ rInP K neg x y H Q) := by
  intro A ga H vs ds res Q hA hp hf hQ
  unfold dIn at hf
  split at hf
  · split at hf
    · rename_i x xs c
      simp only [Bool.and_eq_true, decide_eq_true_eq] at c
      cases hf
      cases hp with | cons h1 hp => cases hp with | cons h2 hp =>
        cases hp
        refine ⟨_, _, rfl, .inl ⟨_, toPyL xs, h1.dp c.1, h2.dp (d := .lst xs) c.2.1, plain_toPy _, plainAll_toPy _, c.2.2, ?_⟩⟩
        rw [← anyEq_ok]
        exact hQ _ _ (.same (.bl _))
    · cases hf
  · split at hf
    · rename_i x xs c
      simp only [Bool.and_eq_true, decide_eq_true_eq] at c
      cases hf
      cases hp with | cons h1 hp => cases hp with | cons h2 hp =>
        cases hp
        refine ⟨_, _, rfl, .inr (.inl ⟨_, toPyL xs, h1.dp c.1, h2.dp (d := .tup xs) c.2.1, plain_toPy _, plainAll_toPy _, c.2.2, ?_⟩)⟩
        rw [← anyEq_ok]
        exact hQ _ _ (.same (.bl _))
    · cases hf
  · split at hf
    · cases hf
    · rename_i x ks ws k e
      cases hf
      cases hp with | cons h1 hp => cases hp with | cons h2 hp =>
        cases hp
        cases keyD_ok e h1
        cases h2 with
        | @dK a kvs _ _ rd ek r =>
          subst ek
          refine ⟨_, _, rfl, .inr (.inr ⟨a, _, rfl, dg_k rd, ?_⟩)⟩
          rcases lookD_ok k r with ⟨v, d, e1, e2, _⟩ | ⟨e1, e2⟩
          · rw [e1]; rw [e2] at hQ; exact hQ _ _ (.same (.bl _))
          · rw [e1]; rw [e2] at hQ; exact hQ _ _ (.same (.bl _))
  · split at hf
    · cases hf
    · rename_i xs ks ws k e
      cases hf
      cases hp with | cons h1 hp => cases hp with | cons h2 hp =>
        cases hp
        obtain ⟨b, us, rfl, ⟨_, e1⟩, r1⟩ := h1.tup'
        have e2 := keysD_ok e r1
        subst e2
        cases h2 with
        | @dT a kvs _ _ rd ek r =>
          subst ek
          refine ⟨_, _, rfl, .inr (.inr ⟨a, _, rfl, dg_t rd e1, ?_⟩)⟩
          rcases lookD_ok k r with ⟨v, d, e1, e2, _⟩ | ⟨e1, e2⟩
          · rw [e1]; rw [e2] at hQ; exact hQ _ _ (.same (.bl _))
          · rw [e1]; rw [e2] at hQ; exact hQ _ _ (.same (.bl _))
  · cases hf

/-! ### subscripts: lists, tuples, dicts -/
def dSub_ : List D → Option R
  | [.dK ks vs, x] => match keyD x with
    | none => none
    | some k => match lookD k ks vs with
      | none => none
      | some d => some (.fz d)
  | [.dT ks vs, .tup xs] => match keysD xs with
    | none => none
    | some k => match lookD k ks vs with
      | none => none
      | some d => some (.fz d)
  | ds => dIx ds
def rIxD : R2 := fun x y H Q => ∃ a v, x = .ref a ∧ DGet H a y (some v) ∧ Q v H
theorem ix_dict {X : Cx} (hu : X.A.units + 1 < cLine) : IxR X rIxD := by
  intro value slice pins s σ H x y v u Q I rx ry ⟨a, w, ex, g, q⟩ hs
  subst ex
  obtain rfl : v = Value.ref a := rx
  have hT := dict_typeIs I g
  unfold subscriptTail
  refine wpAny_bind ?_
  rw [getitemInPython_of_ne hT.not_modules]
  refine wpAny_bind (wpAny_specialOf hT PySem.F.slot_dict_getitem.lookup ?_)
  have fin : wpAny (model X.prog X.w) X.A (subscripted slice false (.ref a) u) (fun r s₃ => wpAny (model X.prog X.w) X.A (letTemporaryGo value (.ref a) r >>= fun _ => pure r) (EP X pins σ Q) X.xe s₃) X.xe s := by
    rw [hs]
    exact wpAny_operating (d_getItem hu I g ry fun w' s3 I3 rw' => wpAny_bind (wpAny_letTemporaryGo (wpAny_pure ⟨w, H, I3, rw', q⟩)))
  first
    | exact wpAny_pure (wpAny_bind fin)
    | exact wpAny_bind (wpAny_pure (wpAny_bind fin))
    | exact wpAny_bind fin
theorem ok_sub_ : OpOk K fa dSub_ (fun vs H Q => ∃ x y, vs = [x, y] ∧ (rIx K x y H Q ∨ rIxD x y H Q)) := by
  intro A ga H vs ds res Q hA hp hf hQ
  unfold dSub_ at hf
  split at hf
  · split at hf
    · cases hf
    · rename_i ks ws x k e
      split at hf
      · cases hf
      · rename_i d e2
        cases hf
        cases hp with | cons h1 hp => cases hp with | cons h2 hp =>
          cases hp
          cases keyD_ok e h2
          cases h1 with
          | @dK a kvs _ _ rd ek r =>
            subst ek
            rcases lookD_ok k r with ⟨v, d', q1, q2, q3⟩ | ⟨q1, q2⟩
            · rw [e2] at q2; cases q2
              exact ⟨_, _, rfl, .inr ⟨a, v, rfl, by rw [← q1]; exact dg_k rd, hQ _ _ (.same q3)⟩⟩
            · rw [e2] at q2; cases q2
  · split at hf
    · cases hf
    · rename_i ks ws xs k e
      split at hf
      · cases hf
      · rename_i d e2
        cases hf
        cases hp with | cons h1 hp => cases hp with | cons h2 hp =>
          cases hp
          obtain ⟨b, us, rfl, ⟨_, e1⟩, r1⟩ := h2.tup'
          have e3 := keysD_ok e r1
          subst e3
          cases h1 with
          | @dT a kvs _ _ rd ek r =>
            subst ek
            rcases lookD_ok k r with ⟨v, d', q1, q2, q3⟩ | ⟨q1, q2⟩
            · rw [e2] at q2; cases q2
              exact ⟨_, _, rfl, .inr ⟨a, v, rfl, by rw [← q1]; exact dg_t rd e1, hQ _ _ (.same q3)⟩⟩
            · rw [e2] at q2; cases q2
  · obtain ⟨x, y, e, h⟩ := ok_ix A ga H vs ds res Q hA hp hf hQ
    exact ⟨x, y, e, .inl h⟩
end
section
variable {X : Cx} {fa ca : Nat → Addr} {E : XK} {m a b : Ev R} {ms : Ev (List R)} {e x y : Expr} {es : List Expr} {pos : Pos}
/-- x[y] -/
theorem xIx (hu : X.A.units + 64 < cLine) (ha : PE X x (rdE X.K fa ca E a)) (hb : PE X y (rdE X.K fa ca E b)) (hs : PlainIx y := by exact fun _ _ => rfl) : PE X (.Subscript x y pos) (rdE X.K fa ca E (eOp2 dSub_ a b)) :=
  PE_imp (pe_ix (ix_seq.or (ix_dict (by omega))) ha hb hs) fun _ _ _ => xOp2' ok_sub_
/-- f(..), f a built-in function -/
theorem xB {id : String} {n : Str} {f : List D → Option R} {r : List V → Hp → VK → Prop} {p : Pos} (hc : CallR X (.builtin id) r) (ok : OpOk X.K fa f r) (hg : Gl X n) (hm : X.mg n = none) (hv : bootBuiltins n = some (.builtin id)) (ha : PA X (e :: es) (rdA X.K fa ca E ms))
    (hst : (e :: es).all notStar = true := by rfl) (hn : n ≠ "__name__" := by decide) (hdb : (n == ("__debug__" : Str)) = false := by decide) : PE X (.Call (.Name n p) (e :: es) [] pos) (rdE X.K fa ca E (eOpL f ms)) := by
  have hst' := hst
  rw [List.all_cons, Bool.and_eq_true] at hst'
  refine PE_imp (pe_callB hc hg hm hv ha hn hdb (star_of hst'.1) (noStars hst'.2)) fun σ H Q h => ?_
  obtain ⟨av, ga, s, rel, h⟩ := h
  refine ⟨av, ga, s, rel, aft_mono (aft_bd h) (fun rs s1 h1 fs vs ga1 H1 p1 => ?_) fun _ _ z => z⟩
  split at h1
  · exact h1.elim
  · rename_i ds e
    obtain ⟨res, hf, h2⟩ := aft_lif h1
    exact p1.op ok e hf h2
theorem xBfun {id : String} {n : Str} {f : List D → Option R} {r : List V → Hp → VK → Prop} {p : Pos} (hc : CallR X (.builtin id) r) (ok : OpOk X.K fa f r) (hg : Gl X n) (hm : X.mg n = some (.builtin id)) (ha : PA X (e :: es) (rdA X.K fa ca E ms))
    (hst : (e :: es).all notStar = true := by rfl) (hdb : (n == ("__debug__" : Str)) = false := by decide) : PE X (.Call (.Name n p) (e :: es) [] pos) (rdE X.K fa ca E (eOpL f ms)) := by
  have hst' := hst
  rw [List.all_cons, Bool.and_eq_true] at hst'
  refine PE_imp (pe_callBfun hc hg hm ha hdb (star_of hst'.1) (noStars hst'.2)) fun σ H Q h => ?_
  obtain ⟨av, ga, s, rel, h⟩ := h
  refine ⟨av, ga, s, rel, aft_mono (aft_bd h) (fun rs s1 h1 fs vs ga1 H1 p1 => ?_) fun _ _ z => z⟩
  split at h1
  · exact h1.elim
  · rename_i ds e
    obtain ⟨res, hf, h2⟩ := aft_lif h1
    exact p1.op ok e hf h2
theorem xTy {T : String} {n : Str} {f : List D → Option R} {r : List V → Hp → VK → Prop} {p : Pos} (hc : CallR X (.type T) r) (ok : OpOk X.K fa f r) (hg : Gl X n) (hm : X.mg n = none) (hv : bootBuiltins n = some (.type T)) (ha : PA X (e :: es) (rdA X.K fa ca E ms))
    (hst : (e :: es).all notStar = true := by rfl) (hn : n ≠ "__name__" := by decide) (hdb : (n == ("__debug__" : Str)) = false := by decide) : PE X (.Call (.Name n p) (e :: es) [] pos) (rdE X.K fa ca E (eOpL f ms)) := by
  have hst' := hst
  rw [List.all_cons, Bool.and_eq_true] at hst'
  refine PE_imp (pe_callTy hc hg hm hv ha hn hdb (star_of hst'.1) (noStars hst'.2)) fun σ H Q h => ?_
  obtain ⟨av, ga, s, rel, h⟩ := h
  refine ⟨av, ga, s, rel, aft_mono (aft_bd h) (fun rs s1 h1 fs vs ga1 H1 p1 => ?_) fun _ _ z => z⟩
  split at h1
  · exact h1.elim
  · rename_i ds e
    obtain ⟨res, hf, h2⟩ := aft_lif h1
    exact p1.op ok e hf h2
end
end Ev
end
section
set_option Elab.async false
set_option linter.all false
set_option maxRecDepth 100000
set_option maxHeartbeats 2000000
/-! Ev6: tests, chains, displays, targets, statements, calls, raise, a def's promise by its plain function. -/
namespace Ev
open PySem PySem.Spec PyProof.Rows L2

section
variable {K : PySem.W.Frag} {fa ca : Nat → Addr} {av av' M M' A A' : Addr → Prop} {ga ga' ga1 ga2 : Nat → Option Addr} {σ σ' : L2.St} {H H' H1 H2 : Hp} {s s' s1 s2 : S} {fs gs : List Addr} {vs : List V} {rs : List R} {E : XK} {v : V} {res : R}
theorem Rel.newR (rel : Rel K fa av ga σ H s) (n : NewR K fa (AvA av ga σ s.env) ga H v res H') : ∃ fs, Pst K fa av ga σ H s ga H' s fs [v] [res] := by
  cases n with
  | @fz _ d _ ext rep =>
    refine ⟨[], ?_, .fz (Rep.keep (Kp.sub fun a z => ?_) rep) .nil, (fun q hq => nomatch hq), Stp.grow ext⟩
    · exact (rel.grow (fs := []) ext (fun q hq => nomatch hq))
    · exact z.elim (fun y => y.elim .inl fun z => nomatch z) .inr
  | @fr q d _ ext new own =>
    have hq2 : H' q ≠ none := own.some
    refine ⟨[q], rel.grow ext (fun x hx => by rw [List.mem_singleton.mp hx]; exact ⟨new, hq2⟩), .fr (own.keep (Kp.sub fun a z => ?_) rfl) (fun z => nomatch z) .nil, fun x hx => ?_, Stp.grow ext⟩
    · rcases z with (z | z) | z
      · exact .inl (.inl z)
      · exact .inr (List.mem_singleton.mp z)
      · exact .inl (.inr z)
    · rw [List.mem_singleton.mp hx]; exact ⟨new, fun z => rel.dom q z new⟩
theorem Pst.after (st : Stp (MuA ga σ s.env) (MuA ga1 σ s1.env) ga ga1 H H1) (q : Pst K fa av ga1 σ H1 s1 ga2 H2 s2 fs vs rs) : Pst K fa av ga σ H s ga2 H2 s2 fs vs rs :=
  ⟨q.rel, q.rv, fun p hp => ⟨by
    cases e : H p with
    | none => rfl
    | some o => exact absurd (q.new p hp).1 (st.dm p (by rw [e]; simp)), (q.new p hp).2⟩, st.trans q.st⟩
theorem Pst.opK {f : List D → Option R} {r : List V → Hp → VK → Prop} {ds : List D} {Q : VK} (p : Pst K fa av ga σ H s ga' H' s' fs vs rs) (ok : OpOk K fa f r) (e : nowL rs s' = some ds) (hf : f ds = some res)
    (hQ : ∀ gs v ga2 H2, Pst K fa (avU av fs) ga' σ H' s' ga2 H2 s' gs [v] [res] → Q v H2) : r vs H' Q := by
  refine ok _ ga' H' vs ds res Q p.rel.av_dom (p.now e) hf fun v H2 n => ?_
  obtain ⟨gs, q⟩ := p.rel.newR n
  exact hQ gs v ga' H2 q
/-- a result that is a bool constant -/
theorem Pst.bool {b : Bool} (p : Pst K fa av ga σ H s ga' H' s' fs [v] [.fz (.bl b)]) : v = .bl b ∧ Rel K fa av ga' σ H' s' := by
  cases p.rv with
  | fz h r =>
    cases r
    cases h
    exact ⟨rfl, by have := p.rel; rwa [avU_nil] at this⟩
theorem RVs.cut {w : V} {d : D} : ∀ {rs : List R} {vs : List V} {fs : List Addr}, vs.length = rs.length → RVs K fa A ga σ H fs (vs ++ [w]) (rs ++ [.fz d]) → RVs K fa A ga σ H fs vs rs
  | [], [], fs, _, q => by
    cases q with
    | fz _ q => cases q; exact .nil
  | r :: rs, v :: vs, fs, hl, q => by
    have hl' : vs.length = rs.length := by simpa using hl
    cases q with
    | fz h q => exact .fz h (RVs.cut hl' q)
    | fr h n q => exact .fr h n (RVs.cut hl' q)
    | pk h q => exact .pk h (RVs.cut hl' q)
theorem RVs.tail {r : R} (q : RVs K fa A ga σ H fs (v :: vs) (r :: rs)) : ∃ gs, RVs K fa A ga σ H gs vs rs ∧ ∀ p ∈ gs, p ∈ fs := by
  cases q with
  | fz h q => exact ⟨_, q, fun _ z => z⟩
  | fr h n q => exact ⟨_, q, fun _ z => List.mem_cons_of_mem _ z⟩
  | pk h q => exact ⟨_, q, fun _ z => z⟩
theorem Pst.drop (p : Pst K fa av ga σ H s ga' H' s' fs vs rs) : Rel K fa av ga' σ H' s' := p.rel.sub fun a z => .inl z
end

/-! ### tests -/
def tBool (m : Ev R) : Ev Bool := fun s => bd (m s) fun r s1 => match r with
  | .fz (.bl b) => some (.ok b s1)
  | _ => none
def truD : D → Option Bool
  | .non => some false
  | .bl b => some b
  | .int i => some (i != 0)
  | .str x => if x.length ≤ szL then some ((x.length : Int) != 0) else none
  | .lst xs => some (!xs.isEmpty)
  | .tup xs => some (!xs.isEmpty)
  | _ => none
def tTru (m : Ev R) : Ev Bool := fun s => bd (m s) fun r s1 => match nowR r s1 with
  | none => none
  | some d => lif (truD d) s1
def tAndM (a b : Ev Bool) : Ev Bool := fun s => bd (a s) fun c s1 => if c then b s1 else some (.ok false s1)
def tOrM (a b : Ev Bool) : Ev Bool := fun s => bd (a s) fun c s1 => if c then some (.ok true s1) else b s1
def tNotM (a : Ev Bool) : Ev Bool := fun s => bd (a s) fun c s1 => some (.ok (!c) s1)
def eAnd (a b : Ev R) : Ev R := fun s => bd (a s) fun r s1 => match nowR r s1 with
  | some (.bl true) => b s1
  | some (.bl false) => some (.ok (.fz (.bl false)) s1)
  | _ => none
def eOr (a b : Ev R) : Ev R := fun s => bd (a s) fun r s1 => match nowR r s1 with
  | some (.bl true) => some (.ok (.fz (.bl true)) s1)
  | some (.bl false) => b s1
  | _ => none
def eNot (a : Ev R) : Ev R := fun s => bd (a s) fun r s1 => match nowR r s1 with
  | some (.bl b) => some (.ok (.fz (.bl (!b))) s1)
  | _ => none
def eIf (c : Ev Bool) (a b : Ev R) : Ev R := fun s => bd (c s) fun k s1 => if k then a s1 else b s1
def eChain (f g : List D → Option R) (a b c : Ev R) : Ev R := fun s => bd (a s) fun r1 s1 => bd (b s1) fun r2 s2 => match nowL [r1, r2] s2 with
  | none => none
  | some ds => match f ds with
    | some (.fz (.bl true)) => bd (c s2) fun r3 s3 => match nowL [r2, r3] s3 with
      | none => none
      | some es => lif (g es) s3
    | some (.fz (.bl false)) => some (.ok (.fz (.bl false)) s2)
    | _ => none
section
variable {X : Cx} {fa ca : Nat → Addr} {E : XK} {m a b c : Ev R} {ta tb : Ev Bool} {ms : Ev (List R)} {e x y z : Expr} {es : List Expr} {pos : Pos}
theorem rd_bool {σ : L2.St} {H : Hp} {Q : Bool → Hp → Prop} (h : rdT X.K fa ca E (tBool m) σ H Q) : rdE X.K fa ca E m σ H fun x H' => ∃ k, x = .bl k ∧ Q k H' := by
  obtain ⟨av, ga, s, rel, h⟩ := h
  refine ⟨av, ga, s, rel, aft_mono (aft_bd h) (fun r1 s1 h1 fs v ga1 H1 p1 => ?_) fun _ _ z => z⟩
  split at h1
  · rename_i k
    obtain ⟨rfl, rel1⟩ := p1.bool
    have st := p1.st
    exact ⟨k, rfl, h1 _ _ rel1 st⟩
  · exact h1.elim
theorem xtCmp {op : CmpOp} {f : List D → Option R} {r : R2} (ho : OpR X (compareOp op) r) (ok : OpOk X.K fa f (fun vs H Q => ∃ x y, vs = [x, y] ∧ r x y H Q)) (ha : PE X x (rdE X.K fa ca E a)) (hb : PE X y (rdE X.K fa ca E b))
    (hm : behindInMarks op y = false) : PT X (.Compare x [op] [y] pos) (rdT X.K fa ca E (tBool (eOp2 f a b))) := PT_imp (pt_cmpR ho ha hb hm) fun σ H Q h => xOp2' ok (rd_bool h)
theorem xtVal (ha : PE X x (rdE X.K fa ca E a)) (he : ∀ whole, isTrue x X.env whole = (do let v ← whole; standAt x.pos; holding [v] (truthy v)) := by intro _; rfl) : PT X x (rdT X.K fa ca E (tBool a)) :=
  PT_imp (pt_val ha he) fun _ _ _ h => rd_bool h
theorem tru_of {K : PySem.W.Frag} {A : Addr → Prop} {ga : Nat → Option Addr} {H : Hp} {v : V} {d : D} {k : Bool} (h : RepW K fa A ga H v d) (e : truD d = some k) : TruV K v H k := by
  cases h with
  | non => cases e; rfl
  | bl b => cases e; rfl
  | int i => cases e; rfl
  | str y =>
    simp only [truD] at e
    split at e
    · rename_i hz
      cases e
      exact ⟨by rw [szL_eq]; exact hz, rfl⟩
    · cases e
  | lst h r =>
    cases e
    refine .inl ⟨_, .inl (.inl h), ?_⟩
    cases r <;> rfl
  | tup n h r =>
    cases e
    refine .inr (.inl ⟨_, .inl (.inl h), ?_⟩)
    cases r <;> rfl
  | dK => cases e
  | dT => cases e
  | fn => cases e
  | gref => cases e
  | ktup => cases e
theorem xtTru (ha : PE X x (rdE X.K fa ca E a)) (he : ∀ whole, isTrue x X.env whole = (do let v ← whole; standAt x.pos; holding [v] (truthy v)) := by intro _; rfl) : PT X x (rdT X.K fa ca E (tTru a)) :=
  PT_imp (pt_truth ha he) fun σ H Q h => by
    obtain ⟨av, ga, s, rel, h⟩ := h
    refine ⟨av, ga, s, rel, aft_mono (aft_bd h) (fun r1 s1 h1 fs v ga1 H1 p1 => ?_) fun _ _ z => z⟩
    split at h1
    · exact h1.elim
    · rename_i d e
      obtain ⟨k, hk, h2⟩ := aft_lif h1
      have e2 : nowL [r1] s1 = some [d] := by simp [nowL, e]
      cases p1.now e2 with
      | cons w _ => exact ⟨k, tru_of w hk, h2 _ _ p1.drop p1.st⟩
theorem xwOne {op : PySem.BoolOp} (h : PT X x (rdT X.K fa ca E ta)) (hop : op = .And ∨ op = .Or) : PW X (.BoolOp op [x] pos) (rdT X.K fa ca E ta) := by
  rcases hop with rfl | rfl
  · exact pw_and1 h
  · exact pw_or1 h
theorem xwAnd (ha : PT X x (rdT X.K fa ca E ta)) (hb : PW X (.BoolOp .And (y :: es) pos) (rdT X.K fa ca E tb)) : PW X (.BoolOp .And (x :: y :: es) pos) (rdT X.K fa ca E (tAndM ta tb)) :=
  PW_imp (pw_and ha hb) fun σ H Q h => by
    obtain ⟨av, ga, s, rel, h⟩ := h
    refine ⟨av, ga, s, rel, aft_mono (aft_bd h) (fun r1 s1 h1 ga1 H1 rel1 st1 => ?_) fun _ _ z => z⟩
    cases r1 with
    | true => exact ⟨av, ga1, s1, rel1, aft_mono h1 (fun r2 s2 h2 ga2 H2 rel2 st2 => h2 _ _ rel2 (st1.trans st2)) fun _ _ z => z.sub st1 fun _ y => y⟩
    | false => exact h1 _ _ rel1 st1
theorem xwOr (ha : PT X x (rdT X.K fa ca E ta)) (hb : PW X (.BoolOp .Or (y :: es) pos) (rdT X.K fa ca E tb)) : PW X (.BoolOp .Or (x :: y :: es) pos) (rdT X.K fa ca E (tOrM ta tb)) :=
  PW_imp (pw_or ha hb) fun σ H Q h => by
    obtain ⟨av, ga, s, rel, h⟩ := h
    refine ⟨av, ga, s, rel, aft_mono (aft_bd h) (fun r1 s1 h1 ga1 H1 rel1 st1 => ?_) fun _ _ z => z⟩
    cases r1 with
    | false => exact ⟨av, ga1, s1, rel1, aft_mono h1 (fun r2 s2 h2 ga2 H2 rel2 st2 => h2 _ _ rel2 (st1.trans st2)) fun _ _ z => z.sub st1 fun _ y => y⟩
    | true => exact h1 _ _ rel1 st1
theorem xtNot (ha : PT X x (rdT X.K fa ca E ta)) : PT X (.UnaryOp .Not x pos) (rdT X.K fa ca E (tNotM ta)) :=
  PT_imp (pt_not ha) fun σ H Q h => by
    obtain ⟨av, ga, s, rel, h⟩ := h
    exact ⟨av, ga, s, rel, aft_mono (aft_bd h) (fun r1 s1 h1 ga1 H1 rel1 st1 => h1 _ _ rel1 st1) fun _ _ z => z⟩
/-- the answer of a value that is a bool -/
theorem Pst.isBl {K : PySem.W.Frag} {av : Addr → Prop} {ga ga' : Nat → Option Addr} {σ : L2.St} {H H' : Hp} {s s' : S} {fs : List Addr} {v : V} {r : R} {k : Bool} (p : Pst K fa av ga σ H s ga' H' s' fs [v] [r]) (e : nowR r s' = some (.bl k)) : v = .bl k := by
  have e2 : nowL [r] s' = some [.bl k] := by simp [nowL, e]
  cases p.now e2 with
  | cons w _ => exact w.bl'
theorem xAnd (ha : PE X x (rdE X.K fa ca E a)) (hb : PE X (.BoolOp .And (y :: es) pos) (rdE X.K fa ca E b)) : PE X (.BoolOp .And (x :: y :: es) pos) (rdE X.K fa ca E (eAnd a b)) :=
  PE_imp (pe_and ha hb) fun σ H Q h => by
    obtain ⟨av, ga, s, rel, h⟩ := h
    refine ⟨av, ga, s, rel, aft_mono (aft_bd h) (fun r1 s1 h1 fs v ga1 H1 p1 => ?_) fun _ _ z => z⟩
    split at h1
    · rename_i e
      refine ⟨true, p1.isBl e, iteT ⟨av, ga1, s1, p1.drop, aft_mono h1 (fun r2 s2 h2 gs w ga2 H2 p2 => h2 _ _ _ _ (.after p1.st p2)) fun _ _ z => z.sub p1.st fun _ y => y⟩⟩
    · rename_i e
      exact ⟨false, p1.isBl e, iteF (h1 _ _ _ _ (.after p1.st (.val p1.drop fun _ => .bl false)))⟩
    · exact h1.elim
theorem xOr (ha : PE X x (rdE X.K fa ca E a)) (hb : PE X (.BoolOp .Or (y :: es) pos) (rdE X.K fa ca E b)) : PE X (.BoolOp .Or (x :: y :: es) pos) (rdE X.K fa ca E (eOr a b)) :=
  PE_imp (pe_or ha hb) fun σ H Q h => by
    obtain ⟨av, ga, s, rel, h⟩ := h
    refine ⟨av, ga, s, rel, aft_mono (aft_bd h) (fun r1 s1 h1 fs v ga1 H1 p1 => ?_) fun _ _ z => z⟩
    split at h1
    · rename_i e
      exact ⟨true, p1.isBl e, iteT (h1 _ _ _ _ (.after p1.st (.val p1.drop fun _ => .bl true)))⟩
    · rename_i e
      refine ⟨false, p1.isBl e, iteF ⟨av, ga1, s1, p1.drop, aft_mono h1 (fun r2 s2 h2 gs w ga2 H2 p2 => h2 _ _ _ _ (.after p1.st p2)) fun _ _ z => z.sub p1.st fun _ y => y⟩⟩
    · exact h1.elim
theorem xOne {op : PySem.BoolOp} (h : PE X x (rdE X.K fa ca E a)) : PE X (.BoolOp op [x] pos) (rdE X.K fa ca E a) := pe_one h
theorem xNot (ha : PE X x (rdE X.K fa ca E a)) : PE X (.UnaryOp .Not x pos) (rdE X.K fa ca E (eNot a)) :=
  PE_imp (pe_not ha) fun σ H Q h => by
    obtain ⟨av, ga, s, rel, h⟩ := h
    refine ⟨av, ga, s, rel, aft_mono (aft_bd h) (fun r1 s1 h1 fs v ga1 H1 p1 => ?_) fun _ _ z => z⟩
    split at h1
    · rename_i k e
      exact ⟨k, p1.isBl e, h1 _ _ _ _ (.after p1.st (.val p1.drop fun _ => .bl _))⟩
    · exact h1.elim
theorem xIf (hc : PT X z (rdT X.K fa ca E ta)) (ha : PE X x (rdE X.K fa ca E a)) (hb : PE X y (rdE X.K fa ca E b)) : PE X (.IfExp z x y pos) (rdE X.K fa ca E (eIf ta a b)) :=
  PE_imp (pe_ifExp hc ha hb) fun σ H Q h => by
    obtain ⟨av, ga, s, rel, h⟩ := h
    refine ⟨av, ga, s, rel, aft_mono (aft_bd h) (fun r1 s1 h1 ga1 H1 rel1 st1 => ?_) fun _ _ z => z⟩
    cases r1 with
    | true => exact iteT ⟨av, ga1, s1, rel1, aft_mono h1 (fun r2 s2 h2 gs w ga2 H2 p2 => h2 _ _ _ _ (.after st1 p2)) fun _ _ z => z.sub st1 fun _ y => y⟩
    | false => exact iteF ⟨av, ga1, s1, rel1, aft_mono h1 (fun r2 s2 h2 gs w ga2 H2 p2 => h2 _ _ _ _ (.after st1 p2)) fun _ _ z => z.sub st1 fun _ y => y⟩
theorem xChain' {f g : List D → Option R} {r r' : R2} (ok : OpOk X.K fa f (fun vs H Q => ∃ x y, vs = [x, y] ∧ r x y H Q)) (ok' : OpOk X.K fa g (fun vs H Q => ∃ x y, vs = [x, y] ∧ r' x y H Q)) {σ : L2.St} {H : Hp} {Q : VK}
    (h : rdE X.K fa ca E (eChain f g a b c) σ H Q) : tChain r r' (rdE X.K fa ca E a) (rdE X.K fa ca E b) (rdE X.K fa ca E c) σ H Q := by
  obtain ⟨av, ga, s, rel, h⟩ := h
  refine ⟨av, ga, s, rel, aft_mono (aft_bd h) (fun r1 s1 h1 fs v ga1 H1 p1 => ?_) fun _ _ z => z⟩
  refine ⟨_, ga1, s1, p1.rel, aft_mono (aft_bd h1) (fun r2 s2 h2 gs w ga2 H2 p2 => ?_) fun _ _ z => z.sub p1.st fun _ y => .inl y⟩
  have p := p1.then p2
  split at h2
  · exact h2.elim
  · rename_i ds e
    split at h2
    · rename_i hf
      obtain ⟨_, _, e1, q⟩ := p.opK (Q := fun z H3 => ∃ k, z = .bl k ∧ (if k = true then rdE X.K fa ca E c σ H3 fun w' H4 => r' w w' H4 Q else Q (.bl false) H3)) ok e hf (fun hs v3 ga3 H3 p3 => by
        obtain ⟨rfl, rel3⟩ := p3.bool
        refine ⟨true, rfl, iteT ?_⟩
        refine ⟨_, ga3, s2, rel3, aft_mono (aft_bd h2) (fun r4 s4 h4 ks w' ga4 H4 p4 => ?_) fun _ _ z => z.sub (p.st.trans p3.st) fun _ y => .inl y⟩
        split at h4
        · exact h4.elim
        · rename_i es e4
          obtain ⟨res, hg, h5⟩ := aft_lif h4
          have hs0 : hs = [] := by cases p3.rv with | fz _ r => cases r; rfl
          subst hs0
          have pb : Pst X.K fa av ga σ H s ga3 H3 s2 (fs ++ gs) [v, w] [r1, r2] := by
            have := p.then p3
            have rv := this.rv
            simp only [List.append_nil] at this
            have hrel := this.rel
            refine ⟨hrel, ?_, this.new, this.st⟩
            have rv := this.rv
            exact RVs.cut (vs := [v, w]) (rs := [r1, r2]) rfl rv
          have pc := pb.then p4
          obtain ⟨gs', q, hsub⟩ := RVs.tail pc.rv
          have pd : Pst X.K fa av ga σ H s ga4 H4 s4 gs' [w, w'] [r2, r4] := ⟨pc.rel.sub fun a z => z.elim .inl fun y => .inr (hsub a y), q.sub fun a z => z.elim (fun y => .inl (y.elim .inl fun y => .inr (hsub a y))) .inr, fun x hx => pc.new x (hsub x hx), pc.st⟩
          obtain ⟨_, _, e5, q5⟩ := pd.op ok' e4 hg h5
          cases e5
          exact q5)
      cases e1
      exact q
    · rename_i hf
      obtain ⟨_, _, e1, q⟩ := p.op (Q := fun z H3 => ∃ k, z = .bl k ∧ (if k = true then rdE X.K fa ca E c σ H3 fun w' H4 => r' w w' H4 Q else Q (.bl false) H3)) ok e hf (fun hs v3 ga3 H3 p3 => by
        obtain ⟨rfl, _⟩ := p3.bool
        exact ⟨false, rfl, iteF (h2 _ _ _ _ p3)⟩)
      cases e1
      exact q
    · exact h2.elim
theorem xChain {op op' : CmpOp} {f g : List D → Option R} {r r' : R2} (ho : OpR X (compareOp op) r) (ho' : OpR X (compareOp op') r') (ok : OpOk X.K fa f (fun vs H Q => ∃ x y, vs = [x, y] ∧ r x y H Q)) (ok' : OpOk X.K fa g (fun vs H Q => ∃ x y, vs = [x, y] ∧ r' x y H Q))
    (ha : PE X x (rdE X.K fa ca E a)) (hb : PE X y (rdE X.K fa ca E b)) (hc : PE X z (rdE X.K fa ca E c)) (hm : lastMarks [op, op'] [y, z] = false := by with_unfolding_all rfl) : PE X (.Compare x [op, op'] [y, z] pos) (rdE X.K fa ca E (eChain f g a b c)) :=
  PE_imp (pe_chain ho ho' ha hb hc hm) fun _ _ _ h => xChain' ok ok' h
theorem xtChain {op op' : CmpOp} {f g : List D → Option R} {r r' : R2} (ho : OpR X (compareOp op) r) (ho' : OpR X (compareOp op') r') (ok : OpOk X.K fa f (fun vs H Q => ∃ x y, vs = [x, y] ∧ r x y H Q)) (ok' : OpOk X.K fa g (fun vs H Q => ∃ x y, vs = [x, y] ∧ r' x y H Q))
    (ha : PE X x (rdE X.K fa ca E a)) (hb : PE X y (rdE X.K fa ca E b)) (hc : PE X z (rdE X.K fa ca E c)) (hm : lastMarks [op, op'] [y, z] = false := by with_unfolding_all rfl) : PT X (.Compare x [op, op'] [y, z] pos) (rdT X.K fa ca E (tBool (eChain f g a b c))) :=
  PT_imp (pt_chain ho ho' ha hb hc hm) fun _ _ _ h => xChain' ok ok' (rd_bool h)
end
end Ev
end
section
set_option Elab.async false
set_option linter.all false
set_option maxRecDepth 100000
set_option maxHeartbeats 2000000
/-! Ev7: displays, stores, targets, statements. -/
namespace Ev
open PySem PySem.Spec PyProof.Rows L2

section
variable {K : PySem.W.Frag} {fa ca : Nat → Addr} {av av' M M' A A' : Addr → Prop} {ga ga' ga1 ga2 : Nat → Option Addr} {σ σ' : L2.St} {H H' H1 H2 : Hp} {s s' s1 s2 : S} {fs gs : List Addr} {vs : List V} {rs : List R} {E : XK} {v : V} {res : R}
/-! ### stores into slots -/
theorem set_out {α : Type} {l : List α} {i : Nat} {x : α} (h : ¬ i < l.length) : l.set i x = l := List.set_eq_of_length_le (by omega)
theorem get_set {α : Type} {l : List α} {i j : Nat} {x y : α} (h : (l.set i x)[j]? = some y) (hi : i < l.length) : (j = i ∧ y = x) ∨ (j ≠ i ∧ l[j]? = some y) := by
  by_cases e : i = j
  · subst e
    rw [List.getElem?_set_self hi] at h
    exact .inl ⟨rfl, (Option.some.inj h).symm⟩
  · rw [List.getElem?_set_ne e] at h
    exact .inr ⟨fun z => e z.symm, h⟩
theorem Rel.store_fz {i : Nat} {d : D} (r : Rel K fa av ga σ H s) (h : Rep K fa (AvA av ga σ s.env) ga H v d) :
    Rel K fa av ga (σ.set i (some v)) H ⟨s.env.set i (.fz d), s.g⟩ ∧ ∀ a, MuA ga (σ.set i (some v)) (s.env.set i (.fz d)) a → MuA ga σ s.env a := by
  by_cases hi : i < s.env.length
  · have hi' : i < σ.length := by rw [← r.len]; exact hi
    have ow : ∀ j e, (s.env.set i (.fz d))[j]? = some (.ow e) → j ≠ i ∧ s.env[j]? = some (.ow e) := fun j e z => by
      rcases get_set z hi with ⟨_, q⟩ | q
      · cases q
      · exact q
    have σne : ∀ j, j ≠ i → (σ.set i (some v))[j]? = σ[j]? := fun j hj => List.getElem?_set_ne (Ne.symm hj)
    have mu : ∀ a, MuA ga (σ.set i (some v)) (s.env.set i (.fz d)) a → MuA ga σ s.env a := by
      rintro a (z | ⟨j, e, z1, z2⟩)
      · exact .inl z
      · obtain ⟨hj, q⟩ := ow j e z1
        rw [σne j hj] at z2
        exact .inr ⟨j, e, q, z2⟩
    have hA : ∀ a, AvA av ga (σ.set i (some v)) (s.env.set i (.fz d)) a → AvA av ga σ s.env a := fun a z => z.elim .inl fun y => .inr (mu a y)
    refine ⟨⟨by simp only [List.length_set]; exact r.len, fun j e z => ?_, fun j e z => ?_, fun j k x y p z1 z2 z3 z4 => ?_, r.gl.sub hA, r.dom, r.sep⟩, mu⟩
    · rcases get_set z hi with ⟨rfl, q⟩ | ⟨hj, q⟩
      · cases q
        exact ⟨v, List.getElem?_set_self hi', Rep.keep (Kp.sub hA) h⟩
      · obtain ⟨w, q1, q2⟩ := r.fz j e q
        exact ⟨w, (σne j hj).trans q1, Rep.keep (Kp.sub hA) q2⟩
    · obtain ⟨hj, q⟩ := ow j e z
      obtain ⟨p, q1, q2, q3, q4⟩ := r.ow j e q
      exact ⟨p, (σne j hj).trans q1, q2.keep (Kp.sub hA) rfl, q3, q4⟩
    · obtain ⟨hj, q⟩ := ow j x z1
      obtain ⟨hk, q'⟩ := ow k y z2
      have z3 : (σ.set i (some v))[j]? = _ := z3
      have z4 : (σ.set i (some v))[k]? = _ := z4
      rw [σne j hj] at z3
      rw [σne k hk] at z4
      exact r.inj j k x y p q q' z3 z4
  · have hi' : ¬ i < σ.length := by rw [← r.len]; exact hi
    rw [set_out hi, set_out hi']
    exact ⟨r, fun _ z => z⟩
theorem Rel.store_ow {i : Nat} {p : Addr} {d : D} (r : Rel K fa (avU av [p]) ga σ H s) (h : Own K fa (AvA (avU av [p]) ga σ s.env) ga H p d) (hn : ¬ av p) :
    Rel K fa av ga (σ.set i (some (.ref p))) H ⟨s.env.set i (.ow d), s.g⟩ ∧ ∀ a, MuA ga (σ.set i (some (.ref p))) (s.env.set i (.ow d)) a → MuA ga σ s.env a ∨ a = p := by
  have pin : avU av [p] p := .inr (by simp)
  by_cases hi : i < s.env.length
  · have hi' : i < σ.length := by rw [← r.len]; exact hi
    have σne : ∀ j, j ≠ i → (σ.set i (some (V.ref p)))[j]? = σ[j]? := fun j hj => List.getElem?_set_ne (Ne.symm hj)
    have mu : ∀ a, MuA ga (σ.set i (some (.ref p))) (s.env.set i (.ow d)) a → MuA ga σ s.env a ∨ a = p := by
      rintro a (z | ⟨j, e, z1, z2⟩)
      · exact .inl (.inl z)
      · rcases get_set z1 hi with ⟨rfl, _⟩ | ⟨hj, q⟩
        · rw [List.getElem?_set_self hi'] at z2
          cases z2
          exact .inr rfl
        · rw [σne j hj] at z2
          exact .inl (.inr ⟨j, e, q, z2⟩)
    have hA : ∀ a, AvA av ga (σ.set i (some (.ref p))) (s.env.set i (.ow d)) a → AvA (avU av [p]) ga σ s.env a := fun a z => by
      rcases z with z | z
      · exact .inl (.inl z)
      · exact (mu a z).elim .inr fun e => .inl (.inr (by rw [e]; simp))
    refine ⟨⟨by simp only [List.length_set]; exact r.len, fun j e z => ?_, fun j e z => ?_, fun j k x y q z1 z2 z3 z4 => ?_, r.gl.sub hA, fun a z => r.dom a (.inl z), fun a k z => r.sep a k (.inl z)⟩, mu⟩
    · rcases get_set z hi with ⟨_, q⟩ | ⟨hj, q⟩
      · cases q
      · obtain ⟨w, q1, q2⟩ := r.fz j e q
        exact ⟨w, (σne j hj).trans q1, Rep.keep (Kp.sub hA) q2⟩
    · rcases get_set z hi with ⟨rfl, q⟩ | ⟨hj, q⟩
      · cases q
        exact ⟨p, List.getElem?_set_self hi', h.keep (Kp.sub hA) rfl, hn, fun k => r.sep p k pin⟩
      · obtain ⟨w, q1, q2, q3, q4⟩ := r.ow j e q
        exact ⟨w, (σne j hj).trans q1, q2.keep (Kp.sub hA) rfl, fun z => q3 (.inl z), q4⟩
    · have notp : ∀ j x, j ≠ i → s.env[j]? = some (.ow x) → σ[j]? = some (some (.ref p)) → False := fun j x hj q1 q2 => by
        obtain ⟨w, w1, _, w3, _⟩ := r.ow j x q1
        rw [q2] at w1; cases w1
        exact w3 pin
      have z3 : (σ.set i (some (V.ref p)))[j]? = some (some (V.ref q)) := z3
      have z4 : (σ.set i (some (V.ref p)))[k]? = some (some (V.ref q)) := z4
      rcases get_set z1 hi with ⟨rfl, _⟩ | ⟨hj, q1⟩
      · rcases get_set z2 hi with ⟨rfl, _⟩ | ⟨hk, q2⟩
        · rfl
        · rw [List.getElem?_set_self hi'] at z3
          cases z3
          rw [σne k hk] at z4
          exact (notp k y hk q2 z4).elim
      · have z3' := (σne j hj).symm.trans z3
        rcases get_set z2 hi with ⟨rfl, _⟩ | ⟨hk, q2⟩
        · rw [List.getElem?_set_self hi'] at z4
          cases z4
          exact (notp j x hj q1 z3').elim
        · have z4' := (σne k hk).symm.trans z4
          exact r.inj j k x y q q1 q2 z3' z4'
  · have hi' : ¬ i < σ.length := by rw [← r.len]; exact hi
    rw [set_out hi, set_out hi']
    exact ⟨r.sub fun a z => .inl z, fun _ z => .inl z⟩
theorem Own.tb {p : Addr} : ∀ {d : D}, Own K fa A ga H p d → TB fa H → (∀ a, a ≠ p → H' a = H a) → TB fa H'
  | .lst ds, ⟨vs, h, r⟩, t, same => t.write h (fun _ z => nomatch z) (fun _ _ z => by unfold LamX.CodeO at z; cases z) same
  | .dK ks ds, ⟨kvs, h, e, r⟩, t, same => t.write h (fun _ z => nomatch z) (fun _ _ z => by unfold LamX.CodeO at z; cases z) same
  | .dT ks ds, ⟨kvs, h, e, r⟩, t, same => t.write h (fun _ z => nomatch z) (fun _ _ z => by unfold LamX.CodeO at z; cases z) same
/-- the object of a slot is written -/
theorem Rel.write {i : Nat} {p : Addr} {c c' : D} (r : Rel K fa av ga σ H s) (hi : s.env[i]? = some (.ow c)) (hp : σ[i]? = some (some (.ref p))) (same : ∀ a, a ≠ p → H' a = H a) (own : Own K fa (AvA av ga σ s.env) ga H' p c') :
    Rel K fa av ga σ H' ⟨s.env.set i (.ow c'), s.g⟩ ∧ Stp (MuA ga σ s.env) (MuA ga σ (s.env.set i (.ow c'))) ga ga H H' := by
  have hlt : i < s.env.length := (List.getElem?_eq_some_iff.mp hi).1
  have back : ∀ (j : Nat) (e : D), (s.env.set i (.ow c'))[j]? = some (Slot.ow e) → ∃ e' : D, s.env[j]? = some (Slot.ow e') := fun j e z => by
    rcases get_set z hlt with ⟨rfl, _⟩ | ⟨_, q⟩
    · exact ⟨c, hi⟩
    · exact ⟨e, q⟩
  have mu : ∀ a, MuA ga σ (s.env.set i (.ow c')) a → MuA ga σ s.env a := by
    rintro a (z | ⟨j, e, z1, z2⟩)
    · exact .inl z
    · obtain ⟨e', q⟩ := back j e z1
      exact .inr ⟨j, e', q, z2⟩
  have pA : MuA ga σ s.env p := .inr ⟨i, c, hi, hp⟩
  have hA : ∀ a, AvA av ga σ (s.env.set i (.ow c')) a → AvA av ga σ s.env a := fun a z => z.elim .inl fun y => .inr (mu a y)
  obtain ⟨p', p1, p2, p3, p4⟩ := r.ow i c hi
  rw [hp] at p1; cases p1
  have kp : Kp (AvA av ga σ s.env) (AvA av ga σ (s.env.set i (.ow c'))) ga ga H H' := by
    have ne : ∀ a, ¬ AvA av ga σ s.env a → H' a = H a := fun a n => same a fun e => n (.inr (by rw [e]; exact pA))
    exact ⟨fun a u n _ _ q => q.elim (fun z => .inl ((ne a n).trans z)) fun ⟨o, z⟩ => .inr ⟨o, (ne a n).trans z⟩, fun a xs n q => (ne a n).trans q, fun a xs n q => (ne a n).trans q, fun a z => .inl (hA a z), fun _ _ e => e⟩
  refine ⟨⟨by simp only [List.length_set]; exact r.len, fun j e z => ?_, fun j e z => ?_, fun j k x y q z1 z2 z3 z4 => ?_, ⟨fun k ds e => ?_, r.gl.inj, r.gl.few, p2.tb r.gl.tb same⟩, fun a z => ?_, r.sep⟩, ⟨fun a o n e _ => (same a fun z => n (by rw [z]; exact pA)).trans e, fun a h => ?_, fun a z => .inl (mu a z), fun _ _ e => e⟩⟩
  · rcases get_set z hlt with ⟨_, q⟩ | ⟨hj, q⟩
    · cases q
    · obtain ⟨w, q1, q2⟩ := r.fz j e q
      exact ⟨w, q1, Rep.keep kp q2⟩
  · rcases get_set z hlt with ⟨rfl, q⟩ | ⟨hj, q⟩
    · cases q
      exact ⟨p, hp, own.keep (Kp.sub hA) rfl, p3, p4⟩
    · obtain ⟨w, q1, q2, q3, q4⟩ := r.ow j e q
      have hw : w ≠ p := fun z => by
        rw [z] at q1
        exact hj (r.inj j i e c p q hi q1 hp)
      exact ⟨w, q1, q2.keep kp (same w hw), q3, q4⟩
  · obtain ⟨x', q1⟩ := back j x z1
    obtain ⟨y', q2⟩ := back k y z2
    exact r.inj j k x' y' q q1 q2 z3 z4
  · obtain ⟨a, us, h1, h2, h3⟩ := r.gl.at_ k ds e
    exact ⟨a, us, h1, (same a fun z => p4 k (by rw [← z]; exact h1)).trans h2, RepL.keep kp h3⟩
  · rw [same a fun e => p3 (by rw [← e]; exact z)]; exact r.dom a z
  · by_cases e : a = p
    · subst e; exact own.some
    · rw [same a e]; exact h
end

/-! ### displays -/
def eTup (ms : Ev (List R)) : Ev R := fun s => bd (ms s) fun rs s1 => match escL rs s1 with
  | none => none
  | some (ds, s2) => if ds.length ≤ szL then some (.ok (.fz (.tup ds)) s2) else none
def eLst (ms : Ev (List R)) : Ev R := fun s => bd (ms s) fun rs s1 => match escL rs s1 with
  | none => none
  | some (ds, s2) => if ds.length ≤ szL then some (.ok (.fr (.lst ds)) s2) else none
def eNew (d : D) : Ev R := fun s => some (.ok (.fr d) s)
section
variable {X : Cx} {fa ca : Nat → Addr} {E : XK} {m a b c : Ev R} {ta tb : Ev Bool} {ms : Ev (List R)} {e x y z : Expr} {es : List Expr} {pos : Pos}
theorem xTup {k : Nat} (h : PA X es (rdA X.K fa ca E ms)) : PE X (.Tuple es k pos) (rdE X.K fa ca E (eTup ms)) := PE_imp (pe_tup h) fun σ H Q h => by
  obtain ⟨av, ga, s, rel, h⟩ := h
  refine ⟨av, ga, s, rel, aft_mono (aft_bd h) (fun rs s1 h1 fs vs ga1 H1 p1 => ?_) fun _ _ z => z⟩
  split at h1
  · exact h1.elim
  · rename_i ds s2 e
    split at h1
    · rename_i hz
      obtain ⟨r1, r2, r3⟩ := p1.esc e
      refine ⟨by rw [r2.length, szL_eq]; exact hz, fun p hp => ?_⟩
      obtain ⟨gs, q⟩ := r1.newR (.tuple r1.av_dom hp r2)
      exact h1 _ _ _ _ (.after r3 q)
    · exact h1.elim
theorem xLst (h : PA X es (rdA X.K fa ca E ms)) : PE X (.List es pos) (rdE X.K fa ca E (eLst ms)) := PE_imp (pe_lst h) fun σ H Q h => by
  obtain ⟨av, ga, s, rel, h⟩ := h
  refine ⟨av, ga, s, rel, aft_mono (aft_bd h) (fun rs s1 h1 fs vs ga1 H1 p1 => ?_) fun _ _ z => z⟩
  split at h1
  · exact h1.elim
  · rename_i ds s2 e
    split at h1
    · rename_i hz
      obtain ⟨r1, r2, r3⟩ := p1.esc e
      refine ⟨by rw [r2.length, szL_eq]; exact hz, fun p hp => ?_⟩
      obtain ⟨gs, q⟩ := r1.newR (.list r1.av_dom hp r2)
      exact h1 _ _ _ _ (.after r3 q)
    · exact h1.elim
theorem xDK : PE X (.Dict [] [] pos) (rdE X.K fa ca E (eNew (.dK [] []))) := PE_imp pe_dnewK fun σ H Q h p hp => by
  obtain ⟨av, ga, s, rel, h⟩ := h
  have ext : ∀ a o, H a = some o → upd H p (.dK []) a = some o := fun a o h => by rw [upd_ne (ne_of_none h hp)]; exact h
  obtain ⟨gs, q⟩ := rel.newR (v := .ref p) (res := .fr (.dK [] [])) (.fr ext hp ⟨[], upd_same, rfl, .nil⟩)
  exact h _ _ _ _ q
theorem xDT : PE X (.Dict [] [] pos) (rdE X.K fa ca E (eNew (.dT [] []))) := PE_imp pe_dnewT fun σ H Q h p hp => by
  obtain ⟨av, ga, s, rel, h⟩ := h
  have ext : ∀ a o, H a = some o → upd H p (.dT []) a = some o := fun a o h => by rw [upd_ne (ne_of_none h hp)]; exact h
  obtain ⟨gs, q⟩ := rel.newR (v := .ref p) (res := .fr (.dT [] [])) (.fr ext hp ⟨[], upd_same, rfl, .nil⟩)
  exact h _ _ _ _ q
end
end Ev
end
section
set_option Elab.async false
set_option linter.all false
set_option maxRecDepth 100000
set_option maxHeartbeats 2000000
/-! Ev8: targets, methods that change a slot's object, statements, calls of defs, raise, a def's promise. -/
namespace Ev
open PySem PySem.Spec PyProof.Rows L2

/-! ### targets -/
def stD (i : Nat) (d : D) : Ev Unit := fun s => some (.ok () ⟨s.env.set i (.fz d), s.g⟩)
def stR (i : Nat) (r : R) : Ev Unit := fun s => match r with
  | .fr d => some (.ok () ⟨s.env.set i (.ow d), s.g⟩)
  | r => match esc r s with
    | none => none
    | some (d, s1) => some (.ok () ⟨s1.env.set i (.fz d), s1.g⟩)
def tgD (m : D → Ev Unit) (r : R) : Ev Unit := fun s => match esc r s with
  | none => none
  | some (d, s1) => m d s1
def tgT (ts : List (D → Ev Unit)) (d : D) : Ev Unit := fun s => match d with
  | .tup ds => if ds.length = ts.length then runT ts ds s else none
  | _ => none
/-- all of them plain, or new objects -/
def resL : List R → S → Option (List R × S)
  | [], s => some ([], s)
  | .fr d :: rs, s => match resL rs s with
    | none => none
    | some (rs', s2) => some (.fr d :: rs', s2)
  | r :: rs, s => match esc r s with
    | none => none
    | some (d, s1) => match resL rs s1 with
      | none => none
      | some (rs', s2) => some (.fz d :: rs', s2)
section
variable {K : PySem.W.Frag} {fa ca : Nat → Addr} {av av' M M' A A' : Addr → Prop} {ga ga' ga1 ga2 : Nat → Option Addr} {σ σ' : L2.St} {H H' H1 H2 : Hp} {s s' s1 s2 : S} {fs gs : List Addr} {vs : List V} {rs : List R} {E : XK} {v : V} {res : R}
/-- one result handed on -/
theorem esc_ok {r : R} {d : D} (rel : Rel K fa (avU av fs) ga σ H s) (rv : RVs K fa (AvA (avU av fs) ga σ s.env) ga σ H fs [v] [r]) (hn : ∀ p ∈ fs, ¬ av p) (e : esc r s = some (d, s1)) :
    Rel K fa av ga σ H s1 ∧ Rep K fa (AvA av ga σ s1.env) ga H v d ∧ ∀ a, MuA ga σ s1.env a → MuA ga σ s.env a := by
  have e2 : escL [r] s = some ([d], s1) := by simp [escL, e]
  obtain ⟨r1, r2, r3, _⟩ := escL_ok rv (fun _ z => z) rel hn e2
  cases r2 with
  | cons h _ => exact ⟨r1, h, r3⟩
theorem RepW.sub {d : D} (h : RepW K fa A ga H v d) (k : ∀ a, A' a → A a) : RepW K fa A' ga H v d := by
  cases h with
  | non => exact .non
  | bl b => exact .bl b
  | int i => exact .int i
  | str x => exact .str x
  | lst q r => exact .lst q (RepL.keep (Kp.sub k) r)
  | tup n q r => exact .tup (fun z => n (k _ z)) q (RepL.keep (Kp.sub k) r)
  | dK q e r => exact .dK q e (RepL.keep (Kp.sub k) r)
  | dT q e r => exact .dT q e (RepL.keep (Kp.sub k) r)
  | fn k => exact .fn k
  | gref e => exact .gref e
  | ktup n q e r => exact .ktup (fun z => n (k _ z)) q e (RepL.keep (Kp.sub k) r)
theorem Stp.id (mm : ∀ a, M' a → M a) : Stp M M' ga ga H H := ⟨fun _ _ _ h _ => h, fun _ h => h, fun a h => .inl (mm a h), fun _ _ e => e⟩
end
section
variable {X : Cx} {fa ca : Nat → Addr} {E : XK} {m a b c : Ev R} {ta tb : Ev Bool} {ms : Ev (List R)} {md : D → Ev Unit} {ts : List (D → Ev Unit)} {e x y z : Expr} {es : List Expr} {pos : Pos}
theorem PG_imp {t t' : TG} (p : PG X e t) (h : ∀ v σ H Q, t' v σ H Q → t v σ H Q) : PG X e t' := ⟨fun pins s σ H v u Q I r q => p.run pins s σ H v u Q I r (h v σ H Q q)⟩
theorem PGs_imp {t t' : TGs} (p : PGs X es t) (h : ∀ v σ H Q, t' v σ H Q → t v σ H Q) : PGs X es t' := ⟨fun pins s σ H v u Q I r q => p.run pins s σ H v u Q I r (h v σ H Q q)⟩
theorem xgName {i : Nat} {n : Str} (p : PG X (.Name n pos) (gName i)) : PG X (.Name n pos) (rdG X.K fa ca E (stR i)) := PG_imp p fun v σ H Q h => by
  obtain ⟨av, ga, s, fs, r, rel, rv, hn, h⟩ := h
  unfold stR at h
  split at h
  · rename_i d
    cases rv with
    | @fr fs' _ _ p _ own nin rv' =>
      cases rv'
      obtain ⟨r1, r2⟩ := rel.store_ow (i := i) own (hn p (by simp))
      exact h _ _ _ r1 (.id fun a z => (r2 a z).elim .inl fun e => .inr (by simp [e]))
  · split at h
    · exact h.elim
    · rename_i d s1 e
      obtain ⟨r1, r2, r3⟩ := esc_ok rel rv hn e
      obtain ⟨r4, r5⟩ := r1.store_fz (i := i) r2
      exact h _ _ _ r4 (.id fun a z => .inl (r3 a (r5 a z)))
theorem xdName {i : Nat} {n : Str} (p : PG X (.Name n pos) (gName i)) : PG X (.Name n pos) (rdGd X.K fa ca E (stD i)) := PG_imp p fun v σ H Q h => by
  obtain ⟨av, ga, s, d, rel, rep, h⟩ := h
  obtain ⟨r4, r5⟩ := rel.store_fz (i := i) rep
  exact h _ _ _ r4 (.id r5)
theorem xgD (p : PG X e (rdGd X.K fa ca E md)) : PG X e (rdG X.K fa ca E (tgD md)) := PG_imp p fun v σ H Q h => by
  obtain ⟨av, ga, s, fs, r, rel, rv, hn, h⟩ := h
  unfold tgD at h
  split at h
  · exact h.elim
  · rename_i d s1 e
    obtain ⟨r1, r2, r3⟩ := esc_ok rel rv hn e
    have st : Stp (fun a => MuA ga σ s.env a ∨ a ∈ fs) (MuA ga σ s1.env) ga ga H H := .id fun a z => .inl (r3 a z)
    exact ⟨av, ga, s1, d, r1, r2, aft_mono h (fun _ s2 h2 σ' ga2 H2 rel2 st2 => h2 _ _ _ rel2 (st.trans st2)) fun _ _ z => z.sub st fun _ y => y⟩
theorem xsNilG : PGs X [] (rdGs X.K fa ca E []) := PGs_imp pgs_nil fun vs σ H Q h => by
  obtain ⟨av, ga, s, ds, rel, rep, h⟩ := h
  cases rep with
  | nil => exact ⟨rfl, h _ _ _ rel (.id fun _ z => z)⟩
  | cons => exact h.elim
theorem xsConsG (p : PG X e (rdGd X.K fa ca E md)) (ps : PGs X es (rdGs X.K fa ca E ts)) (hs : (assignEach (e :: es) X.env).map (·.2) = assign e X.env :: (assignEach es X.env).map (·.2) := by rfl) : PGs X (e :: es) (rdGs X.K fa ca E (md :: ts)) :=
  PGs_imp (pgs_cons p ps hs) fun vs σ H Q h => by
    obtain ⟨av, ga, s, ds, rel, rep, h⟩ := h
    cases rep with
    | nil => exact h.elim
    | cons r1 r2 =>
      refine ⟨_, _, rfl, av, ga, s, _, rel, r1, aft_mono (aft_bd h) (fun _ s1 h1 σ1 ga1 H1 rel1 st1 => ?_) fun _ _ z => z⟩
      exact ⟨av, ga1, s1, _, rel1, RepL.keep st1.kp r2, aft_mono h1 (fun _ s2 h2 σ2 ga2 H2 rel2 st2 => h2 _ _ _ rel2 (st1.trans st2)) fun _ _ z => z.sub st1 fun _ y => y⟩
theorem xdTup {k : Nat} (hc : X.calm = true) (ps : PGs X es (rdGs X.K fa ca E ts)) (hl : ts.length = es.length := by rfl) (hn : (assignEach es X.env).length = es.length := by rfl) (hst : (assignEach es X.env).findIdx? (·.1) = none := by rfl) :
    PG X (.Tuple es k pos) (rdGd X.K fa ca E (tgT ts)) := PG_imp (pg_tup (n := es.length) hc ps hn hst) fun v σ H Q h => by
  obtain ⟨av, ga, s, d, rel, rep, h⟩ := h
  unfold tgT at h
  split at h
  · rename_i ds
    split at h
    · rename_i hz
      cases rep with
      | tup n q r => exact ⟨_, _, rfl, .inl (.inl q), by rw [r.length, hz, hl], av, ga, s, _, rel, r, h⟩
    · exact h.elim
  · exact h.elim

/-! ### a store into a slot's object -/
def putD {κ : Type} [DecidableEq κ] (ks : List κ) (vs : List D) (k : κ) (d : D) : List κ × List D :=
  if ks.any (fun k' => decide (k' = k)) then (ks, (ks.zip vs).map fun p => if p.1 = k then d else p.2) else (ks ++ [k], vs ++ [d])
theorem putD_ok {κ : Type} [DecidableEq κ] {K : PySem.W.Frag} {A : Addr → Prop} {ga : Nat → Option Addr} {H : Hp} {kvs : List (κ × V)} {ds : List D} {k : κ} {v : V} {d : D} (r : RepL K fa A ga H (kvs.map (·.2)) ds) (h : Rep K fa A ga H v d) :
    (putK kvs k v).map (·.1) = (putD (kvs.map (·.1)) ds k d).1 ∧ RepL K fa A ga H ((putK kvs k v).map (·.2)) (putD (kvs.map (·.1)) ds k d).2 := by
  unfold putK putD
  have ea : ((kvs.map (·.1)).any fun k' => decide (k' = k)) = (kvs.any fun kv => decide (kv.1 = k)) := by rw [List.any_map]; rfl
  rw [ea]
  split
  · refine ⟨?_, ?_⟩
    · rw [List.map_map]
      apply List.map_congr_left
      intro p _
      show (if p.1 = k then (p.1, v) else p).1 = p.1
      split <;> rfl
    · clear ea
      rename_i hc
      clear hc
      induction kvs generalizing ds with
      | nil => cases r; exact .nil
      | cons p t ih =>
        cases r with
        | cons r1 r2 =>
          simp only [List.map_cons, List.zip_cons_cons]
          refine .cons ?_ (ih r2)
          by_cases e : p.1 = k
          · simp only [if_pos e]; exact h
          · simp only [if_neg e]; exact r1
  · refine ⟨by simp, ?_⟩
    rw [List.map_append]
    exact r.append (.one h)
def stC (c k d : D) : Option D := match c, k with
  | .lst xs, .int i => match ixN xs.length i with
    | none => none
    | some j => some (.lst (xs.set j d))
  | .dK ks vs, k => match keyD k with
    | none => none
    | some k => if ks.length < szL then some (.dK (putD ks vs k d).1 (putD ks vs k d).2) else none
  | .dT ks vs, .tup xs => match keysD xs with
    | none => none
    | some k => if ks.length < szL then some (.dT (putD ks vs k d).1 (putD ks vs k d).2) else none
  | _, _ => none
def rSetA : TSet := fun o i v H Q => rSetL o i v H Q ∨ ∃ a H', o = .ref a ∧ DPut H a i v H' ∧ Q H'
theorem set_any (hu : X.A.units + 64 < cLine) : PSet X rSetA := by
  intro pins s σ H o i v ov iv u Q I ro ri rv h
  rcases h with h | ⟨a, H', rfl, g, q⟩
  · exact set_list pins s σ H o i v ov iv u Q I ro ri rv h
  · cases ro
    exact d_setItem (by omega) I g ri rv fun s4 I4 => ⟨H', I4, q⟩
/-- slot[index] = a plain value -/
def wrS (i : Nat) (r : R) (d : D) (s2 : S) : Option (Out Unit) := match nowR r s2, s2.env[i]? with
  | some k, some (.ow c) => match stC c k d with
    | none => none
    | some c' => some (.ok () ⟨s2.env.set i (.ow c'), s2.g⟩)
  | _, _ => none
def tgS (i : Nat) (mi : Ev R) (d : D) : Ev Unit := fun s => match s.env[i]? with
  | some (.ow _) => bd (mi s) (wrS i · d ·)
  | _ => none
theorem stC_ok {K : PySem.W.Frag} {A : Addr → Prop} {ga : Nat → Option Addr} {H : Hp} {p : Addr} {c k d c' : D} {kv v : V} {Q : Hp → Prop} (hp : A p) (own : Own K fa A ga H p c) (rk : RepW K fa A ga H kv k) (rd : Rep K fa A ga H v d) (e : stC c k d = some c')
    (hQ : ∀ H', (∀ a, a ≠ p → H' a = H a) → Own K fa A ga H' p c' → Q H') : rSetA (.ref p) kv v H Q := by
  have kp : ∀ o, Kp A A ga ga H (upd H p o) := fun o => by
    have ne : ∀ a, ¬ A a → upd H p o a = H a := fun a n => upd_ne fun e => n (by rw [e]; exact hp)
    exact ⟨fun a u n _ _ q => q.elim (fun z => .inl ((ne a n).trans z)) fun ⟨o, z⟩ => .inr ⟨o, (ne a n).trans z⟩, fun a xs n q => (ne a n).trans q, fun a xs n q => (ne a n).trans q, fun a z => .inl z, fun _ _ e => e⟩
  have same : ∀ o a, a ≠ p → upd H p o a = H a := fun o a h => upd_ne h
  unfold stC at e
  split at e
  · rename_i xs i
    split at e
    · cases e
    · rename_i j ej
      cases e
      obtain ⟨us, h1, r1⟩ := own
      cases rk.int'
      exact .inl ⟨p, us, i, j, rfl, rfl, h1, by rw [r1.length]; exact ej, hQ _ (same _) ⟨_, upd_same, RepL.keep (kp _) (r1.set j rd)⟩⟩
  · rename_i ks ws k'
    split at e
    · cases e
    · rename_i kk ek
      split at e
      · rename_i hz
        cases e
        obtain ⟨kvs, h1, e1, r1⟩ := own
        cases keyD_ok ek rk
        subst e1
        have hl : kvs.length < sizeLine := by rw [szL_eq]; simpa using hz
        obtain ⟨q1, q2⟩ := putD_ok (k := kk) r1 rd
        exact .inr ⟨p, _, rfl, .k h1 hl, hQ _ (same _) ⟨_, upd_same, q1, RepL.keep (kp _) q2⟩⟩
      · cases e
  · rename_i ks ws xs
    split at e
    · cases e
    · rename_i kk ek
      split at e
      · rename_i hz
        cases e
        obtain ⟨kvs, h1, e1, r1⟩ := own
        obtain ⟨b, us, rfl, ⟨_, h2⟩, r2⟩ := rk.tup'
        have e3 := keysD_ok ek r2
        subst e3 e1
        have hl : kvs.length < sizeLine := by rw [szL_eq]; simpa using hz
        obtain ⟨q1, q2⟩ := putD_ok (k := kk) r1 rd
        exact .inr ⟨p, _, rfl, .t h1 h2 hl, hQ _ (same _) ⟨_, upd_same, q1, RepL.keep (kp _) q2⟩⟩
      · cases e
  · cases e
theorem xdSub {i : Nat} (hu : X.A.units + 64 < cLine) (ho : PE X x (rdE X.K fa ca E (eVar i))) (hi : PE X y (rdE X.K fa ca E m))
    (ha : ∀ v, assign (.Subscript x y pos) X.env v = (do
      let ov ← holding [v] (eval x X.env)
      let iv ← holding [v, ov] (eval y X.env)
      standAt pos
      holding [v, ov, iv] (setItem ov iv v)
      release [v, ov, iv] []) := by intro _; rfl) : PG X (.Subscript x y pos) (rdGd X.K fa ca E (tgS i m)) := PG_imp (pg_sub ho hi (set_any hu) ha) fun v σ H Q h => by
  obtain ⟨av, ga, s, d, rel, rep, h⟩ := h
  unfold tgS at h
  split at h
  · rename_i c0 e0
    refine ⟨av, ga, s, rel, ?_⟩
    have ev : eVar i s = some (.ok (.pk i) s) := by unfold eVar; rw [e0]
    rw [ev]
    show ∀ fs o ga1 H1, Pst X.K fa av ga σ H s ga1 H1 s fs [o] [.pk i] → _
    intro fs o ga1 H1 p1
    have hov : σ[i]? = some (some o) := by
      cases p1.rv with
      | pk z _ => exact z
    refine ⟨av, ga1, s, p1.drop, aft_mono (aft_bd h) (fun r s2 h2 gs kv ga2 H2 p2 => ?_) fun _ _ z => z.sub p1.st fun _ y => y⟩
    unfold wrS at h2
    split at h2
    · rename_i k c e1 e2
      split at h2
      · exact h2.elim
      · rename_i c' e3
        have rel2 := p2.drop
        have st2 := p1.st.trans p2.st
        obtain ⟨p, q1, q2, q3, q4⟩ := rel2.ow i c e2
        rw [hov] at q1
        cases q1
        have e4 : nowL [r] s2 = some [k] := by simp [nowL, e1]
        cases p2.now e4 with
        | cons rk _ =>
          refine stC_ok (.inr (.inr ⟨i, c, e2, hov⟩)) q2 (rk.sub fun a z => z.elim (fun y => .inl (.inl y)) .inr) (Rep.keep st2.kp rep) e3 fun H3 same own => ?_
          obtain ⟨w1, w2⟩ := rel2.write e2 hov same own
          exact h2 _ _ _ w1 (st2.trans w2)
    · exact h2.elim
  · exact h.elim
end
end Ev
end
section
set_option Elab.async false
set_option linter.all false
set_option maxRecDepth 100000
set_option maxHeartbeats 2000000
/-! Ev9: statements, calls of defs, raise, a def's promise by its plain function. -/
namespace Ev
open PySem PySem.Spec PyProof.Rows L2
theorem passN {X : Cx} : Passes (L2N.CX X.prog X.w) X E0 := fun _ _ _ _ _ _ _ h => h.elim fun _ h => h.elim fun _ h => h.elim fun _ h => h.elim fun _ h => h.elim fun _ h => h.2.2.2.2.2.2.2.elim
/-- a def's promise by its body, exceptions with context None -/
theorem Fun_okN {P : Program} {w : World} {K : PySem.W.Frag} {mg : Str → Option Value} {base : Heap} {x qual : Str} {st : Stmt} {f : Addr} {fd : FuncData} {N ps : List Str} {k : Nat} {sp : Sp} (F : Fun K x qual st f fd) (S : FnScope N ps (defScope st)) (len : ∀ vs H Q E, sp vs H Q E → vs.length = ps.length)
    (hb : ∀ (cdv : Value) (A : Around) (outer : List Env) (s : Shared) (H : Hp) (vs : List V) (Q : VK) (E : XK), Room k (A.deeper (envOfC qual (defScope st) s.heap.objs.size f cdv)) → sp vs H Q E →
      ∃ t, PSs (cxOf (L2N.CX P w) P w K mg base N qual (defScope st) f cdv A outer s H E) (defBody st) t ∧ t { nx := fun _ H' => Q .non H', rt := Q } (L2.start N vs) H) : FnOk P w K mg base (L2N.CX P w) (k + 1) f fd ps sp := by
  obtain ⟨_, _, _, _, _, _, cdv, _, _, rfl, lk, hcd⟩ := F.ex
  exact fn_of lk hcd S len fun A outer s H vs Q E hr h => hb cdv A outer s H vs Q E hr h

def sAsg (m : Ev R) (tg : R → Ev Unit) : Ev Ct := fun s => bd (m s) fun r s1 => bd (tg r s1) fun _ s2 => some (.ok .nx s2)
def sExpr (m : Ev R) : Ev Ct := fun s => bd (m s) fun _ s1 => some (.ok .nx s1)
def sNil : Ev Ct := fun s => some (.ok .nx s)
def sSeq (a b : Ev Ct) : Ev Ct := fun s => bd (a s) fun c s1 => match c with
  | .nx => b s1
  | .rt d => some (.ok (.rt d) s1)
  | .bk => some (.ok .bk s1)
  | .ct => some (.ok .ct s1)
def sIf (c : Ev Bool) (a b : Ev Ct) : Ev Ct := fun s => bd (c s) fun k s1 => if k then a s1 else b s1
def sRet (m : Ev R) : Ev Ct := fun s => bd (m s) fun r s1 => match esc r s1 with
  | none => none
  | some (d, s2) => some (.ok (.rt d) s2)
def sRaise (k : Nat) : Ev Ct := fun s => some (.ex ⟨k, none⟩ s.g)
/-- a, b = x, y with plain names -/
def sPar2 (i j : Nat) (ms : Ev (List R)) : Ev Ct := fun s => bd (ms s) fun rs s1 => match resL rs s1 with
  | some ([r1, r2], s2) => bd (stR i r1 s2) fun _ s3 => bd (stR j r2 s3) fun _ s4 => some (.ok .nx s4)
  | _ => none
def sPar3 (i j k : Nat) (ms : Ev (List R)) : Ev Ct := fun s => bd (ms s) fun rs s1 => match resL rs s1 with
  | some ([r1, r2, r3], s2) => bd (stR i r1 s2) fun _ s3 => bd (stR j r2 s3) fun _ s4 => bd (stR k r3 s4) fun _ s5 => some (.ok .nx s5)
  | _ => none
def eCall (np : Nat) (f : Fn) (ms : Ev (List R)) : Ev R := fun s => bd (ms s) fun rs s1 => match escL rs s1 with
  | none => none
  | some (ds, s2) => if ds.length = np then match f ds s2.g with
    | none => none
    | some (.ok d g') => some (.ok (.fz d) ⟨s2.env, g'⟩)
    | some (.ex x g') => some (.ex x g')
    else none
def runB (n : Nat) (body : Ev Ct) : Fn := fun ds g => match body ⟨ds.map .fz ++ List.replicate (n - ds.length) .no, g⟩ with
  | none => none
  | some (.ex x g') => some (.ex x g')
  | some (.ok (.rt d) s) => some (.ok d s.g)
  | some (.ok .nx s) => some (.ok .non s.g)
  | _ => none
/-- a method that changes a slot's object; the arguments are handed on -/
def eMeth (i : Nat) (f : D → List D → Option (D × D)) (ms : Ev (List R)) : Ev R := fun s => match s.env[i]? with
  | some (.ow _) => bd (ms s) fun rs s1 => match escL rs s1 with
    | none => none
    | some (ds, s2) => match s2.env[i]? with
      | some (.ow c) => match f c ds with
        | none => none
        | some (d, c') => some (.ok (.fz d) ⟨s2.env.set i (.ow c'), s2.g⟩)
      | _ => none
  | _ => none
def eMeth0 (i : Nat) (f : D → List D → Option (D × D)) : Ev R := fun s => match s.env[i]? with
  | some (.ow c) => match f c [] with
    | none => none
    | some (d, c') => some (.ok (.fz d) ⟨s.env.set i (.ow c'), s.g⟩)
  | _ => none
def MtOk (K : PySem.W.Frag) (fa : Nat → Addr) (f : D → List D → Option (D × D)) (r : V → List V → Hp → VK → Prop) : Prop :=
  ∀ (A : Addr → Prop) (ga : Nat → Option Addr) (H : Hp) (p : Addr) (c : D) (vs : List V) (ds : List D) (d c' : D) (Q : VK), A p → Own K fa A ga H p c → RepL K fa A ga H vs ds → f c ds = some (d, c') →
    (∀ v H', (∀ a, a ≠ p → H' a = H a) → Own K fa A ga H' p c' → Rep K fa A ga H' v d → Q v H') → r (.ref p) vs H Q

section
variable {K : PySem.W.Frag} {fa ca : Nat → Addr} {av av' M M' A A' : Addr → Prop} {ga ga' ga1 ga2 : Nat → Option Addr} {σ σ' : L2.St} {H H' H1 H2 : Hp} {s s' s1 s2 : S} {fs gs : List Addr} {vs : List V} {rs : List R} {E : XK} {v : V} {res : R}
theorem resL_ok (r : RVs K fa A ga σ H fs vs rs) : ∀ {s s' : S} {rs' : List R}, (∀ a, AvA (avU av fs) ga σ s.env a → A a) → Rel K fa (avU av fs) ga σ H s → resL rs s = some (rs', s') →
    Rel K fa (avU av fs) ga σ H s' ∧ RVs K fa (AvA (avU av fs) ga σ s'.env) ga σ H fs vs rs' ∧ (∀ a, MuA ga σ s'.env a → MuA ga σ s.env a) ∧ (∀ r ∈ rs', ∀ i, r ≠ .pk i) := by
  suffices gen : ∀ (gs : List Addr) {s s' : S} {rs' : List R}, (∀ a, AvA (avU av gs) ga σ s.env a → A a) → (∀ p ∈ fs, p ∈ gs) → Rel K fa (avU av gs) ga σ H s → resL rs s = some (rs', s') →
    Rel K fa (avU av gs) ga σ H s' ∧ RVs K fa (AvA (avU av gs) ga σ s'.env) ga σ H fs vs rs' ∧ (∀ a, MuA ga σ s'.env a → MuA ga σ s.env a) ∧ (∀ r ∈ rs', ∀ i, r ≠ .pk i) from
    fun {s s' rs'} h1 h2 h3 => gen fs h1 (fun _ z => z) h2 h3
  intro gs
  induction r with
  | nil =>
    intro s s' rs' hA hs rel e
    cases e
    exact ⟨rel, .nil, fun _ z => z, fun _ z => nomatch z⟩
  | @fz fs vs rs v d h _ ih =>
    intro s s' rs' hA hs rel e
    simp only [resL, Ev.esc] at e
    split at e
    · cases e
    · rename_i rs2 s2 e2
      cases e
      obtain ⟨r1, r2, r3, r4⟩ := ih hA hs rel e2
      refine ⟨r1, .fz (Rep.keep (Kp.sub fun a z => hA a (z.elim .inl fun y => .inr (r3 a y))) h) r2, r3, fun r hr i => ?_⟩
      rcases List.mem_cons.mp hr with rfl | hr
      · intro z; cases z
      · exact r4 r hr i
  | @fr fs vs rs p d h n _ ih =>
    intro s s' rs' hA hs rel e
    simp only [resL] at e
    split at e
    · cases e
    · rename_i rs2 s2 e2
      cases e
      obtain ⟨r1, r2, r3, r4⟩ := ih hA (fun q hq => hs q (List.mem_cons_of_mem _ hq)) rel e2
      refine ⟨r1, .fr (h.keep (Kp.sub fun a z => hA a (z.elim .inl fun y => .inr (r3 a y))) rfl) n r2, r3, fun r hr i => ?_⟩
      rcases List.mem_cons.mp hr with rfl | hr
      · intro z; cases z
      · exact r4 r hr i
  | @pk fs vs rs i v h _ ih =>
    intro s s' rs' hA hs rel e
    simp only [resL, Ev.esc] at e
    split at e
    · cases e
    · rename_i d s1 e1
      split at e
      · cases e
      · rename_i rs2 s2 e2
        cases e
        have tail : ∀ r ∈ (R.fz d :: rs2), (∀ r ∈ rs2, ∀ i, r ≠ .pk i) → ∀ i, r ≠ .pk i := fun r hr r4 i => by
          rcases List.mem_cons.mp hr with rfl | hr
          · intro z; cases z
          · exact r4 r hr i
        split at e1
        · rename_i d' hi
          cases e1
          obtain ⟨r1, r2, r3, r4⟩ := ih hA hs rel e2
          obtain ⟨v', h1, h2⟩ := rel.fz i d hi
          rw [h] at h1; cases h1
          exact ⟨r1, .fz (Rep.keep (Kp.sub fun a z => z.elim .inl fun y => .inr (r3 a y)) h2) r2, r3, fun r hr => tail r hr r4⟩
        · rename_i d' hi
          cases e1
          obtain ⟨rel1, v', h1, h2⟩ := rel.freeze hi
          rw [h] at h1; cases h1
          obtain ⟨r1, r2, r3, r4⟩ := ih (fun a z => hA a (z.elim .inl fun y => .inr (MuA_set_fz y))) hs rel1 e2
          exact ⟨r1, .fz (Rep.keep (Kp.sub fun a z => z.elim .inl fun y => .inr (r3 a y)) h2) r2, fun a z => MuA_set_fz (r3 a z), fun r hr => tail r hr r4⟩
        · cases e1
/-- one result stored, the others stay -/
theorem stR_ok {i : Nat} {r : R} (rel : Rel K fa (avU av fs) ga σ H s) (rv : RVs K fa (AvA (avU av fs) ga σ s.env) ga σ H fs (v :: vs) (r :: rs)) (hp : ∀ q ∈ r :: rs, ∀ j, q ≠ .pk j) (hn : ∀ p ∈ fs, ¬ av p) :
    ∃ s' gs, stR i r s = some (.ok () s') ∧ Rel K fa (avU av gs) ga (σ.set i (some v)) H s' ∧ RVs K fa (AvA (avU av gs) ga (σ.set i (some v)) s'.env) ga (σ.set i (some v)) H gs vs rs ∧ (∀ a, MuA ga (σ.set i (some v)) s'.env a → MuA ga σ s.env a ∨ a ∈ fs) ∧ (∀ p ∈ gs, p ∈ fs) := by
  have nopk : ∀ {A' : Addr → Prop} {gs : List Addr} {vs : List V} {rs : List R} {σ' : L2.St}, (∀ q ∈ rs, ∀ j, q ≠ .pk j) → RVs K fa A' ga σ H gs vs rs → RVs K fa A' ga σ' H gs vs rs := by
    intro A' gs vs rs σ' hq q
    induction q with
    | nil => exact .nil
    | fz h _ ih => exact .fz h (ih fun q z => hq q (List.mem_cons_of_mem _ z))
    | fr h n _ ih => exact .fr h n (ih fun q z => hq q (List.mem_cons_of_mem _ z))
    | pk h _ _ => exact absurd rfl (hq _ List.mem_cons_self _)
  have hp' : ∀ q ∈ rs, ∀ j, q ≠ .pk j := fun q z => hp q (List.mem_cons_of_mem _ z)
  cases rv with
  | @fz _ _ _ _ d h rv =>
    obtain ⟨r1, r2⟩ := rel.store_fz (i := i) h
    exact ⟨_, fs, rfl, r1, nopk hp' (rv.sub fun a z => z.elim .inl fun y => .inr (r2 a y)), fun a z => .inl (r2 a z), fun _ z => z⟩
  | @fr fs' _ _ p d own nin rv =>
    have e : avU av (p :: fs') = avU (avU av fs') [p] := by
      funext a
      apply propext
      constructor
      · rintro (z | z)
        · exact .inl (.inl z)
        · rcases List.mem_cons.mp z with z | z
          · exact .inr (by simp [z])
          · exact .inl (.inr z)
      · rintro ((z | z) | z)
        · exact .inl z
        · exact .inr (List.mem_cons_of_mem _ z)
        · exact .inr (by rw [List.mem_singleton.mp z]; exact List.mem_cons_self)
    rw [e] at rel own rv
    have np : ¬ avU av fs' p := fun z => z.elim (hn p (by simp)) nin
    obtain ⟨r1, r2⟩ := rel.store_ow (i := i) own np
    refine ⟨_, fs', rfl, r1, nopk hp' (rv.sub fun a z => ?_), fun a z => (r2 a z).elim .inl fun e => .inr (by simp [e]), fun q z => List.mem_cons_of_mem _ z⟩
    rcases z with z | z
    · exact .inl (.inl z)
    · exact (r2 a z).elim .inr fun e => .inl (.inr (by simp [e]))
  | pk h rv => exact absurd rfl (hp _ List.mem_cons_self _)
/-- what stands behind a call -/
theorem Rel.called {g' : G} (rel : Rel K fa av ga σ H s) (gr : GRel K fa (AvG (fun a => av a ∨ OwA σ s.env a) ga') ga' H' g') (st : Stp (gmA ga) (gmA ga') ga ga' H H') :
    Rel K fa av ga' σ H' ⟨s.env, g'⟩ ∧ Stp (MuA ga σ s.env) (MuA ga' σ s.env) ga ga' H H' := by
  have hA : ∀ a, AvA av ga' σ s.env a → AvG (fun a => av a ∨ OwA σ s.env a) ga' a := fun a z => by
    rcases z with z | z | z
    · exact .inl (.inl z)
    · exact .inr z
    · exact .inl (.inr z)
  have kp : Kp (AvA av ga σ s.env) (AvA av ga' σ s.env) ga ga' H H' := by
    have n' : ∀ a, ¬ AvA av ga σ s.env a → ¬ gmA ga a := fun a n z => n (.inr (.inl z))
    refine ⟨fun a u n t _ q => ?_, fun a xs n q => st.st a _ (n' a n) q (fun _ z => nomatch z), fun a o n q => st.st a _ (n' a n) q o.nt, fun a z => ?_, st.gr⟩
    · rcases q with q | ⟨o, q⟩
      · exact .inl (st.st a _ (n' a n) q t)
      · exact .inr ⟨o, st.st a _ (n' a n) q (fun _ z => nomatch z)⟩
    · rcases z with z | z | z
      · exact .inl (.inl z)
      · exact (st.mm a z).elim (fun y => .inl (.inr (.inl y))) .inr
      · exact .inl (.inr (.inr z))
  have nogm : ∀ p, ¬ gmA ga p → H p ≠ none → ∀ k, ga' k ≠ some p := fun p n h k e => (st.mm p ⟨k, e⟩).elim n h
  refine ⟨⟨rel.len, fun i d e => ?_, fun i d e => ?_, rel.inj, gr.sub hA, fun a z => st.dm a (rel.dom a z), fun a k z => nogm a (fun ⟨j, e⟩ => rel.sep a j z e) (rel.dom a z) k⟩, ⟨fun a o n h t => st.st a o (fun z => n (.inl z)) h t, st.dm, fun a z => ?_, st.gr⟩⟩
  · obtain ⟨v, h1, h2⟩ := rel.fz i d e
    exact ⟨v, h1, Rep.keep kp h2⟩
  · obtain ⟨p, h1, h2, h3, h4⟩ := rel.ow i d e
    have ng : ¬ gmA ga p := fun ⟨k, z⟩ => h4 k z
    obtain ⟨u, hu, nt⟩ := h2.nt
    exact ⟨p, h1, h2.keep kp ((st.st p u ng hu nt).trans hu.symm), h3, nogm p ng (by rw [hu]; simp)⟩
  · rcases z with z | z
    · exact (st.mm a z).elim (fun y => .inl (.inl y)) .inr
    · exact .inl (.inr z)
end

section
variable {X : Cx} {fa ca : Nat → Addr} {E : XK} {m a b c : Ev R} {ta tb : Ev Bool} {ms : Ev (List R)} {ma mb : Ev Ct} {tg : R → Ev Unit} {md : D → Ev Unit} {ts : List (D → Ev Unit)} {e x y z : Expr} {es : List Expr} {st : Stmt} {sts ste : List Stmt} {pos : Pos}
theorem xAsg (he : PE X e (rdE X.K fa ca E m)) (hg : PG X x (rdG X.K fa ca E tg)) (hs : swapsWithSole [x] e pos.line X.env = pure false := by rfl) (hw : swappedStores [x] e X.env = pure none := by rfl)
    (h1 : (assignEach [x] X.env).map (·.2) = [assign x X.env] := by rfl) : PS X (.Assign [x] e pos) (rdS X.K fa ca E (sAsg m tg)) := PS_imp (ps_asg he hg hs hw h1) fun De σ H h => by
  obtain ⟨av, ga, s, rel, h⟩ := h
  refine ⟨av, ga, s, rel, aft_mono (aft_bd h) (fun r s1 h1 fs v ga1 H1 p1 => ?_) fun _ _ z => z⟩
  have st : Stp (MuA ga σ s.env) (fun a => MuA ga1 σ s1.env a ∨ a ∈ fs) ga ga1 H H1 := ⟨p1.st.st, p1.st.dm, fun a z => z.elim (p1.st.mm a) fun y => .inr (p1.new a y).1, p1.st.gr⟩
  refine ⟨av, ga1, s1, fs, r, p1.rel, p1.rv, fun p hp => (p1.new p hp).2, aft_mono (aft_bd h1) (fun _ s2 h2 σ2 ga2 H2 rel2 st2 => ?_) fun _ _ z => z.sub st fun _ y => y⟩
  exact h2 _ _ _ rel2 (st.trans st2)
theorem xExpr (he : PE X e (rdE X.K fa ca E m)) (hs : swapsWith e none pos.line X.env = pure false := by rfl) : PS X (.Expr e pos) (rdS X.K fa ca E (sExpr m)) := PS_imp (ps_expr he hs) fun De σ H h => by
  obtain ⟨av, ga, s, rel, h⟩ := h
  exact ⟨av, ga, s, rel, aft_mono (aft_bd h) (fun r s1 h1 fs v ga1 H1 p1 => h1 _ _ _ p1.drop p1.st) fun _ _ z => z⟩
theorem xNil : PSs X [] (rdS X.K fa ca E sNil) := PSs_imp pss_nil fun De σ H ⟨av, ga, s, rel, h⟩ => h _ _ _ rel (.id fun _ z => z)
theorem rdS_seq {De : Ends} {σ : L2.St} {H : Hp} (h : rdS X.K fa ca E (sSeq ma mb) De σ H) : rdS X.K fa ca E ma { De with nx := rdS X.K fa ca E mb De } σ H := by
  obtain ⟨av, ga, s, rel, h⟩ := h
  refine ⟨av, ga, s, rel, aft_mono (aft_bd h) (fun c s1 h1 => ?_) fun _ _ z => z⟩
  cases c with
  | nx =>
    intro σ1 ga1 H1 rel1 st1
    refine ⟨av, ga1, s1, rel1, aft_mono h1 (fun c s2 h2 => ?_) fun _ _ z => z.sub st1 fun _ y => y⟩
    cases c with
    | nx => exact fun σ2 ga2 H2 rel2 st2 => h2 _ _ _ rel2 (st1.trans st2)
    | bk => exact fun σ2 ga2 H2 rel2 st2 => h2 _ _ _ rel2 (st1.trans st2)
    | ct => exact fun σ2 ga2 H2 rel2 st2 => h2 _ _ _ rel2 (st1.trans st2)
    | rt d => exact fun v ga2 H2 g r st2 => h2 _ _ _ g r (st1.trans st2)
  | bk => exact h1
  | ct => exact h1
  | rt d => exact h1
theorem xCons (h1 : PS X st (rdS X.K fa ca E ma)) (h2 : PSs X sts (rdS X.K fa ca E mb)) : PSs X (st :: sts) (rdS X.K fa ca E (sSeq ma mb)) := PSs_imp (pss_cons h1 h2) fun _ _ _ h => rdS_seq h
theorem xLast (h1 : PS X st (rdS X.K fa ca E ma)) : PSs X [st] (rdS X.K fa ca E ma) := pss_one h1
theorem xSIf (hc : PT X z (rdT X.K fa ca E ta)) (ha : PSs X sts (rdS X.K fa ca E ma)) (hb : PSs X ste (rdS X.K fa ca E mb)) : PS X (.If z sts ste pos) (rdS X.K fa ca E (sIf ta ma mb)) := PS_imp (ps_if hc ha hb) fun De σ H h => by
  obtain ⟨av, ga, s, rel, h⟩ := h
  refine ⟨av, ga, s, rel, aft_mono (aft_bd h) (fun k s1 h1 ga1 H1 rel1 st1 => ?_) fun _ _ z => z⟩
  have fin : ∀ {m : Ev Ct}, aft (m s1) (Wct X.K fa De av (MuA ga σ s.env) ga H) (XW X.K fa ca E av (MuA ga σ s.env) ga H) → rdS X.K fa ca E m De σ H1 := fun {m} h1 => by
    refine ⟨av, ga1, s1, rel1, aft_mono h1 (fun c s2 h2 => ?_) fun _ _ z => z.sub st1 fun _ y => y⟩
    cases c with
    | nx => exact fun σ2 ga2 H2 rel2 st2 => h2 _ _ _ rel2 (st1.trans st2)
    | bk => exact fun σ2 ga2 H2 rel2 st2 => h2 _ _ _ rel2 (st1.trans st2)
    | ct => exact fun σ2 ga2 H2 rel2 st2 => h2 _ _ _ rel2 (st1.trans st2)
    | rt d => exact fun v ga2 H2 g r st2 => h2 _ _ _ g r (st1.trans st2)
  cases k with
  | true => exact iteT (fin h1)
  | false => exact iteF (fin h1)
theorem xRet (he : PE X e (rdE X.K fa ca E m)) : PS X (.Return (some e) pos) (rdS X.K fa ca E (sRet m)) := PS_imp (ps_ret he) fun De σ H h => by
  obtain ⟨av, ga, s, rel, h⟩ := h
  refine ⟨av, ga, s, rel, aft_mono (aft_bd h) (fun r s1 h1 fs v ga1 H1 p1 => ?_) fun _ _ z => z⟩
  split at h1
  · exact h1.elim
  · rename_i d s2 e
    have e2 : escL [r] s1 = some ([d], s2) := by simp [escL, e]
    obtain ⟨r1, r2, r3⟩ := p1.esc e2
    have hA : ∀ a, AvG av ga1 a → AvA av ga1 σ s2.env a := fun a z => z.elim .inl fun y => .inr (.inl y)
    cases r2 with
    | cons h _ => exact h1 _ _ _ (r1.gl.sub hA) (Rep.keep (Kp.sub hA) h) ⟨r3.st, r3.dm, fun a z => r3.mm a (.inl z), r3.gr⟩
theorem xRaise {k : Nat} {B newId initId : String} {bmB : List Value} {n msg : Str} {j : Nat} {p p2 p3 : Pos} (hc : X.calm = true) (tk : L2N.Takes X (fun cls d _ H => E cls d H)) (F : PySem.ExcBaseFacts B newId initId bmB) (q : PySem.W.excIn X.K (ca k) bmB newId = true) (gC : X.mg n = some (.ref (ca k)))
    (kC : PySem.W.keepIn X.K (.ref (ca k)) = true) (r : Raises X (.ref (ca k))) (hg : Gl X n) (hdb : (n == ("__debug__" : Str)) = false := by decide) : PS X (.Raise (some (.Call (.Name n p) [.Constant (.str msg) j p2] [] p3)) none pos) (rdS X.K fa ca E (sRaise k)) :=
  PS_imp (L2N.ps_raise hc tk (L2N.pmk_own F q gC kC r hg hdb)) fun De σ H ⟨av, ga, s, rel, h⟩ =>
    h none ga H (rel.gl.sub fun a z => z.elim .inl fun y => .inr (.inl y)) ⟨fun _ => rfl, fun e he => nomatch he⟩ (.id fun a z => .inl z)
/-- f(..), f a def of the text -/
theorem xCall {CX : CXT} {k np : Nat} {f : Fn} {g : Addr} {fd : FuncData} {ps : List Str} {n : Str} {p : Pos} (F : FnOk X.prog X.w X.K X.mg X.base CX k g fd ps (spOf X.K fa ca np f)) (hr : Room k X.A) (hg : Gl X n) (hm : X.mg n = some (.ref g)) (hk : PySem.W.keepIn X.K (.ref g) = true) (hb : Binds X.K fd ps [])
    (hx : Passes CX X E) (ha : PA X (e :: es) (rdA X.K fa ca E ms)) (hl : (e :: es).length = np := by rfl) (hst : (e :: es).all notStar = true := by rfl) (hdb : (n == ("__debug__" : Str)) = false := by decide) : PE X (.Call (.Name n p) (e :: es) [] pos) (rdE X.K fa ca E (eCall np f ms)) := by
  have hst' := hst
  rw [List.all_cons, Bool.and_eq_true] at hst'
  refine PE_imp (pe_call F hr hg hm hk hb .nil hx ha hdb (star_of hst'.1) (noStars hst'.2)) fun σ H Q h => ?_
  obtain ⟨av, ga, s, rel, h⟩ := h
  refine ⟨av, ga, s, rel, aft_mono (aft_bd h) (fun rs s1 h1 fs vs ga1 H1 p1 => ?_) fun _ _ z => z⟩
  split at h1
  · exact h1.elim
  · rename_i ds s2 e
    split at h1
    · rename_i hz
      obtain ⟨r1, r2, r3⟩ := p1.esc e
      have hA : ∀ a, AvG (fun a => av a ∨ OwA σ s2.env a) ga1 a → AvA av ga1 σ s2.env a := fun a z => by
        rcases z with (z | z) | z
        · exact .inl z
        · exact .inr (.inr z)
        · exact .inr (.inl z)
      refine ⟨by rw [List.append_nil, r2.length, hz], fun a => av a ∨ OwA σ s2.env a, ga1, s2.g, ds, r1.gl.sub hA, by rw [List.append_nil]; exact RepL.keep (Kp.sub hA) r2, fun a z => r1.av_dom a (z.elim .inl fun y => .inr (.inr y)), fun a k z e => ?_, ?_⟩
      · rcases z with z | ⟨i, d, z1, z2⟩
        · exact r1.sep a k z e
        · obtain ⟨q, q1, _, _, q4⟩ := r1.ow i d z1
          rw [z2] at q1; cases q1
          exact q4 k e
      · split at h1
        · exact h1.elim
        · rename_i d g' hf
          try rw [hf]
          intro v ga2 H2 gr rep st
          obtain ⟨q1, q2⟩ := r1.called gr st
          have hB : ∀ a, AvA av ga2 σ s2.env a → AvG (fun a => av a ∨ OwA σ s2.env a) ga2 a := fun a z => by
            rcases z with z | z | z
            · exact .inl (.inl z)
            · exact .inr z
            · exact .inl (.inr z)
          exact h1 [] v ga2 H2 ⟨by rw [avU_nil]; exact q1, by rw [avU_nil]; exact .fz (Rep.keep (Kp.sub hB) rep) .nil, (fun _ z => nomatch z), r3.trans q2⟩
        · rename_i x g' hf
          try rw [hf]
          exact XW.sub h1 (r3.trans (.id fun a z => .inl z)) fun a z => .inl z
    · exact h1.elim
/-- a def whose body is read by a plain function keeps the function's promise -/
theorem spOf_start {N : List Str} {np : Nat} {body : Ev Ct} {K : PySem.W.Frag} {vs : List V} {H : Hp} {Q : VK} (h : spOf K fa ca np (runB N.length body) vs H Q E) : rdS K fa ca E body { nx := fun _ H' => Q .non H', rt := Q } (L2.start N vs) H := by
  obtain ⟨hl, av, ga, g, ds, gr, rep, dom, sep, h⟩ := h
  have e0 : ∀ (i : Nat) (sl : Slot), (ds.map Slot.fz ++ List.replicate (N.length - ds.length) .no)[i]? = some sl → (∃ d, ds[i]? = some d ∧ sl = .fz d) ∨ sl = .no := fun i sl e => by
    by_cases hi : i < ds.length
    · rw [List.getElem?_append_left (by simpa using hi), List.getElem?_map] at e
      cases q : ds[i]? with
      | none => rw [q] at e; cases e
      | some d => rw [q] at e; cases e; exact .inl ⟨d, rfl, rfl⟩
    · rw [List.getElem?_append_right (by simpa using hi)] at e
      exact .inr (List.mem_replicate.mp (List.mem_of_getElem? e)).2
  have noOw : ∀ a, ¬ OwA (L2.start N vs) (ds.map Slot.fz ++ List.replicate (N.length - ds.length) .no) a := by
    rintro a ⟨i, d, z, _⟩
    rcases e0 i _ z with ⟨_, _, q⟩ | q <;> cases q
  have hA : ∀ a, AvA av ga (L2.start N vs) (ds.map Slot.fz ++ List.replicate (N.length - ds.length) .no) a → AvG av ga a := fun a z => by
    rcases z with z | z | z
    · exact .inl z
    · exact .inr z
    · exact (noOw a z).elim
  have ml : ∀ a, MuA ga (L2.start N vs) (ds.map Slot.fz ++ List.replicate (N.length - ds.length) .no) a → gmA ga a := fun a z => z.elim (fun y => y) fun y => (noOw a y).elim
  have hlen := rep.length
  refine ⟨av, ga, ⟨ds.map Slot.fz ++ List.replicate (N.length - ds.length) .no, g⟩, ⟨?_, fun i d e => ?_, fun i d e => ?_, fun i j d e p z => ?_, gr.sub hA, dom, sep⟩, ?_⟩
  · simp only [L2.start, List.length_append, List.length_map, List.length_replicate, hlen]
  · rcases e0 i _ e with ⟨d', q1, q2⟩ | q
    · cases q2
      obtain ⟨v, q3, q4⟩ := rep.get q1
      refine ⟨v, ?_, Rep.keep (Kp.sub hA) q4⟩
      have hi : i < vs.length := (List.getElem?_eq_some_iff.mp q3).1
      unfold L2.start
      rw [List.getElem?_append_left (by simpa using hi), List.getElem?_map, q3]
      rfl
    · cases q
  · rcases e0 i _ e with ⟨_, _, q⟩ | q <;> cases q
  · rcases e0 i _ z with ⟨_, _, q⟩ | q <;> cases q
  · have st0 : Stp (gmA ga) (MuA ga (L2.start N vs) (ds.map Slot.fz ++ List.replicate (N.length - ds.length) .no)) ga ga H H := .id ml
    unfold runB at h
    split at h
    · exact h.elim
    · rename_i d g' hb
      split at hb
      · cases hb
      · cases hb
      · rename_i d' s' hb'
        cases hb
        rw [hb']
        exact fun v ga2 H2 gr2 rep2 st2 => h v ga2 H2 gr2 rep2 (st0.trans st2)
      · rename_i s' hb'
        cases hb
        rw [hb']
        intro σ2 ga2 H2 rel2 st2
        have hB : ∀ a, AvG av ga2 a → AvA av ga2 σ2 s'.env a := fun a z => z.elim .inl fun y => .inr (.inl y)
        exact h .non ga2 H2 (rel2.gl.sub hB) .non ((st0.trans st2).trans (.id fun a z => .inl z))
      · cases hb
    · rename_i x g' hb
      split at hb
      · cases hb
      · rename_i x' g2 hb'
        cases hb
        rw [hb']
        exact XW.sub h st0 fun _ z => z
      · cases hb
      · cases hb
      · cases hb
end
end Ev
end
section
set_option Elab.async false
set_option linter.all false
set_option maxRecDepth 100000
set_option maxHeartbeats 2000000
/-! Ev10: iterables as plain lists of items; for. -/
namespace Ev
open PySem PySem.Spec PyProof.Rows L2

inductive Src where
  | con (ds : List D) | slot (i : Nat)
section
variable (K : PySem.W.Frag) (fa : Nat → Addr)
/-- while what stood at the start stands, J gives the items ds one by one -/
def ConOk (J : It) (A : Addr → Prop) (ga : Nat → Option Addr) (H : Hp) (ds : List D) : Prop := ∀ A' ga' H1, Kp A A' ga ga' H H1 → (∀ a o, ¬ A a → H a = some o → (∀ ps, o ≠ .tbl ps) → H1 a = some o) → (∀ a, A' a → H1 a ≠ none) →
  J.stop ds.length H1 ∧ ∀ (i : Nat) (d : D), ds[i]? = some d → J.go i H1 ∧ ∀ x H2, J.yld i H1 x H2 → (∀ a o, H1 a = some o → H2 a = some o) ∧ Rep K fa A' ga' H2 x d
def SrcOk (J : It) (σ : L2.St) (A : Addr → Prop) (ga : Nat → Option Addr) (H : Hp) : Src → Prop
  | .con ds => ConOk K fa J A ga H ds
  | .slot i => ∃ a, σ[i]? = some (some (V.ref a)) ∧ J = Itl K a
variable (ca : Nat → Addr)
def rdI (E : XK) (m : Ev Src) : TI := fun σ H R => ∃ av ga s, Rel K fa av ga σ H s ∧ aft (m s) (fun sr s' => ∀ ga' H' J, Rel K fa av ga' σ H' s' → Stp (MuA ga σ s.env) (MuA ga' σ s'.env) ga ga' H H' → SrcOk K fa J σ (AvA av ga' σ s'.env) ga' H' sr → R J H')
  (XW K fa ca E av (MuA ga σ s.env) ga H)
end
/-- a list or a tuple that is read from now on -/
def iSeq (m : Ev R) : Ev Src := fun s => bd (m s) fun r s1 => match esc r s1 with
  | some (.lst ds, s2) => some (.ok (.con ds) s2)
  | some (.tup ds, s2) => some (.ok (.con ds) s2)
  | some (.ktup ds, s2) => some (.ok (.con ds) s2)
  | _ => none
/-- the list of a slot, that stays the slot's own -/
def iSlot (i : Nat) : Ev Src := fun s => match s.env[i]? with
  | some (.ow (.lst _)) => some (.ok (.slot i) s)
  | _ => none
def rngD (lo : Int) (n : Nat) : List D := (List.range n).map fun (k : Nat) => D.int (lo + (k : Int))
def iRng1 (m : Ev (List R)) : Ev Src := fun s => bd (m s) fun rs s1 => match nowL rs s1 with
  | some [.int j] => if -(4611686018427387904) ≤ j ∧ j < 4611686018427387904 then some (.ok (.con (rngD 0 j.toNat)) s1) else none
  | _ => none
def iRng2 (m : Ev (List R)) : Ev Src := fun s => bd (m s) fun rs s1 => match nowL rs s1 with
  | some [.int i, .int j] => if (-(4611686018427387904) ≤ i ∧ i < 4611686018427387904) ∧ (-(4611686018427387904) ≤ j ∧ j < 4611686018427387904) then some (.ok (.con (rngD i (j - i).toNat)) s1) else none
  | _ => none
def enD : Nat → List D → List D
  | _, [] => []
  | k, d :: ds => .tup [.int (k : Int), d] :: enD (k + 1) ds
def iEn (m : Ev (List R)) : Ev Src := fun s => bd (m s) fun rs s1 => match escL rs s1 with
  | some ([.lst ds], s2) => some (.ok (.con (enD 0 ds)) s2)
  | some ([.tup ds], s2) => some (.ok (.con (enD 0 ds)) s2)
  | _ => none
def zipD : List D → List D → List D
  | a :: as, b :: bs => .tup [a, b] :: zipD as bs
  | _, _ => []
/-- a tuple's items -/
def tupD : D → Option (List D)
  | .tup ds => some ds
  | .ktup ds => some ds
  | _ => none
def iZp (m : Ev (List R)) : Ev Src := fun s => bd (m s) fun rs s1 => match escL rs s1 with
  | some ([.lst ds, .lst es], s2) => some (.ok (.con (zipD ds es)) s2)
  | some ([d, e], s2) => match tupD d, tupD e with
    | some ds, some es => some (.ok (.con (zipD ds es)) s2)
    | _, _ => none
  | _ => none

/-! ### the iterators -/
section
variable {K : PySem.W.Frag} {fa : Nat → Addr} {A : Addr → Prop} {ga : Nat → Option Addr} {H : Hp}
theorem con_list {a : Addr} {xs : List V} {ds : List D} (n : ¬ A a) (h : H a = some (.lst xs)) (r : RepL K fa A ga H xs ds) : ConOk K fa (Itl K a) A ga H ds := fun A' ga' H1 kp same dom => by
  have h1 := kp.ls _ _ n h
  have r1 := RepL.keep kp r
  have q : SqL K H1 a xs := .inl (.inl h1)
  refine ⟨⟨xs, q, by rw [r.length]; exact Nat.le_refl _⟩, fun i d e => ?_⟩
  obtain ⟨v, e1, e2⟩ := r1.get e
  refine ⟨⟨xs, v, q, e1⟩, fun x H2 y => ?_⟩
  obtain ⟨rfl, y2⟩ := y
  have e3 := y2 xs q
  rw [e1] at e3
  cases e3
  exact ⟨fun _ _ h => h, e2⟩
theorem con_tup {a : Addr} {xs : List V} {ds : List D} (q : ∀ A' ga' H1, Kp A A' ga ga' H H1 → SqT K H1 a xs) (r : RepL K fa A ga H xs ds) : ConOk K fa (Itt K a) A ga H ds := fun A' ga' H1 kp same dom => by
  have r1 := RepL.keep kp r
  have q : SqT K H1 a xs := q _ _ _ kp
  refine ⟨⟨xs, q, by rw [r.length]; exact Nat.le_refl _⟩, fun i d e => ?_⟩
  obtain ⟨v, e1, e2⟩ := r1.get e
  refine ⟨⟨xs, v, q, e1⟩, fun x H2 y => ?_⟩
  obtain ⟨rfl, y2⟩ := y
  have e3 := y2 xs q
  rw [e1] at e3
  cases e3
  exact ⟨fun _ _ h => h, e2⟩
theorem con_rng {lo : Int} {n : Nat} : ConOk K fa (Itr lo n) A ga H (rngD lo n) := fun A' ga' H1 kp same dom => by
  refine ⟨by show n ≤ _; simp [rngD], fun i d e => ?_⟩
  unfold rngD at e
  rw [List.getElem?_map] at e
  cases q : (List.range n)[i]? with
  | none => rw [q] at e; cases e
  | some j =>
    rw [q] at e
    cases e
    rw [List.getElem?_eq_some_iff] at q
    obtain ⟨q1, q2⟩ := q
    rw [List.getElem_range] at q2
    subst q2
    refine ⟨by show i < n; simpa using q1, fun x H2 y => ?_⟩
    obtain ⟨rfl, rfl⟩ := y
    exact ⟨fun _ _ h => h, .int _⟩
theorem enD_length : ∀ {k : Nat} {ds : List D}, (enD k ds).length = ds.length
  | _, [] => rfl
  | k, d :: ds => by simp [enD, enD_length (k := k + 1) (ds := ds)]
theorem enD_get : ∀ {k i : Nat} {ds : List D} {d : D}, (enD k ds)[i]? = some d → ∃ e, ds[i]? = some e ∧ d = .tup [.int ((k + i : Nat) : Int), e]
  | _, _, [], _, h => by simp [enD] at h
  | k, 0, d :: ds, e, h => by
    simp only [enD, List.getElem?_cons_zero, Option.some.injEq] at h
    exact ⟨d, rfl, by rw [← h]; simp⟩
  | k, i + 1, d :: ds, e, h => by
    simp only [enD, List.getElem?_cons_succ] at h
    obtain ⟨x, h1, h2⟩ := enD_get h
    exact ⟨x, h1, by rw [h2]; simp only [D.tup.injEq, List.cons.injEq, D.int.injEq, and_true]; omega⟩
theorem zipD_length : ∀ {ds es : List D}, (zipD ds es).length = min ds.length es.length
  | [], _ => by simp [zipD]
  | _ :: _, [] => by simp [zipD]
  | a :: as, b :: bs => by simp only [zipD, List.length_cons, zipD_length (ds := as) (es := bs)]; omega
theorem zipD_get : ∀ {i : Nat} {ds es : List D} {d : D}, (zipD ds es)[i]? = some d → ∃ x y, ds[i]? = some x ∧ es[i]? = some y ∧ d = .tup [x, y]
  | _, [], _, _, h => by simp [zipD] at h
  | _, _ :: _, [], _, h => by simp [zipD] at h
  | 0, a :: as, b :: bs, d, h => by
    simp only [zipD, List.getElem?_cons_zero, Option.some.injEq] at h
    exact ⟨a, b, rfl, rfl, h.symm⟩
  | i + 1, a :: as, b :: bs, d, h => by
    simp only [zipD, List.getElem?_cons_succ] at h
    obtain ⟨x, y, h1, h2, h3⟩ := zipD_get h
    exact ⟨x, y, h1, h2, h3⟩
theorem pair_rep {A' : Addr → Prop} {ga' : Nat → Option Addr} {H1 : Hp} {T : Addr} {x y : V} {d e : D} (dom : ∀ a, A' a → H1 a ≠ none) (hT : H1 T = none) (rx : Rep K fa A' ga' H1 x d) (ry : Rep K fa A' ga' H1 y e) :
    (∀ a o, H1 a = some o → upd H1 T (.tup [x, y]) a = some o) ∧ Rep K fa A' ga' (upd H1 T (.tup [x, y])) (.ref T) (.tup [d, e]) := by
  have ext : ∀ a o, H1 a = some o → upd H1 T (.tup [x, y]) a = some o := fun a o h => by rw [upd_ne (ne_of_none h hT)]; exact h
  have kp : Kp A' A' ga' ga' H1 (upd H1 T (.tup [x, y])) := ⟨fun a u _ _ _ q => q.elim (fun z => .inl (ext _ _ z)) fun ⟨o, z⟩ => .inr ⟨o, ext _ _ z⟩, fun a _ _ q => ext _ _ q, fun a _ _ q => ext _ _ q, fun a z => .inl z, fun _ _ e => e⟩
  exact ⟨ext, .tup (fun z => dom T z hT) upd_same (.cons (Rep.keep kp rx) (.cons (Rep.keep kp ry) .nil))⟩
theorem con_enum {a : Addr} {xs : List V} {ds : List D} (n : ¬ A a) (h : H a = some (.lst xs)) (r : RepL K fa A ga H xs ds) : ConOk K fa (Ite K a) A ga H (enD 0 ds) := fun A' ga' H1 kp same dom => by
  have h1 := kp.ls _ _ n h
  have r1 := RepL.keep kp r
  have q : SqL K H1 a xs := .inl (.inl h1)
  refine ⟨⟨xs, q, by rw [enD_length, r.length]; exact Nat.le_refl _⟩, fun i d e => ?_⟩
  obtain ⟨d', e0, rfl⟩ := enD_get e
  obtain ⟨v, e1, e2⟩ := r1.get e0
  refine ⟨⟨xs, v, q, e1⟩, fun x H2 y => ?_⟩
  obtain ⟨T, w, rfl, hT, rfl, y2⟩ := y
  have e3 := y2 xs q
  rw [e1] at e3
  cases e3
  rw [Nat.zero_add]
  exact pair_rep dom hT (.int _) e2
theorem con_zip {a b : Addr} {xs ys : List V} {ds es : List D} (n : ¬ A a) (h : H a = some (.lst xs)) (r : RepL K fa A ga H xs ds) (n' : ¬ A b) (h' : H b = some (.lst ys)) (r' : RepL K fa A ga H ys es) : ConOk K fa (Itz K a b) A ga H (zipD ds es) := fun A' ga' H1 kp same dom => by
  have h1 := kp.ls _ _ n h
  have h2 := kp.ls _ _ n' h'
  have r1 := RepL.keep kp r
  have r2 := RepL.keep kp r'
  have q1 : SqL K H1 a xs := .inl (.inl h1)
  have q2 : SqL K H1 b ys := .inl (.inl h2)
  have l1 := r.length
  have l2 := r'.length
  refine ⟨⟨xs, ys, q1, q2, by rw [zipD_length]; omega⟩, fun i d e => ?_⟩
  obtain ⟨d1, d2, e1, e2, rfl⟩ := zipD_get e
  obtain ⟨v, e3, e4⟩ := r1.get e1
  obtain ⟨w, e5, e6⟩ := r2.get e2
  refine ⟨⟨xs, ys, v, w, q1, q2, e3, e5⟩, fun x H2 y => ?_⟩
  obtain ⟨T, v', w', rfl, hT, rfl, y2, y3⟩ := y
  have e7 := y2 xs q1
  have e8 := y3 ys q2
  rw [e3] at e7
  rw [e5] at e8
  cases e7
  cases e8
  exact pair_rep dom hT e4 e6
theorem tupD_ok {d : D} {ds : List D} {v : V} (h : tupD d = some ds) (r : Rep K fa A ga H v d) : ∃ a xs, v = .ref a ∧ (∀ A' ga' H1, Kp A A' ga ga' H H1 → SqT K H1 a xs) ∧ RepL K fa A ga H xs ds := by
  cases r with
  | tup n q r => cases h; exact ⟨_, _, rfl, fun _ _ _ kp => .inl (.inl (kp.tp _ (.t _) n q)), r⟩
  | ktup n q _ r => cases h; exact ⟨_, _, rfl, fun _ _ _ kp => .inl (.inr ⟨_, kp.tp _ (.f _ _) n q⟩), r⟩
  | non => cases h
  | bl => cases h
  | int => cases h
  | str => cases h
  | lst => cases h
  | dK => cases h
  | dT => cases h
  | fn => cases h
  | gref => cases h
theorem con_zipT {a b : Addr} {xs ys : List V} {ds es : List D} (h : ∀ A' ga' H1, Kp A A' ga ga' H H1 → SqT K H1 a xs) (r : RepL K fa A ga H xs ds) (h' : ∀ A' ga' H1, Kp A A' ga ga' H H1 → SqT K H1 b ys) (r' : RepL K fa A ga H ys es) : ConOk K fa (RZ.ItzT K a b) A ga H (zipD ds es) := fun A' ga' H1 kp same dom => by
  have r1 := RepL.keep kp r
  have r2 := RepL.keep kp r'
  have q1 : SqT K H1 a xs := h _ _ _ kp
  have q2 : SqT K H1 b ys := h' _ _ _ kp
  have l1 := r.length
  have l2 := r'.length
  refine ⟨⟨xs, ys, q1, q2, by rw [zipD_length]; omega⟩, fun i d e => ?_⟩
  obtain ⟨d1, d2, e1, e2, rfl⟩ := zipD_get e
  obtain ⟨v, e3, e4⟩ := r1.get e1
  obtain ⟨w, e5, e6⟩ := r2.get e2
  refine ⟨⟨xs, ys, v, w, q1, q2, e3, e5⟩, fun x H2 y => ?_⟩
  obtain ⟨T, v', w', rfl, hT, rfl, y2, y3⟩ := y
  have e7 := y2 xs q1
  have e8 := y3 ys q2
  rw [e3] at e7
  rw [e5] at e8
  cases e7
  cases e8
  exact pair_rep dom hT e4 e6
end

/-! ### enumerate of a list or a tuple -/

set_option maxHeartbeats 4000000 in
theorem meets_enumerate_newT {v : Value} {o : Obj} {H : Heap → Prop} (B : Begins v o H) :
    Meets (Builtin.«enumerate.__new__» ⟨[.type "enumerate", v], []⟩) (fun _ R s => H s.heap ∧
      R (.ok (.ret (.ref (s.heap.push o).objs.size))) { s with heap := (s.heap.push o).push { cls := .type "enumerate", data := .fields #[.none, .bool false, .ref s.heap.objs.size, rawInt 0, .none, .none] } }) :=
  .of_wp fun prog w A R s h => by
    obtain ⟨hp, g, d, tk, os⟩ := s; obtain ⟨h1, h⟩ := h
    have hsub := sub_enumerate
    have q1 : ∀ {A' : Around} {E : Value → Shared → Prop} {Q : Value → Shared → Prop}, Q (.ref hp.objs.size) ⟨hp.push o, g, d, tk, os⟩ → wpAny (model prog w) A' (pyIter v) Q E ⟨hp, g, d, tk, os⟩ :=
      fun q => B.iter prog w _ _ ⟨hp, g, d, tk, os⟩ _ h1 q
    wp_walk using q1
    refine wpAny_stack_any fun st => wpAny_pure ?_
    split
    · rename_i c _ _ _ _ _
      cases (c == Value.type "enumerate")
      · wp_walk using q1
        exact ⟨_, rfl, h⟩
      · wp_walk using q1
        exact ⟨_, rfl, h⟩
    · wp_walk using q1
      exact ⟨_, rfl, h⟩
section
variable {prog : Program} {w : World} {A : Around} {E : Value → Shared → Prop} {s : Shared}
theorem enum_beginsT {v : Value} {o : Obj} {H : Heap → Prop} {Q : Value → Shared → Prop} (B : Begins v o H) (h1 : H s.heap)
    (h : ∀ h', IsEnum h' (s.heap.objs.size + 1) s.heap.objs.size 0 .none → h'.get? s.heap.objs.size = some o → h'.objs.size = s.heap.objs.size + 2 →
      (∀ b o, s.heap.get? b = some o → h'.get? b = some o) → Q (.ref (s.heap.objs.size + 1)) { s with heap := h' }) :
    wpAny (model prog w) A (call (.type "enumerate") [v]) Q E s := by
  refine callType_new F.called_enumerate (by decide) (F.typeCall_enumerate_1 _) (F.newCall_enumerate_1 _) (fun obj => F.args_object_init_2 obj _) F.entry_enumerate_new
    (meets_enumerate_newT B) ⟨h1, ?_⟩
  have hz : (s.heap.push o).objs.size = s.heap.objs.size + 1 := Heap.size_push ..
  show _ ∧ _
  rw [hz]
  have he : IsEnum ((s.heap.push o).push { cls := .type "enumerate", data := .fields #[.none, .bool false, .ref s.heap.objs.size, rawInt 0, .none, .none] }) (s.heap.objs.size + 1) s.heap.objs.size 0 .none := by
    have := Heap.get?_push_size (s.heap.push o) (o := { cls := .type "enumerate", data := .fields #[.none, .bool false, .ref s.heap.objs.size, rawInt 0, .none, .none] }) rfl
    rw [hz] at this; exact this
  refine ⟨⟨_, he, rfl⟩, h _ he (Heap.get?_push_of_some _ (Heap.get?_push_size _ B.free)) (by rw [Heap.size_push, hz]) fun b o x => Heap.get?_push_of_some _ (Heap.get?_push_of_some _ x)⟩
end
def IteT (K : PySem.W.Frag) (a : Addr) : It :=
  ⟨fun i H => ∃ (xs : List V) (x : V), SqT K H a xs ∧ xs[i]? = some x, fun i H v H' => ∃ T x, v = .ref T ∧ H T = none ∧ H' = upd H T (.tup [.int (i : Nat), x]) ∧ ∀ xs, SqT K H a xs → xs[i]? = some x, fun i H => ∃ xs : List V, SqT K H a xs ∧ xs.length ≤ i⟩
theorem turn_enumT {P : Program} {w : World} {K : PySem.W.Frag} {elts : List Expr} {kk : Nat} {tpos : Pos} (a e it : Addr) :
    Turn P w K (.Tuple elts kk tpos) (IteT K a) [e, it] e (fun i h => (∃ old, IsEnum h e it ((i : Nat) : Int) old) ∧ h.IsTupleIter it a i ∧ e ≠ it ∧ a ≠ it ∧ a ≠ e) where
  mem := by simp
  obj := fun i h st b hb => by
    obtain ⟨⟨old, he⟩, ⟨o, ho, hc, hd⟩, _⟩ := st
    have e' : b = e ∨ b = it := by simpa using hb
    rcases e' with z | z
    · rw [z]; exact ⟨_, he, fun v q => nomatch q⟩
    · rw [z]; exact ⟨o, ho, fun v q => by rw [hd] at q; cases q⟩
  keep := fun i h h' st k => let ⟨⟨old, he⟩, hi, hne⟩ := st; ⟨⟨old, k e (by simp) _ he⟩, hi.at fun o q => k it (by simp) o q, hne⟩
  item := by
    intro X hP hw hK hc i pins s σ H E I hf st hg
    subst hP hw hK
    obtain ⟨⟨old, he⟩, hit, hne, hai, hae⟩ := st
    obtain ⟨xs, x, hq, hx⟩ := hg
    obtain ⟨its, rv, p, hz⟩ := I.tuple hq
    obtain ⟨u, hu, ru⟩ := rv.get hx
    have p : s.heap.IsTuple a its.toArray := p
    have hel : e < s.heap.objs.size := Heap.lt_size he
    have hil : it < s.heap.objs.size := by obtain ⟨_, q, _⟩ := hit; exact Heap.lt_size q
    have hlt : i < its.toArray.size := by
      have := (List.getElem?_eq_some_iff.mp hu).1
      simpa using this
    refine wpAny_pyNext_enum_itemC (Draws.tuple (A := X.A.in1) (I.ok.hd hc) it a hai its.toArray) he ⟨hit, p⟩ hlt hne (by simp [hne, Ne.symm hae]) fun y h' tk hP ho hst hT hsz hk => ?_
    have hy : y = u := by
      have hP : its.toArray[i]? = some y := hP
      rw [List.getElem?_toArray, hu] at hP
      exact (Option.some.inj hP).symm
    subst hy
    refine ⟨_, rfl, wpAny_letOwnedTupleGo_enum (s := { s with heap := h', toks := tk + 1 }) ho fun h'' he' sb => ?_⟩
    have hT2 : h''.get? s.heap.objs.size = some { cls := .type "tuple", data := .seq #[.int i tk, y] } := (sb.2 _ (Nat.ne_of_gt hel)).trans hT
    have new : ObjOk X.prog X.w (upd H s.heap.objs.size (.tup [.int (i : Nat), x])) h'' s.heap.objs.size (.tup [.int (i : Nat), x]) :=
      ⟨by show 2 ≤ sizeLine; decide, [.int i tk, y], .cons ⟨_, rfl⟩ (.cons ru .nil), ⟨_, hT2, rfl, _, rfl⟩⟩
    have I1 : Inv X pins σ (upd H s.heap.objs.size (.tup [.int (i : Nat), x])) { s with heap := h'', toks := tk + 1 } :=
      I.turnedNew (ch := [e, it]) (fun b ob hb q => (sb.2 b (fun z => hb (by simp [z]))).trans (hk b ob (fun z => hb (by simp [z])) (fun z => hb (by simp [z])) q)) hf (Nat.le_refl _) new
    refine ⟨.ref s.heap.objs.size, _, I1, rfl, ⟨_, x, rfl, I.hok.fresh (Nat.le_refl _), rfl, fun ys hy => by rw [I.tuple_inj hy hq]; exact hx⟩, ⟨⟨y, ?_⟩, hst.1.at fun o q => (sb.2 it (Ne.symm hne)).trans q, hne, hai, hae⟩, fun b hb => ?_⟩
    · have e1 : ((i + 1 : Nat) : Int) = (i : Int) + 1 := by omega
      rw [e1]; exact he'
    · have hb' : b < s.heap.objs.size := by
        have e' : b = e ∨ b = it := by simpa using hb
        rcases e' with z | z
        · rw [z]; exact hel
        · rw [z]; exact hil
      rw [upd_ne (Nat.ne_of_lt hb')]
      exact (hf b hb).1
  done := by
    intro X hP hw hK hc i pins s σ H E I hf st hg
    subst hP hw hK
    obtain ⟨⟨old, he⟩, hit, hne, hai, hae⟩ := st
    obtain ⟨xs, hq, hx⟩ := hg
    obtain ⟨its, rv, p, hz⟩ := I.tuple hq
    obtain ⟨f0, f1, f2, f3, f4, f5⟩ := hf it (by simp)
    have hl := rv.length
    have p : s.heap.IsTuple a its.toArray := p
    have hxn : its.toArray[i]? = none := by simp; omega
    have hTy : s.TypeIs (.ref e) "enumerate" := ⟨_, he, rfl⟩
    unfold pyNext
    refine wpAny_bind (wpAny_attempt (wpAny_callSpecial?_slot (name := Str.ofString "__next__") hTy F.slot_enumerate_next
      (wpAny_call_entry F.slot_enumerate_next hTy F.entry_enumerate_next ?_ (F.args_enumerate_next_1 _))))
    show wpAny _ _ (field (.ref e) 2 >>= _) _ _ _
    refine wpAny_bind (wpAny_field he rfl (x := .ref it) rfl ?_)
    refine wpAny_bind (RZ.nextOf_tuple_end (I.ok.hd hc) hit p hxn fun h' x he' hx' => ?_)
    obtain ⟨o, ho, hc'⟩ := hx'
    refine wpAny_bind (wpAny_isInstance (T := "StopIteration") (b := true) ⟨o, ho, hc'⟩ isSubtype_stop ?_)
    exact wpAny_pure ⟨rfl, I.turned (t' := s.toks) (fun b o hb q => he' b o hb q) f0 f1 f3 f4 f5⟩
  self := fun A i s Q E st h => let ⟨⟨_, he⟩, _⟩ := st; wpAny_pyIter_enum he h
def iEnumA (K : PySem.W.Frag) (ta : TA) : TI := fun σ H R => ta σ H fun vs H1 => ∃ a xs, vs = [.ref a] ∧ ((SqL K H1 a xs ∧ R (Ite K a) H1) ∨ (SqT K H1 a xs ∧ R (IteT K a) H1))
theorem pi_enumA {X : Cx} {e : Expr} {ta : TA} {p pos tpos : Pos} {elts : List Expr} {kk : Nat} (hg : Gl X "enumerate") (hm : X.mg "enumerate" = none) (ha : PA X [e] ta) (hs : starEach [e] X.env = [(false, eval e X.env)] := by rfl) :
    PI X (.Tuple elts kk tpos) (.Call (.Name "enumerate" p) [e] [] pos) (iEnumA X.K ta) := by
  refine ⟨fun pins s σ H R I h => ?_⟩
  refine Call_ (ld_blt I hg hm boot_enumerate (PyProof.Rows.callWith_type1 (thn (ha.run pos pins s σ H _ I h) fun us s1 ⟨vs, H1, I1, r1, q1⟩ => ?_) hs rfl))
  obtain ⟨a, xs, ex, q⟩ := q1
  subst ex
  have fresh2 : ∀ b, b ∈ [s1.heap.objs.size + 1, s1.heap.objs.size] → FpOk X pins H1 b := fun b hb => by
    have e' : b = s1.heap.objs.size + 1 ∨ b = s1.heap.objs.size := by simpa using hb
    have hle : s1.heap.objs.size ≤ b := by
      rcases e' with z | z
      · rw [z]; exact Nat.le_add_right _ _
      · rw [z]; exact Nat.le_refl _
    exact I1.fpOk hle (I1.hok.fresh hle)
  cases r1 with
  | cons r rr =>
    cases rr
    cases r
    rcases q with ⟨hq, q⟩ | ⟨hq, q⟩
    · obtain ⟨its, rv, p', hz⟩ := I1.list hq
      refine call_enumerate_list p'.isList fun h' he hit hsz hk => wpAny_pyIter_enum he ?_
      have I2 : Inv X pins σ H1 { s1 with heap := h' } := I1.kept (t' := s1.toks) hk
      exact ⟨s1.heap.objs.size + 1, [s1.heap.objs.size + 1, s1.heap.objs.size], _, _, H1, rfl, I2, turn_enum a (s1.heap.objs.size + 1) s1.heap.objs.size, ⟨⟨.none, he⟩, hit, Nat.succ_ne_self _⟩, fresh2, q⟩
    · obtain ⟨its, rv, p', hz⟩ := I1.tuple hq
      have p' : s1.heap.IsTuple a its.toArray := p'
      have la : a < s1.heap.objs.size := by obtain ⟨_, z, _⟩ := id p'; exact Heap.lt_size z
      refine enum_beginsT (begins_tuple a its.toArray) p' fun h' he hit hsz hk => wpAny_pyIter_enum he ?_
      have I2 : Inv X pins σ H1 { s1 with heap := h' } := I1.kept (t' := s1.toks) hk
      exact ⟨s1.heap.objs.size + 1, [s1.heap.objs.size + 1, s1.heap.objs.size], _, _, H1, rfl, I2, turn_enumT a (s1.heap.objs.size + 1) s1.heap.objs.size, ⟨⟨.none, he⟩, ⟨_, hit, rfl, rfl⟩, Nat.succ_ne_self _, Nat.ne_of_lt la, Nat.ne_of_lt (Nat.lt_succ_of_lt la)⟩, fresh2, q⟩
theorem con_enumT {K : PySem.W.Frag} {fa : Nat → Addr} {A : Addr → Prop} {ga : Nat → Option Addr} {H : Hp} {a : Addr} {xs : List V} {ds : List D} (n : ¬ A a) (h : H a = some (.tup xs)) (r : RepL K fa A ga H xs ds) : ConOk K fa (IteT K a) A ga H (enD 0 ds) := fun A' ga' H1 kp same dom => by
  have h1 := kp.tp _ (.t _) n h
  have r1 := RepL.keep kp r
  have q : SqT K H1 a xs := .inl (.inl h1)
  refine ⟨⟨xs, q, by rw [enD_length, r.length]; exact Nat.le_refl _⟩, fun i d e => ?_⟩
  obtain ⟨d', e0, rfl⟩ := enD_get e
  obtain ⟨v, e1, e2⟩ := r1.get e0
  refine ⟨⟨xs, v, q, e1⟩, fun x H2 y => ?_⟩
  obtain ⟨T, w, rfl, hT, rfl, y2⟩ := y
  have e3 := y2 xs q
  rw [e1] at e3
  cases e3
  rw [Nat.zero_add]
  exact pair_rep dom hT (.int _) e2
end Ev
end
section
set_option Elab.async false
set_option linter.all false
set_option maxRecDepth 100000
set_option maxHeartbeats 2000000
/-! Ev11: iterables' rules; for; while; parallel assignments. -/
namespace Ev
open PySem PySem.Spec PyProof.Rows L2

def iAll (K : PySem.W.Frag) (tl : TE) : TI := fun σ H R => tl σ H fun x H1 => ∃ a, x = .ref a ∧ ((∃ xs, SqL K H1 a xs) ∧ R (Itl K a) H1 ∨ (∃ xs, SqT K H1 a xs) ∧ R (Itt K a) H1)
theorem pi_seq {X : Cx} {tg l : Expr} {tl : TE} (hl : PE X l tl) : PI X tg l (iAll X.K tl) := by
  refine ⟨fun pins s σ H R I h => ?_⟩
  refine thn (hl.run pins s σ H _ I h) fun v s1 ⟨x, H1, I1, r1, q1⟩ => ?_
  obtain ⟨a, e, q⟩ := q1
  subst e
  cases r1
  have fr : ∀ b, b ∈ [s1.heap.objs.size] → FpOk X pins H1 b := fun b hb => by
    have e : b = s1.heap.objs.size := by simpa using hb
    subst e
    exact I1.fpOk (Nat.le_refl _) (I1.hok.fresh (Nat.le_refl _))
  rcases q with ⟨⟨xs, hq⟩, q⟩ | ⟨⟨xs, hq⟩, q⟩
  · obtain ⟨its, rv, p, hz⟩ := I1.list hq
    refine wpAny_pyIter_list p.isList ?_
    exact ⟨s1.heap.objs.size, [s1.heap.objs.size], _, _, H1, rfl, I1.kept (t' := s1.toks) fun b o e => Heap.get?_push_of_some _ e, turn_list a _, ⟨_, Heap.get?_push_size _ rfl, rfl, rfl⟩, fr, q⟩
  · obtain ⟨its, rv, p, hz⟩ := I1.tuple hq
    refine wpAny_pyIter_tuple (show s1.heap.IsTuple a its.toArray from p) ?_
    exact ⟨s1.heap.objs.size, [s1.heap.objs.size], _, _, H1, rfl, I1.kept (t' := s1.toks) fun b o e => Heap.get?_push_of_some _ e, turn_tuple a _, ⟨_, Heap.get?_push_size _ rfl, rfl, rfl⟩, fr, q⟩

theorem PI_imp {X : Cx} {tg e : Expr} {t t' : TI} (p : PI X tg e t) (h : ∀ σ H Q, t' σ H Q → t σ H Q) : PI X tg e t' := ⟨fun pins s σ H R I q => p.run pins s σ H R I (h σ H R q)⟩
def forC (tg : D → Ev Unit) (tb : Ev Ct) : List D → Ev Ct
  | [] => fun s => some (.ok .nx s)
  | d :: ds => fun s => bd (tg d s) fun _ s1 => bd (tb s1) fun c s2 => match c with
    | .nx => forC tg tb ds s2
    | .ct => forC tg tb ds s2
    | .bk => some (.ok .nx s2)
    | .rt d => some (.ok (.rt d) s2)
def sFor (it : Ev Src) (tg : D → Ev Unit) (tb : Ev Ct) : Ev Ct := fun s => bd (it s) fun sr s1 => match sr with
  | .con ds => forC tg tb ds s1
  | .slot _ => none
def whC (c : Ev Bool) (tb : Ev Ct) : Nat → Ev Ct
  | 0 => fun _ => none
  | n + 1 => fun s => bd (c s) fun k s1 => if k then bd (tb s1) fun e s2 => match e with
    | .nx => whC c tb n s2
    | .ct => whC c tb n s2
    | .bk => some (.ok .nx s2)
    | .rt d => some (.ok (.rt d) s2)
    else some (.ok .nx s1)
/-- with so many turns at most -/
def sWh (n : Nat) (c : Ev Bool) (tb : Ev Ct) : Ev Ct := whC c tb n

section
variable {X : Cx} {fa ca : Nat → Addr} {E : XK} {m a b c : Ev R} {ta tb : Ev Bool} {ms : Ev (List R)} {ma mb : Ev Ct} {mi : Ev Src} {tg : R → Ev Unit} {md : D → Ev Unit} {ts : List (D → Ev Unit)} {e x y z : Expr} {es : List Expr} {st : Stmt} {sts ste : List Stmt} {pos p : Pos}
theorem xiSeq (he : PE X e (rdE X.K fa ca E m)) : PI X x e (rdI X.K fa ca E (iSeq m)) := PI_imp (pi_seq he) fun σ H R h => by
  obtain ⟨av, ga, s, rel, h⟩ := h
  refine ⟨av, ga, s, rel, aft_mono (aft_bd h) (fun r s1 h1 fs v ga1 H1 p1 => ?_) fun _ _ z => z⟩
  split at h1
  · rename_i ds s2 e
    obtain ⟨r1, r2, r3⟩ := p1.esc (show escL [r] s1 = some ([.lst ds], s2) by simp [escL, e])
    cases r2 with
    | cons rr _ => cases rr with
      | lst n q r => exact ⟨_, rfl, .inl ⟨⟨_, .inl (.inl q)⟩, h1 _ _ _ r1 r3 (con_list n q r)⟩⟩
  · rename_i ds s2 e
    obtain ⟨r1, r2, r3⟩ := p1.esc (show escL [r] s1 = some ([.tup ds], s2) by simp [escL, e])
    cases r2 with
    | cons rr _ => cases rr with
      | tup n q r => exact ⟨_, rfl, .inr ⟨⟨_, .inl (.inl q)⟩, h1 _ _ _ r1 r3 (con_tup (fun _ _ _ kp => .inl (.inl (kp.tp _ (.t _) n q))) r)⟩⟩
  · rename_i ds s2 e
    obtain ⟨r1, r2, r3⟩ := p1.esc (show escL [r] s1 = some ([.ktup ds], s2) by simp [escL, e])
    cases r2 with
    | cons rr _ => cases rr with
      | ktup n q e r => exact ⟨_, rfl, .inr ⟨⟨_, .inl (.inr ⟨_, q⟩)⟩, h1 _ _ _ r1 r3 (con_tup (fun _ _ _ kp => .inl (.inr ⟨_, kp.tp _ (.f _ _) n q⟩)) r)⟩⟩
  · exact h1.elim
theorem xiSlot {i : Nat} (he : PE X e (rdE X.K fa ca E (eVar i))) : PI X x e (rdI X.K fa ca E (iSlot i)) := PI_imp (pi_seq he) fun σ H R h => by
  obtain ⟨av, ga, s, rel, h⟩ := h
  unfold iSlot at h
  split at h
  · rename_i ds e
    refine ⟨av, ga, s, rel, ?_⟩
    have ev : eVar i s = some (.ok (.pk i) s) := by unfold eVar; rw [e]
    rw [ev]
    show ∀ fs v ga' H', _ → _
    intro fs v ga1 H1 p1
    have hv : σ[i]? = some (some v) := by cases p1.rv with | pk z _ => exact z
    obtain ⟨q, q1, q2, _⟩ := p1.drop.ow i _ e
    rw [hv] at q1
    cases q1
    obtain ⟨vs, h2, h3⟩ := q2
    exact ⟨q, rfl, .inl ⟨⟨_, .inl (.inl h2)⟩, h _ _ _ p1.drop p1.st ⟨q, hv, rfl⟩⟩⟩
  · exact h.elim
theorem xiRng1 {pp : Pos} (hg : Gl X "range") (hm : X.mg "range" = none) (ha : PA X [e] (rdA X.K fa ca E ms)) (hs : starEach [e] X.env = [(false, eval e X.env)] := by rfl) : PI X x (.Call (.Name "range" pp) [e] [] pos) (rdI X.K fa ca E (iRng1 ms)) := PI_imp (pi_range1 hg hm ha hs) fun σ H R h => by
  obtain ⟨av, ga, s, rel, h⟩ := h
  refine ⟨av, ga, s, rel, aft_mono (aft_bd h) (fun rs s1 h1 fs vs ga1 H1 p1 => ?_) fun _ _ z => z⟩
  split at h1
  · rename_i j e
    split at h1
    · rename_i hz
      cases p1.now e with
      | cons w q =>
        cases q
        cases w.int'
        exact ⟨j, rfl, by simpa using hz.1, by simpa using hz.2, h1 _ _ _ p1.drop p1.st con_rng⟩
    · exact h1.elim
  · exact h1.elim
theorem xiRng2 {pp : Pos} (hg : Gl X "range") (hm : X.mg "range" = none) (ha : PA X [e, y] (rdA X.K fa ca E ms)) (hs : starEach [e, y] X.env = [(false, eval e X.env), (false, eval y X.env)] := by rfl) (hs2 : starEach [y] X.env = [(false, eval y X.env)] := by rfl) : PI X x (.Call (.Name "range" pp) [e, y] [] pos) (rdI X.K fa ca E (iRng2 ms)) := PI_imp (pi_range2 hg hm ha hs hs2) fun σ H R h => by
  obtain ⟨av, ga, s, rel, h⟩ := h
  refine ⟨av, ga, s, rel, aft_mono (aft_bd h) (fun rs s1 h1 fs vs ga1 H1 p1 => ?_) fun _ _ z => z⟩
  split at h1
  · rename_i i j e
    split at h1
    · rename_i hz
      cases p1.now e with
      | cons w q =>
        cases q with
        | cons w' q =>
          cases q
          cases w.int'
          cases w'.int'
          exact ⟨i, j, rfl, ⟨by simpa using hz.1.1, by simpa using hz.1.2, by simpa using hz.2.1, by simpa using hz.2.2⟩, h1 _ _ _ p1.drop p1.st con_rng⟩
    · exact h1.elim
  · exact h1.elim
theorem xiEn {pp tpos : Pos} {elts : List Expr} {kk : Nat} (hg : Gl X "enumerate") (hm : X.mg "enumerate" = none) (ha : PA X [e] (rdA X.K fa ca E ms)) (hs : starEach [e] X.env = [(false, eval e X.env)] := by rfl) : PI X (.Tuple elts kk tpos) (.Call (.Name "enumerate" pp) [e] [] pos) (rdI X.K fa ca E (iEn ms)) := PI_imp (pi_enumA hg hm ha hs) fun σ H R h => by
  obtain ⟨av, ga, s, rel, h⟩ := h
  refine ⟨av, ga, s, rel, aft_mono (aft_bd h) (fun rs s1 h1 fs vs ga1 H1 p1 => ?_) fun _ _ z => z⟩
  split at h1
  · rename_i ds s2 e
    obtain ⟨r1, r2, r3⟩ := p1.esc e
    cases r2 with
    | cons rr q => cases q; cases rr with
      | lst n q r => exact ⟨_, _, rfl, .inl ⟨.inl (.inl q), h1 _ _ _ r1 r3 (con_enum n q r)⟩⟩
  · rename_i ds s2 e
    obtain ⟨r1, r2, r3⟩ := p1.esc e
    cases r2 with
    | cons rr q => cases q; cases rr with
      | tup n q r => exact ⟨_, _, rfl, .inr ⟨.inl (.inl q), h1 _ _ _ r1 r3 (con_enumT n q r)⟩⟩
  · exact h1.elim
theorem xiZp {pp tpos : Pos} {elts : List Expr} {kk : Nat} (hg : Gl X "zip") (hm : X.mg "zip" = none) (ha : PA X [e, y] (rdA X.K fa ca E ms)) (hs : starEach [e, y] X.env = (false, eval e X.env) :: starEach [y] X.env := by rfl) (hpl : (backTo pos (starEach [y] X.env)).any (·.1) = false := by rfl) : PI X (.Tuple elts kk tpos) (.Call (.Name "zip" pp) [e, y] [] pos) (rdI X.K fa ca E (iZp ms)) := PI_imp (RZ.pi_zipA hg hm ha hs hpl) fun σ H R h => by
  obtain ⟨av, ga, s, rel, h⟩ := h
  refine ⟨av, ga, s, rel, aft_mono (aft_bd h) (fun rs s1 h1 fs vs ga1 H1 p1 => ?_) fun _ _ z => z⟩
  split at h1
  · rename_i ds es s2 e
    obtain ⟨r1, r2, r3⟩ := p1.esc e
    cases r2 with
    | cons rr q => cases q with
      | cons rr' q => cases q; cases rr with
        | lst n q r => cases rr' with
          | lst n' q' r' => exact ⟨_, _, _, _, rfl, .inl ⟨.inl (.inl q), .inl (.inl q'), h1 _ _ _ r1 r3 (con_zip n q r n' q' r')⟩⟩
  · rename_i d1 d2 s2 hn e
    obtain ⟨r1, r2, r3⟩ := p1.esc e
    split at h1
    · rename_i ds es t1 t2
      cases r2 with
      | cons rr q => cases q with
        | cons rr' q =>
          cases q
          obtain ⟨a, xs, rfl, w1, w2⟩ := tupD_ok t1 rr
          obtain ⟨b, ys, rfl, w3, w4⟩ := tupD_ok t2 rr'
          have kp0 : Kp (AvA av ga1 σ s2.env) (AvA av ga1 σ s2.env) ga1 ga1 H1 H1 := Kp.sub fun _ z => z
          exact ⟨_, _, _, _, rfl, .inr ⟨w1 _ _ _ kp0, w3 _ _ _ kp0, h1 _ _ _ r1 r3 (con_zipT w1 w2 w3 w4)⟩⟩
    · exact h1.elim
  · exact h1.elim

theorem xFor (hp : PassesOwn (model X.prog X.w) X.A X.env X.xe) (hc : X.calm = true) (hi : PI X x e (rdI X.K fa ca E mi)) (hg : PG X x (rdGd X.K fa ca E md)) (hb : PSs X sts (rdS X.K fa ca E mb)) (hs : ∀ x, foldedSetIterable e X.env x = pure x := by intro _; rfl) :
    PS X (.For x e sts [] pos) (rdS X.K fa ca E (sFor mi md mb)) := PS_imp (ps_for hp hc hi hg hb hs) fun De σ H h => by
  obtain ⟨av, ga, s, rel, h⟩ := h
  refine ⟨av, ga, s, rel, aft_mono (aft_bd h) (fun sr s1 h1 ga1 H1 J rel1 st1 ok => ?_) fun _ _ z => z⟩
  cases sr with
  | slot _ => exact h1.elim
  | con ds =>
    have ok : ConOk X.K fa J (AvA av ga1 σ s1.env) ga1 H1 ds := ok
    refine ⟨fun i m σ' H' => m = ds.length - i ∧ i ≤ ds.length ∧ ∃ ga' s', Rel X.K fa av ga' σ' H' s' ∧ Stp (MuA ga1 σ s1.env) (MuA ga' σ' s'.env) ga1 ga' H1 H' ∧ aft (forC md mb (ds.drop i) s') (Wct X.K fa De av (MuA ga σ s.env) ga H) (XW X.K fa ca E av (MuA ga σ s.env) ga H), ⟨_, rfl, Nat.zero_le _, ga1, s1, rel1, .refl, h1⟩, ?_⟩
    rintro i m σ' H' ⟨rfl, hi, ga', s', rel', st', h'⟩
    have st01 := st1.trans st'
    obtain ⟨hstop, hgo⟩ := ok _ _ _ (st'.kp (av := av)) (fun a o n h t => st'.st a o (fun z => n (.inr z)) h t) rel'.av_dom
    by_cases hlt : i < ds.length
    · obtain ⟨d, hd⟩ : ∃ d, ds[i]? = some d := ⟨ds[i], by simp [hlt]⟩
      obtain ⟨g1, g2⟩ := hgo i d hd
      have hdrop : ds.drop i = d :: ds.drop (i + 1) := by
        rw [List.drop_eq_getElem_cons hlt]
        have := List.getElem?_eq_some_iff.mp hd
        rw [this.2]
      rw [hdrop] at h'
      have h' := aft_bd h'
      refine .inr ⟨g1, fun σ2 H2 => ∃ ga2 s2, Rel X.K fa av ga2 σ2 H2 s2 ∧ Stp (MuA ga1 σ s1.env) (MuA ga2 σ2 s2.env) ga1 ga2 H1 H2 ∧ aft (forC md mb (ds.drop (i + 1)) s2) (Wct X.K fa De av (MuA ga σ s.env) ga H) (XW X.K fa ca E av (MuA ga σ s.env) ga H), fun σ2 H2 ⟨ga2, s2, q1, q2, q3⟩ => ⟨ds.length - (i + 1), by omega, rfl, hlt, ga2, s2, q1, q2, q3⟩, fun v H2 y => ?_⟩
      obtain ⟨ext, rep⟩ := g2 v H2 y
      have rel2 : Rel X.K fa av ga' σ' H2 s' := (rel'.grow (fs := []) ext (fun _ z => nomatch z)).sub fun a z => .inl z
      have st2 : Stp (MuA ga' σ' s'.env) (MuA ga' σ' s'.env) ga' ga' H' H2 := .grow ext
      have st02 := st01.trans st2
      refine ⟨av, ga', s', d, rel2, rep, aft_mono h' (fun _ s3 h3 σ3 ga3 H3 rel3 st3 => ?_) fun _ _ z => z.sub st02 fun _ y => y⟩
      have st03 := st02.trans st3
      have st13 := (st'.trans st2).trans st3
      refine ⟨av, ga3, s3, rel3, aft_mono (aft_bd h3) (fun c s4 h4 => ?_) fun _ _ z => z.sub st03 fun _ y => y⟩
      cases c with
      | nx => exact fun σ4 ga4 H4 rel4 st4 => ⟨ga4, s4, rel4, st13.trans st4, h4⟩
      | ct => exact fun σ4 ga4 H4 rel4 st4 => ⟨ga4, s4, rel4, st13.trans st4, h4⟩
      | bk => exact fun σ4 ga4 H4 rel4 st4 => h4 _ _ _ rel4 (st03.trans st4)
      | rt d => exact fun v ga4 H4 g r st4 => h4 _ _ _ g r (st03.trans st4)
    · have e0 : i = ds.length := by omega
      subst e0
      rw [List.drop_length] at h'
      exact .inl ⟨hstop, h' _ _ _ rel' st01⟩
theorem xWh (n : Nat) (hp : PassesOwn (model X.prog X.w) X.A X.env X.xe) (hc : PT X e (rdT X.K fa ca E ta)) (hb : PSs X sts (rdS X.K fa ca E mb)) : PS X (.While e sts [] pos) (rdS X.K fa ca E (sWh n ta mb)) := PS_imp (ps_while hp hc hb) fun De σ H h => by
  obtain ⟨av, ga, s, rel, h⟩ := h
  refine ⟨fun m σ' H' => ∃ ga' s', Rel X.K fa av ga' σ' H' s' ∧ Stp (MuA ga σ s.env) (MuA ga' σ' s'.env) ga ga' H H' ∧ aft (whC ta mb m s') (Wct X.K fa De av (MuA ga σ s.env) ga H) (XW X.K fa ca E av (MuA ga σ s.env) ga H), ⟨n, ga, s, rel, .refl, h⟩, ?_⟩
  rintro m σ' H' ⟨ga', s', rel', st', h'⟩
  cases m with
  | zero => exact h'.elim
  | succ m =>
    refine ⟨av, ga', s', rel', aft_mono (aft_bd h') (fun k s1 h1 ga1 H1 rel1 st1 => ?_) fun _ _ z => z.sub st' fun _ y => y⟩
    have st01 := st'.trans st1
    cases k with
    | false => exact iteF (h1 _ _ _ rel1 st01)
    | true =>
      refine iteT ⟨fun σ2 H2 => ∃ ga2 s2, Rel X.K fa av ga2 σ2 H2 s2 ∧ Stp (MuA ga σ s.env) (MuA ga2 σ2 s2.env) ga ga2 H H2 ∧ aft (whC ta mb m s2) (Wct X.K fa De av (MuA ga σ s.env) ga H) (XW X.K fa ca E av (MuA ga σ s.env) ga H), fun σ2 H2 q => ⟨m, Nat.lt_succ_self m, q⟩, ?_⟩
      have h1 : aft (bd (mb s1) fun e s2 => match e with
        | .nx => whC ta mb m s2
        | .ct => whC ta mb m s2
        | .bk => some (.ok .nx s2)
        | .rt d => some (.ok (.rt d) s2)) (Wct X.K fa De av (MuA ga σ s.env) ga H) (XW X.K fa ca E av (MuA ga σ s.env) ga H) := h1
      refine ⟨av, ga1, s1, rel1, aft_mono (aft_bd h1) (fun c s2 h2 => ?_) fun _ _ z => z.sub st01 fun _ y => y⟩
      cases c with
      | nx => exact fun σ4 ga4 H4 rel4 st4 => ⟨ga4, s2, rel4, st01.trans st4, h2⟩
      | ct => exact fun σ4 ga4 H4 rel4 st4 => ⟨ga4, s2, rel4, st01.trans st4, h2⟩
      | bk => exact fun σ4 ga4 H4 rel4 st4 => h2 _ _ _ rel4 (st01.trans st4)
      | rt d => exact fun v ga4 H4 g r st4 => h2 _ _ _ g r (st01.trans st4)
end
end Ev
end
section
set_option Elab.async false
set_option linter.all false
set_option maxRecDepth 100000
set_option maxHeartbeats 2000000
/-! Ev12: list comprehensions. -/
namespace Ev
open PySem PySem.Spec PyProof.Rows L2

def nxt {α β : Type} (o : Option (Out α)) (f : α → S → Option (Out β)) : Option (Out β) := match o with
  | some (.ok a s) => f a s
  | _ => none
theorem aft_nxt {α β : Type} {o : Option (Out α)} {f : α → S → Option (Out β)} {k : β → S → Prop} {x : Exc → G → Prop} (h : aft (nxt o f) k x) : aft o (fun a s => aft (f a s) k x) (fun _ _ => False) := by
  match o with
  | none => exact h
  | some (.ok a s) => exact h
  | some (.ex e g) => exact h
def wipeE (env : List Slot) : List Nat → List Slot
  | [] => env
  | v :: vs => (wipeE env vs).set v .no
def wipeS (vs : List Nat) (s : S) : S := ⟨wipeE s.env vs, s.g⟩
def backE (e1 : List Slot) : List Nat → List Slot → List Slot
  | [], e => e
  | v :: vs, e => backE e1 vs (e.set v (e1.getD v .no))
def okV (e1 : List Slot) : List Nat → Bool
  | [] => true
  | v :: vs => (match e1.getD v .no with | .ow _ => false | _ => true) && okV e1 vs
def srcAt (sr : Src) (k : Nat) (s : S) : Option (Option D) := match sr with
  | .con ds => some ds[k]?
  | .slot i => match s.env[i]? with
    | some (.ow (.lst ds)) => some ds[k]?
    | some (.fz (.lst ds)) => some ds[k]?
    | _ => none
def compG (sr : Src) (vs : List Nat) (tg : D → Ev Unit) (tt : Ev Bool) (te : Ev R) : Nat → Nat → List D → Ev (List D)
  | 0, _, _ => fun _ => none
  | f + 1, k, acc => fun s => match srcAt sr k s with
    | none => none
    | some none => some (.ok acc s)
    | some (some d) => nxt (tg d s) fun _ s2 => nxt (tt s2) fun b s3 => if b then nxt (te s3) fun r s4 => match esc r s4 with
        | none => none
        | some (d', s5) => if k < szL then compG sr vs tg tt te f (k + 1) (d' :: acc) (wipeS vs s5) else none
      else compG sr vs tg tt te f (k + 1) acc (wipeS vs s3)
/-- over a list of items that stays -/
def compC (vs : List Nat) (tg : D → Ev Unit) (tt : Ev Bool) (te : Ev R) : List D → Nat → List D → Ev (List D)
  | [], _, acc => fun s => some (.ok acc s)
  | d :: ds, k, acc => fun s => nxt (tg d s) fun _ s2 => nxt (tt s2) fun b s3 => if b then nxt (te s3) fun r s4 => match esc r s4 with
        | none => none
        | some (d', s5) => if k < szL then compC vs tg tt te ds (k + 1) (d' :: acc) (wipeS vs s5) else none
      else compC vs tg tt te ds (k + 1) acc (wipeS vs s3)
theorem compC_eq {vs : List Nat} {tg : D → Ev Unit} {tt : Ev Bool} {te : Ev R} : ∀ {n k : Nat} {all ds acc : List D} {s : S}, all.drop k = ds → ds.length = n → compG (.con all) vs tg tt te (n + 1) k acc s = compC vs tg tt te ds k acc s := by
  intro n
  induction n with
  | zero =>
    intro k all ds acc s h e
    have : ds = [] := List.length_eq_zero_iff.mp e
    subst this
    have hk : all[k]? = none := by
      rw [List.getElem?_eq_none_iff]
      exact List.drop_eq_nil_iff.mp h
    simp only [compG, compC, srcAt, hk]
  | succ n ih =>
    intro k all ds acc s h e
    match ds, e, h with
    | d :: ds, e, h =>
      have hk : all[k]? = some d := by
        have : (all.drop k)[0]? = some d := by rw [h]; rfl
        simpa using this
      have h2 : all.drop (k + 1) = ds := by
        have : (all.drop k).drop 1 = ds := by rw [h]; rfl
        rw [List.drop_drop] at this
        exact this
      have e2 : ds.length = n := by simpa using e
      rw [compG, compC]
      simp only [srcAt, hk]
      congr 1
      funext _ s2
      congr 1
      funext b s3
      cases b with
      | true =>
        simp only [if_true]
        congr 1
        funext r s4
        split
        · rfl
        · rename_i d' s5 _
          split
          · exact ih h2 e2
          · rfl
      | false =>
        simp only [Bool.false_eq_true, if_false]
        exact ih h2 e2
def tYesM : Ev Bool := fun s => some (.ok true s)
def compD (sr : Src) (vs : List Nat) (tg : D → Ev Unit) (tt : Ev Bool) (te : Ev R) : Ev (List D) := match sr with
  | .con ds => compC vs tg tt te ds 0 []
  | .slot i => if vs.contains i then fun _ => none else compG (.slot i) vs tg tt te szL 0 []
def eComp (vs : List Nat) (it : Ev Src) (tg : D → Ev Unit) (tt : Ev Bool) (te : Ev R) : Ev R := fun s => bd (it s) fun sr s1 => if okV s1.env vs then nxt (compD sr vs tg tt te (wipeS vs s1)) fun acc s2 => some (.ok (.fr (.lst acc.reverse)) ⟨backE s1.env vs s2.env, s2.g⟩) else none

section
variable {K : PySem.W.Frag} {fa ca : Nat → Addr} {av av' M M' A A' : Addr → Prop} {ga ga' ga1 ga2 : Nat → Option Addr} {σ σ' : L2.St} {H H' H1 H2 : Hp} {s s' s1 s2 : S} {fs gs : List Addr} {vs : List V} {rs : List R} {E : XK} {v : V} {res : R}
theorem Rel.no {i : Nat} {o : Option V} (r : Rel K fa av ga σ H s) : Rel K fa av ga (σ.set i o) H ⟨s.env.set i .no, s.g⟩ ∧ ∀ a, MuA ga (σ.set i o) (s.env.set i .no) a → MuA ga σ s.env a := by
  by_cases hi : i < s.env.length
  · have hi' : i < σ.length := by rw [← r.len]; exact hi
    have ow : ∀ j e, (s.env.set i .no)[j]? = some (.ow e) → j ≠ i ∧ s.env[j]? = some (.ow e) := fun j e z => by
      rcases get_set z hi with ⟨_, q⟩ | q
      · cases q
      · exact q
    have σne : ∀ j, j ≠ i → (σ.set i o)[j]? = σ[j]? := fun j hj => List.getElem?_set_ne (Ne.symm hj)
    have mu : ∀ a, MuA ga (σ.set i o) (s.env.set i .no) a → MuA ga σ s.env a := by
      rintro a (z | ⟨j, e, z1, z2⟩)
      · exact .inl z
      · obtain ⟨hj, q⟩ := ow j e z1
        rw [σne j hj] at z2
        exact .inr ⟨j, e, q, z2⟩
    have hA : ∀ a, AvA av ga (σ.set i o) (s.env.set i .no) a → AvA av ga σ s.env a := fun a z => z.elim .inl fun y => .inr (mu a y)
    refine ⟨⟨by simp only [List.length_set]; exact r.len, fun j e z => ?_, fun j e z => ?_, fun j k x y p z1 z2 z3 z4 => ?_, r.gl.sub hA, r.dom, r.sep⟩, mu⟩
    · rcases get_set z hi with ⟨_, q⟩ | ⟨hj, q⟩
      · cases q
      · obtain ⟨w, q1, q2⟩ := r.fz j e q
        exact ⟨w, (σne j hj).trans q1, Rep.keep (Kp.sub hA) q2⟩
    · obtain ⟨hj, q⟩ := ow j e z
      obtain ⟨p, q1, q2, q3, q4⟩ := r.ow j e q
      exact ⟨p, (σne j hj).trans q1, q2.keep (Kp.sub hA) rfl, q3, q4⟩
    · obtain ⟨hj, q⟩ := ow j x z1
      obtain ⟨hk, q'⟩ := ow k y z2
      have z3 : (σ.set i o)[j]? = _ := z3
      have z4 : (σ.set i o)[k]? = _ := z4
      rw [σne j hj] at z3
      rw [σne k hk] at z4
      exact r.inj j k x y p q q' z3 z4
  · have hi' : ¬ i < σ.length := by rw [← r.len]; exact hi
    rw [set_out hi, set_out hi']
    exact ⟨r, fun _ z => z⟩
theorem Rel.wiped (r : Rel K fa av ga σ H s) : ∀ ws : List Nat, Rel K fa av ga (wipe σ ws) H (wipeS ws s) ∧ ∀ a, MuA ga (wipe σ ws) (wipeS ws s).env a → MuA ga σ s.env a
  | [] => ⟨r, fun _ z => z⟩
  | w :: ws => by
    obtain ⟨r1, r2⟩ := Rel.wiped r ws
    obtain ⟨r3, r4⟩ := r1.no (i := w) (o := none)
    exact ⟨r3, fun a z => r2 a (r4 a z)⟩
theorem wipe_in {i : Nat} : ∀ {ws : List Nat}, i ∈ ws → i < σ.length → (wipe σ ws)[i]? = some none
  | w :: ws, h, hl => by
    show ((wipe σ ws).set w none)[i]? = _
    by_cases e : w = i
    · subst e
      rw [List.getElem?_set_self (by rw [wipe_length]; exact hl)]
    · rw [List.getElem?_set_ne e]
      exact wipe_in ((List.mem_cons.mp h).resolve_left (fun z => e z.symm)) hl
theorem wipe_idem (ws : List Nat) : wipe (wipe σ ws) ws = wipe σ ws := by
  apply List.ext_getElem?
  intro j
  by_cases hj : j ∈ ws
  · by_cases hl : j < σ.length
    · rw [wipe_in hj hl, wipe_in hj (by rw [wipe_length]; exact hl)]
    · rw [List.getElem?_eq_none (by rw [wipe_length, wipe_length]; omega), List.getElem?_eq_none (by rw [wipe_length]; omega)]
  · rw [wipe_out hj]
theorem wipe_set {i : Nat} {o : Option V} {ws : List Nat} (h : i ∈ ws) : wipe (σ.set i o) ws = wipe σ ws := by
  apply List.ext_getElem?
  intro j
  by_cases hj : j ∈ ws
  · by_cases hl : j < σ.length
    · rw [wipe_in hj hl, wipe_in hj (by simpa using hl)]
    · rw [List.getElem?_eq_none (by rw [wipe_length]; simp; omega), List.getElem?_eq_none (by rw [wipe_length]; omega)]
  · rw [wipe_out hj, wipe_out hj]
    exact List.getElem?_set_ne (fun z : i = j => hj (z ▸ h))
/-- the slots of the block's own names as they were -/
theorem Rel.back {e1 : List Slot} {A0 : Addr → Prop} (h1 : ∀ (i : Nat) (d : D), e1[i]? = some (.fz d) → ∃ v, σ[i]? = some (some v) ∧ Rep K fa A0 ga H v d) : ∀ {ws : List Nat} {s : S}, ws.Nodup → okV e1 ws = true → Rel K fa av ga (wipe σ ws) H s → (∀ a, AvA av ga (wipe σ ws) s.env a → A0 a) →
    Rel K fa av ga σ H ⟨backE e1 ws s.env, s.g⟩ ∧ ∀ a, MuA ga σ (backE e1 ws s.env) a → MuA ga (wipe σ ws) s.env a
  | [], s, _, _, r, _ => ⟨r, fun _ z => z⟩
  | w :: ws, s, hn, ho, r, hA => by
    obtain ⟨hw, hn⟩ := List.nodup_cons.mp hn
    simp only [okV, Bool.and_eq_true] at ho
    have fin : ∀ {o : Option V} {sl : Slot}, σ[w]? = some o → e1.getD w .no = sl → (Rel K fa av ga ((wipe σ (w :: ws)).set w o) H ⟨s.env.set w sl, s.g⟩ ∧ ∀ a, MuA ga ((wipe σ (w :: ws)).set w o) (s.env.set w sl) a → MuA ga (wipe σ (w :: ws)) s.env a) →
        Rel K fa av ga σ H ⟨backE e1 (w :: ws) s.env, s.g⟩ ∧ ∀ a, MuA ga σ (backE e1 (w :: ws) s.env) a → MuA ga (wipe σ (w :: ws)) s.env a := fun {o sl} ho' hsl q => by
      have e0 : (wipe σ (w :: ws)).set w o = wipe σ ws := by
        show ((wipe σ ws).set w none).set w o = _
        rw [List.set_set]
        have e2 : (wipe σ ws)[w]? = some o := by rw [wipe_out hw]; exact ho'
        apply List.ext_getElem?
        intro j
        by_cases hj : w = j
        · subst hj
          rw [e2, List.getElem?_set_self (List.getElem?_eq_some_iff.mp e2).1]
        · rw [List.getElem?_set_ne hj]
      rw [e0] at q
      have hA2 : ∀ a, AvA av ga (wipe σ ws) (s.env.set w sl) a → A0 a := fun a z => hA a (z.elim .inl fun y => .inr (q.2 a y))
      obtain ⟨q1, q2⟩ := Rel.back h1 hn ho.2 q.1 hA2
      show Rel K fa av ga σ H ⟨backE e1 ws (s.env.set w (e1.getD w .no)), s.g⟩ ∧ _
      rw [show backE e1 (w :: ws) s.env = backE e1 ws (s.env.set w (e1.getD w .no)) from rfl, hsl]
      exact ⟨q1, fun a z => q.2 a (q2 a z)⟩
    by_cases hl : w < σ.length
    · obtain ⟨o, hσ⟩ : ∃ o, σ[w]? = some o := ⟨σ[w], by simp [hl]⟩
      match hs : e1.getD w .no with
      | .no => exact fin hσ hs r.no
      | .fz d =>
        have he : e1[w]? = some (.fz d) := by
          rw [List.getD_eq_getElem?_getD] at hs
          cases q : e1[w]? with
          | none => rw [q] at hs; cases hs
          | some x => rw [q] at hs; exact congrArg some hs
        obtain ⟨v, q1, q2⟩ := h1 w d he
        rw [hσ] at q1
        cases q1
        exact fin hσ hs (r.store_fz (Rep.keep (Kp.sub hA) q2))
      | .ow d => rw [hs] at ho; cases ho.1
    · have hl1 : ¬ w < (wipe σ ws).length := by rw [wipe_length]; exact hl
      have e0 : wipe σ (w :: ws) = wipe σ ws := set_out hl1
      have hl2 : ¬ w < s.env.length := by rw [r.len, wipe_length]; exact hl
      rw [e0] at r hA ⊢
      show Rel K fa av ga σ H ⟨backE e1 ws (s.env.set w (e1.getD w .no)), s.g⟩ ∧ ∀ a, MuA ga σ (backE e1 ws (s.env.set w (e1.getD w .no))) a → _
      rw [set_out hl2]
      exact Rel.back h1 hn ho.2 r hA
/-- what is kept apart stays -/
theorem Rel.apart {p : Addr} {o : HO} (r : Rel K fa av ga σ H s) (st : Stp (MuA ga σ s.env) M' ga ga' H H') (hp : av p) (h : H p = some o) (ht : ∀ ps, o ≠ .tbl ps) : H' p = some o := by
  refine st.st p o ?_ h ht
  rintro (⟨k, z⟩ | ⟨i, e, z1, z2⟩)
  · exact r.sep p k hp z
  · obtain ⟨y, y1, _, y3, _⟩ := r.ow i e z1
    rw [z2] at y1; cases y1
    exact y3 hp
/-- what is kept apart is written -/
theorem Rel.updA {p : Addr} {o : HO} {us : List V} (r : Rel K fa av ga σ H s) (hp : av p) (hl : H p = some (.lst us)) : Rel K fa av ga σ (upd H p o) s := by
  have same : ∀ a, a ≠ p → upd H p o a = H a := fun a h => upd_ne h
  have kp : Kp (AvA av ga σ s.env) (AvA av ga σ s.env) ga ga H (upd H p o) := by
    have ne : ∀ a, ¬ AvA av ga σ s.env a → upd H p o a = H a := fun a n => same a fun e => n (.inl (by rw [e]; exact hp))
    exact ⟨fun a u n _ _ q => q.elim (fun z => .inl ((ne a n).trans z)) fun ⟨o, z⟩ => .inr ⟨o, (ne a n).trans z⟩, fun a xs n q => (ne a n).trans q, fun a xs n q => (ne a n).trans q, fun a z => .inl z, fun _ _ e => e⟩
  refine ⟨r.len, fun j e z => ?_, fun j e z => ?_, r.inj, ⟨fun k ds e => ?_, r.gl.inj, r.gl.few, r.gl.tb.write hl (fun _ z => nomatch z) (fun _ _ z => by unfold LamX.CodeO at z; cases z) same⟩, fun a z => ?_, r.sep⟩
  · obtain ⟨w, q1, q2⟩ := r.fz j e z
    exact ⟨w, q1, Rep.keep kp q2⟩
  · obtain ⟨w, q1, q2, q3, q4⟩ := r.ow j e z
    exact ⟨w, q1, q2.keep kp (same w fun e => q3 (by rw [e]; exact hp)), q3, q4⟩
  · obtain ⟨a, us, h1, h2, h3⟩ := r.gl.at_ k ds e
    exact ⟨a, us, h1, (same a fun z => r.sep p k hp (by rw [← z]; exact h1)).trans h2, RepL.keep kp h3⟩
  · by_cases e : a = p
    · subst e; rw [upd_same]; simp
    · rw [same a e]; exact r.dom a z
theorem Stp.updNew {p : Addr} {o : HO} (st : Stp M M' ga ga' H H') (h : H p = none) : Stp M M' ga ga' H (upd H' p o) :=
  ⟨fun a u n e t => by
    have : a ≠ p := fun z => by rw [z, h] at e; cases e
    rw [upd_ne this]; exact st.st a u n e t, fun a e => by
    have : a ≠ p := fun z => by rw [z] at e; exact e h
    rw [upd_ne this]; exact st.dm a e, st.mm, st.gr⟩
end

/-! ### targets that write the block's own slots alone -/
section
variable (K : PySem.W.Frag) (fa ca : Nat → Addr)
def rdGc (E : XK) (ws : List Nat) (m : D → Ev Unit) : TG := fun v σ H Q => ∃ av ga s d, Rel K fa av ga σ H s ∧ Rep K fa (AvA av ga σ s.env) ga H v d ∧
  aft (m d s) (fun _ s' => ∀ σ' ga' H', wipe σ' ws = wipe σ ws → Rel K fa av ga' σ' H' s' → Stp (MuA ga σ s.env) (MuA ga' σ' s'.env) ga ga' H H' → Q σ' H') (XW K fa ca E av (MuA ga σ s.env) ga H)
def rdGcs (E : XK) (ws : List Nat) (ts : List (D → Ev Unit)) : TGs := fun vs σ H Q => ∃ av ga s ds, Rel K fa av ga σ H s ∧ RepL K fa (AvA av ga σ s.env) ga H vs ds ∧
  aft (runT ts ds s) (fun _ s' => ∀ σ' ga' H', wipe σ' ws = wipe σ ws → Rel K fa av ga' σ' H' s' → Stp (MuA ga σ s.env) (MuA ga' σ' s'.env) ga ga' H H' → Q σ' H') (XW K fa ca E av (MuA ga σ s.env) ga H)
end
section
variable {X : Cx} {fa ca : Nat → Addr} {E : XK} {m me : Ev R} {mt : Ev Bool} {mi : Ev Src} {md : D → Ev Unit} {ts : List (D → Ev Unit)} {e x y z tg iter elt : Expr} {es ifs : List Expr} {ws : List Nat} {pos : Pos}
theorem xcName {i : Nat} {n : Str} (p : PG X (.Name n pos) (gName i)) (hi : i ∈ ws) : PG X (.Name n pos) (rdGc X.K fa ca E ws (stD i)) := PG_imp p fun v σ H Q h => by
  obtain ⟨av, ga, s, d, rel, rep, h⟩ := h
  obtain ⟨r4, r5⟩ := rel.store_fz (i := i) rep
  exact h _ _ _ (wipe_set hi) r4 (.id r5)
theorem xcNil : PGs X [] (rdGcs X.K fa ca E ws []) := PGs_imp pgs_nil fun vs σ H Q h => by
  obtain ⟨av, ga, s, ds, rel, rep, h⟩ := h
  cases rep with
  | nil => exact ⟨rfl, h _ _ _ rfl rel (.id fun _ z => z)⟩
  | cons => exact h.elim
theorem xcCons (p : PG X e (rdGc X.K fa ca E ws md)) (ps : PGs X es (rdGcs X.K fa ca E ws ts)) (hs : (assignEach (e :: es) X.env).map (·.2) = assign e X.env :: (assignEach es X.env).map (·.2) := by rfl) : PGs X (e :: es) (rdGcs X.K fa ca E ws (md :: ts)) :=
  PGs_imp (pgs_cons p ps hs) fun vs σ H Q h => by
    obtain ⟨av, ga, s, ds, rel, rep, h⟩ := h
    cases rep with
    | nil => exact h.elim
    | cons r1 r2 =>
      refine ⟨_, _, rfl, av, ga, s, _, rel, r1, aft_mono (aft_bd h) (fun _ s1 h1 σ1 ga1 H1 w1 rel1 st1 => ?_) fun _ _ z => z⟩
      exact ⟨av, ga1, s1, _, rel1, RepL.keep st1.kp r2, aft_mono h1 (fun _ s2 h2 σ2 ga2 H2 w2 rel2 st2 => h2 _ _ _ (w2.trans w1) rel2 (st1.trans st2)) fun _ _ z => z.sub st1 fun _ y => y⟩
theorem xcTup {k : Nat} (hc : X.calm = true) (ps : PGs X es (rdGcs X.K fa ca E ws ts)) (hl : ts.length = es.length := by rfl) (hn : (assignEach es X.env).length = es.length := by rfl) (hst : (assignEach es X.env).findIdx? (·.1) = none := by rfl) :
    PG X (.Tuple es k pos) (rdGc X.K fa ca E ws (tgT ts)) := PG_imp (pg_tup (n := es.length) hc ps hn hst) fun v σ H Q h => by
  obtain ⟨av, ga, s, d, rel, rep, h⟩ := h
  unfold tgT at h
  split at h
  · rename_i ds
    split at h
    · rename_i hz
      cases rep with
      | tup n q r => exact ⟨_, _, rfl, .inl (.inl q), by rw [r.length, hz, hl], av, ga, s, _, rel, r, h⟩
    · exact h.elim
  · exact h.elim
theorem xpNil : PTs X [] (rdT X.K fa ca E tYesM) := ⟨fun pins s σ H Q I h => by
  obtain ⟨av, ga, s', rel, h⟩ := h
  exact pts_nil.run pins s σ H Q I (h ga H rel (.id fun _ z => z))⟩
theorem xpOne {c : Expr} (h : PT X c (rdT X.K fa ca E mt)) : PTs X [c] (rdT X.K fa ca E mt) := pts_one h

def AtOk (K : PySem.W.Frag) (fa : Nat → Addr) (A : Addr → Prop) (ga : Nat → Option Addr) (J : It) (sr : Src) (i : Nat) (Hc : Hp) : Option D → Prop
  | none => J.stop i Hc
  | some d => (∀ ds, sr = .con ds → i + 1 ≤ ds.length) ∧ J.go i Hc ∧ ∀ x H2, J.yld i Hc x H2 → (∀ a o, Hc a = some o → H2 a = some o) ∧ Rep K fa A ga H2 x d
/-- what the items of a source are at a turn -/
theorem src_at {K : PySem.W.Frag} {sr : Src} {J : It} {av : Addr → Prop} {ga1 ga' : Nat → Option Addr} {σ : L2.St} {H1 Hc : Hp} {s1 s' : S} {Dn : Addr} {i : Nat} {o : Option D} (ok : SrcOk K fa J σ (AvA av ga1 σ s1.env) ga1 H1 sr) (hD : H1 Dn = none) (hns : ∀ j, sr = .slot j → j ∉ ws)
    (rel : Rel K fa (avU av [Dn]) ga' (wipe σ ws) Hc s') (st : Stp (MuA ga1 σ s1.env) (MuA ga' (wipe σ ws) s'.env) ga1 ga' H1 Hc) (hi : ∀ ds, sr = .con ds → i ≤ ds.length) (e : srcAt sr i s' = some o) : AtOk K fa (AvA (avU av [Dn]) ga' (wipe σ ws) s'.env) ga' J sr i Hc o := by
  cases sr with
  | con ds =>
    have ok : ConOk K fa J (AvA av ga1 σ s1.env) ga1 H1 ds := ok
    cases e
    have kp0 := st.kp (av := av)
    have kp : Kp (AvA av ga1 σ s1.env) (AvA (avU av [Dn]) ga' (wipe σ ws) s'.env) ga1 ga' H1 Hc := ⟨kp0.rd, kp0.ls, kp0.tp, fun a z => by
      rcases z with (z | z) | z
      · exact .inl (.inl z)
      · exact .inr (by rw [List.mem_singleton.mp z]; exact hD)
      · exact kp0.av a (.inr z), kp0.gr⟩
    obtain ⟨q1, q2⟩ := ok _ _ _ kp (fun a o n h t => st.st a o (fun z => n (.inr z)) h t) rel.av_dom
    have hi := hi ds rfl
    cases q : ds[i]? with
    | none =>
      have : ds.length ≤ i := by simpa using q
      have e0 : i = ds.length := by omega
      show J.stop i Hc
      rw [e0]; exact q1
    | some d =>
      have hlt := (List.getElem?_eq_some_iff.mp q).1
      exact ⟨fun _ e => by cases e; omega, q2 i d q⟩
  | slot j =>
    obtain ⟨a, h1, rfl⟩ := ok
    have hj := hns j rfl
    have hσ : (wipe σ ws)[j]? = some (some (V.ref a)) := by rw [wipe_out hj]; exact h1
    have fin : ∀ {xs : List V} {ds : List D}, Hc a = some (.lst xs) → RepL K fa (AvA (avU av [Dn]) ga' (wipe σ ws) s'.env) ga' Hc xs ds → o = ds[i]? → AtOk K fa (AvA (avU av [Dn]) ga' (wipe σ ws) s'.env) ga' (Itl K a) (.slot j) i Hc o := fun {xs ds} q1 q2 q3 => by
      have sq : SqL K Hc a xs := .inl (.inl q1)
      subst q3
      cases q : ds[i]? with
      | none =>
        have : ds.length ≤ i := by simpa using q
        exact ⟨xs, sq, by rw [q2.length]; exact this⟩
      | some d =>
        obtain ⟨v, e1, e2⟩ := q2.get q
        refine ⟨(fun _ z => nomatch z), ⟨xs, v, sq, e1⟩, fun x H2 y => ?_⟩
        obtain ⟨rfl, y2⟩ := y
        have e3 := y2 xs sq
        rw [e1] at e3
        cases e3
        exact ⟨fun _ _ h => h, e2⟩
    simp only [srcAt] at e
    split at e
    · rename_i ds he
      cases e
      obtain ⟨p, p1, p2, _⟩ := rel.ow j _ he
      rw [hσ] at p1
      cases p1
      obtain ⟨xs, q1, q2⟩ := p2
      exact fin q1 q2 rfl
    · rename_i ds he
      cases e
      obtain ⟨v, p1, p2⟩ := rel.fz j _ he
      rw [hσ] at p1
      cases p1
      cases p2 with
      | lst n q1 q2 => exact fin q1 q2 rfl
    · cases e
end
end Ev
end
section
set_option Elab.async false
set_option linter.all false
set_option maxRecDepth 100000
set_option maxHeartbeats 2000000
/-! Ev13: the rule of a list comprehension. -/
namespace Ev
open PySem PySem.Spec PyProof.Rows L2

section
variable {X : Cx} {fa ca : Nat → Addr} {E E' : XK} {m me : Ev R} {mt : Ev Bool} {mi : Ev Src} {md : D → Ev Unit} {mtg : R → Ev Unit} {ts : List (D → Ev Unit)} {e x y z tg iter elt : Expr} {es ifs : List Expr} {ws : List Nat} {pos : Pos}
theorem compD_G {sr : Src} {ws : List Nat} {md : D → Ev Unit} {mt : Ev Bool} {me : Ev R} {s : S} {k : List D → S → Prop} {x : Exc → G → Prop} (h : aft (compD sr ws md mt me s) k x) : (∀ j, sr = .slot j → j ∉ ws) ∧ ∃ f, aft (compG sr ws md mt me f 0 [] s) k x := by
  cases sr with
  | con ds =>
    refine ⟨(fun _ z => nomatch z), ds.length + 1, ?_⟩
    rw [compC_eq (ds := ds) rfl rfl]
    exact h
  | slot i =>
    simp only [compD] at h
    split at h
    · exact h.elim
    · rename_i hc
      refine ⟨fun j e => ?_, szL, h⟩
      cases e
      simpa using hc
theorem comp_main' {wi : TI} {g : TG} {tt : TT} {te : TE} (ws : List Nat) (hn : ws.Nodup) (hg : ∀ v σ H Q, rdGc X.K fa ca E' ws md v σ H Q → g v σ H Q) (ht : ∀ σ H Q, rdT X.K fa ca E' mt σ H Q → tt σ H Q) (he : ∀ σ H Q, rdE X.K fa ca E' me σ H Q → te σ H Q) {σ : L2.St} {H : Hp} {Q : VK} {av : Addr → Prop} {ga : Nat → Option Addr} {s : S} (rel : Rel X.K fa av ga σ H s) (hi : ∀ R, aft (mi s) (fun sr s' => ∀ ga' H' J, Rel X.K fa av ga' σ H' s' → Stp (MuA ga σ s.env) (MuA ga' σ s'.env) ga ga' H H' → SrcOk X.K fa J σ (AvA av ga' σ s'.env) ga' H' sr → R J H') (XW X.K fa ca E av (MuA ga σ s.env) ga H) → wi σ H R)
    (h : aft (eComp ws mi md mt me s) (fun r s' => ∀ fs v ga' H', Pst X.K fa av ga σ H s ga' H' s' fs [v] [r] → Q v H') (XW X.K fa ca E av (MuA ga σ s.env) ga H)) : tLc wi g tt te ws σ H Q := by
  refine hi _ (aft_mono (aft_bd h) (fun sr s1 h1 ga1 H1 J rel1 st1 ok1 Dn hD => ?_) fun _ _ z => z)
  split at h1
  · rename_i hok
    have ext : ∀ a o, H1 a = some o → upd H1 Dn (.lst []) a = some o := fun a o h => by rw [upd_ne (ne_of_none h hD)]; exact h
    have relD : Rel X.K fa (avU av [Dn]) ga1 σ (upd H1 Dn (.lst [])) s1 := rel1.grow ext (fun p hp => by rw [List.mem_singleton.mp hp]; exact ⟨hD, by rw [upd_same]; simp⟩)
    obtain ⟨relW, muW⟩ := relD.wiped ws
    obtain ⟨hns, f, h1⟩ := compD_G (aft_nxt h1)
    have inD : avU av [Dn] Dn := .inr (by simp)
    refine ⟨fun i m Hc => ∃ ga' s' acc accV, Rel X.K fa (avU av [Dn]) ga' (wipe σ ws) Hc s' ∧ Hc Dn = some (.lst accV) ∧ RepL X.K fa (AvA (avU av [Dn]) ga' (wipe σ ws) s'.env) ga' Hc accV acc.reverse ∧ Stp (MuA ga1 σ s1.env) (MuA ga' (wipe σ ws) s'.env) ga1 ga' H1 Hc ∧ acc.length ≤ i ∧ (∀ ds, sr = .con ds → i ≤ ds.length) ∧
      aft (compG sr ws md mt me m i acc s') (fun acc s2 => aft (some (.ok (.fr (.lst acc.reverse)) ⟨backE s1.env ws s2.env, s2.g⟩)) (fun r s' => ∀ fs v ga' H', Pst X.K fa av ga σ H s ga' H' s' fs [v] [r] → Q v H') (XW X.K fa ca E av (MuA ga σ s.env) ga H)) (fun _ _ => False), ⟨f, ga1, wipeS ws s1, [], [], relW, upd_same, .nil, (Stp.grow ext).trans (.id muW), Nat.le_refl _, (fun _ _ => Nat.zero_le _), h1⟩, ?_⟩
    rintro i m Hc ⟨ga', s', acc, accV, relc, hDc, racc, stc, hlen, hcon, hc'⟩
    cases m with
    | zero => exact hc'.elim
    | succ m =>
      simp only [compG] at hc'
      split at hc'
      · exact hc'.elim
      · rename_i e0
        have q := src_at (ws := ws) ok1 hD hns relc stc hcon e0
        refine .inl ⟨q, ?_⟩
        -- the block's end
        obtain ⟨relE, muE⟩ := Rel.back (A0 := AvA (avU av [Dn]) ga' (wipe σ ws) s'.env) (e1 := s1.env) (fun j d hj => by
          obtain ⟨v, q1, q2⟩ := rel1.fz j d hj
          have kp0 := stc.kp (av := av)
          refine ⟨v, q1, Rep.keep ⟨kp0.rd, kp0.ls, kp0.tp, fun a z => ?_, kp0.gr⟩ q2⟩
          rcases z with (z | z) | z
          · exact .inl (.inl z)
          · exact .inr (by rw [List.mem_singleton.mp z]; exact hD)
          · exact kp0.av a (.inr z)) hn hok relc (fun _ z => z)
        have hc' : ∀ fs v ga'' H'', Pst X.K fa av ga σ H s ga'' H'' ⟨backE s1.env ws s'.env, s'.g⟩ fs [v] [.fr (.lst acc.reverse)] → Q v H'' := hc'
        have hH : H Dn = none := by
          cases e : H Dn with
          | none => rfl
          | some o => exact absurd hD (st1.dm Dn (by rw [e]; simp))
        refine hc' [Dn] (.ref Dn) ga' Hc ⟨relE, ?_, fun p hp => ?_, st1.trans (stc.trans (.id muE))⟩
        · refine .fr ⟨accV, hDc, RepL.keep (Kp.sub fun a z => ?_) racc⟩ (fun z => nomatch z) .nil
          exact z.elim .inl fun y => .inr (muE a y)
        · rw [List.mem_singleton.mp hp]
          exact ⟨hH, fun z => rel.dom Dn z hH⟩
      · rename_i d e0
        obtain ⟨hcon1, hgo, hyld⟩ := src_at (ws := ws) ok1 hD hns relc stc hcon e0
        refine .inr ⟨hgo, fun Hn => ∃ ga' s' acc accV, Rel X.K fa (avU av [Dn]) ga' (wipe σ ws) Hn s' ∧ Hn Dn = some (.lst accV) ∧ RepL X.K fa (AvA (avU av [Dn]) ga' (wipe σ ws) s'.env) ga' Hn accV acc.reverse ∧ Stp (MuA ga1 σ s1.env) (MuA ga' (wipe σ ws) s'.env) ga1 ga' H1 Hn ∧ acc.length ≤ i + 1 ∧ (∀ ds, sr = .con ds → i + 1 ≤ ds.length) ∧
          aft (compG sr ws md mt me m (i + 1) acc s') (fun acc s2 => aft (some (.ok (.fr (.lst acc.reverse)) ⟨backE s1.env ws s2.env, s2.g⟩)) (fun r s' => ∀ fs v ga' H', Pst X.K fa av ga σ H s ga' H' s' fs [v] [r] → Q v H') (XW X.K fa ca E av (MuA ga σ s.env) ga H)) (fun _ _ => False), fun Hn q => ⟨m, Nat.lt_succ_self m, q⟩, fun xv H2 y => ?_⟩
        obtain ⟨ext2, rep⟩ := hyld xv H2 y
        have rel2 : Rel X.K fa (avU av [Dn]) ga' (wipe σ ws) H2 s' := (relc.grow (fs := []) ext2 (fun _ z => nomatch z)).sub fun a z => .inl z
        have st2 : Stp (MuA ga' (wipe σ ws) s'.env) (MuA ga' (wipe σ ws) s'.env) ga' ga' Hc H2 := .grow ext2
        have hD2 := ext2 _ _ hDc
        refine hg _ _ _ _ ⟨avU av [Dn], ga', s', d, rel2, rep, aft_mono (aft_nxt hc') (fun _ s3 h3 σ3 ga3 H3 hw rel3 st3 => ?_) fun _ _ z => z.elim⟩
        have hw : wipe σ3 ws = wipe σ ws := hw.trans (wipe_idem ws)
        refine ⟨hw, ht _ _ _ ⟨avU av [Dn], ga3, s3, rel3, aft_mono (aft_nxt h3) (fun b s4 h4 ga4 H4 rel4 st4 => ?_) fun _ _ z => z.elim⟩⟩
        have hD3 := rel2.apart st3 inD hD2 (fun _ z => nomatch z)
        have hD4 := rel3.apart st4 inD hD3 (fun _ z => nomatch z)
        have stA := (st2.trans st3).trans st4
        cases b with
        | false =>
          obtain ⟨relw, muw⟩ := rel4.wiped ws
          have h4 : aft (compG sr ws md mt me m (i + 1) acc (wipeS ws s4)) _ _ := h4
          rw [hw] at relw muw
          have stB := stA.trans (.id muw)
          exact iteF ⟨ga4, wipeS ws s4, acc, accV, relw, hD4, RepL.keep stB.kp racc, stc.trans stB, Nat.le_succ_of_le hlen, hcon1, h4⟩
        | true =>
          refine iteT (he _ _ _ ⟨avU av [Dn], ga4, s4, rel4, aft_mono (aft_nxt h4) (fun r s5 h5 fs v ga5 H5 p5 => ?_) fun _ _ z => z.elim⟩)
          split at h5
          · exact h5.elim
          · rename_i d' s6 e6
            split at h5
            · rename_i hk
              obtain ⟨r1, r2, r3⟩ := p5.esc (show escL [r] s5 = some ([d'], s6) by simp [escL, e6])
              have hD5 := rel4.apart r3 inD hD4 (fun _ z => nomatch z)
              obtain ⟨relw, muw⟩ := (r1.updA (o := .lst (accV ++ [v])) inD hD5).wiped ws
              rw [hw] at relw muw
              have stB := (stA.trans r3).trans (.id muw)
              have hlV : accV.length ≤ i := by rw [racc.length, List.length_reverse]; exact hlen
              refine ⟨accV, hD5, by rw [szL_eq]; omega, ga5, wipeS ws s6, d' :: acc, accV ++ [v], relw, upd_same, ?_, (stc.trans stB).updNew hD, Nat.succ_le_succ hlen, hcon1, h5⟩
              have kpU : Kp (AvA (avU av [Dn]) ga5 (wipe σ ws) (wipeS ws s6).env) (AvA (avU av [Dn]) ga5 (wipe σ ws) (wipeS ws s6).env) ga5 ga5 H5 (upd H5 Dn (.lst (accV ++ [v]))) := by
                have ne : ∀ a, ¬ AvA (avU av [Dn]) ga5 (wipe σ ws) (wipeS ws s6).env a → upd H5 Dn (.lst (accV ++ [v])) a = H5 a := fun a n => upd_ne fun e => n (.inl (by rw [e]; exact inD))
                exact ⟨fun a u n _ _ q => q.elim (fun z => .inl ((ne a n).trans z)) fun ⟨o, z⟩ => .inr ⟨o, (ne a n).trans z⟩, fun a xs n q => (ne a n).trans q, fun a xs n q => (ne a n).trans q, fun a z => .inl z, fun _ _ e => e⟩
              rw [List.reverse_cons]
              refine RepL.keep kpU ((RepL.keep stB.kp racc).append ?_)
              cases r2 with
              | cons h _ => exact .one (Rep.keep (Kp.sub fun a z => z.elim .inl fun y => .inr (muw a y)) h)
            · exact h5.elim
  · exact h1.elim
theorem comp_main {wi : TI} {g : TG} {tt : TT} {te : TE} (ws : List Nat) (hn : ws.Nodup) (hg : ∀ v σ H Q, rdGc X.K fa ca E' ws md v σ H Q → g v σ H Q) (ht : ∀ σ H Q, rdT X.K fa ca E' mt σ H Q → tt σ H Q) (he : ∀ σ H Q, rdE X.K fa ca E' me σ H Q → te σ H Q) {σ : L2.St} {H : Hp} {Q : VK} (hi : ∀ R, rdI X.K fa ca E mi σ H R → wi σ H R)
    (h : rdE X.K fa ca E (eComp ws mi md mt me) σ H Q) : tLc wi g tt te ws σ H Q := by
  obtain ⟨av, ga, s, rel, h⟩ := h
  exact comp_main' ws hn hg ht he rel (fun R q => hi R ⟨av, ga, s, rel, q⟩) h
theorem xComp {scope : Scope} {own : List (Str × Nat)} (hc : X.calm = true) (hN : X.N.Nodup) (hi : PI X tg iter (rdI X.K fa ca E mi)) (ok : BlkOk X.N X.env.scope scope own) (hn : (own.map (·.2)).Nodup)
    (hg : ∀ (s : Shared) (H : Hp) (C : Addr) (cl : List (Str × Addr)) (fp : List Addr), PG (X.blk s H scope (compEnvC scope cl C X.env) fp) tg (rdGc X.K fa ca E0 (own.map (·.2)) md)) (ht : ∀ (s : Shared) (H : Hp) (C : Addr) (cl : List (Str × Addr)) (fp : List Addr), PTs (X.blk s H scope (compEnvC scope cl C X.env) fp) ifs (rdT X.K fa ca E0 mt))
    (he : ∀ (s : Shared) (H : Hp) (C : Addr) (cl : List (Str × Addr)) (fp : List Addr), PE (X.blk s H scope (compEnvC scope cl C X.env) fp) elt (rdE X.K fa ca E0 me)) (hs : ∀ x, foldedSetIterable iter X.env x = pure x := by intro _; rfl) :
    PE X (.ListComp elt [⟨tg, iter, ifs, 0⟩] scope pos) (rdE X.K fa ca E (eComp (own.map (·.2)) mi md mt me)) :=
  PE_imp (pe_lc hc hN hi ok hg ht he hs) fun _ _ _ h => comp_main (own.map (·.2)) hn (fun _ _ _ _ z => z) (fun _ _ _ z => z) (fun _ _ _ z => z) (fun _ z => z) h
/-- name = [..] on one line -/
theorem xAsgLc {scope : Scope} {own : List (Str × Nat)} {i : Nat} {y : Str} {py spos : Pos} (hc : X.calm = true) (hN : X.N.Nodup) (hy : X.N[i]? = some y) (hyl : X.env.scope.names.lookup y = some .local) (hsw : swapsWith (.ListComp elt [⟨tg, iter, ifs, 0⟩] scope pos) (some (.Name y py)) spos.line X.env = pure true) (hi : PI X tg iter (rdI X.K fa ca E mi)) (ok : BlkOk X.N X.env.scope scope own) (hn : (own.map (·.2)).Nodup)
    (hg : ∀ (s : Shared) (H : Hp) (C : Addr) (cl : List (Str × Addr)) (fp : List Addr), PG (X.blk s H scope (compEnvC scope cl C X.env) fp) tg (rdGc X.K fa ca E0 (own.map (·.2)) md)) (ht : ∀ (s : Shared) (H : Hp) (C : Addr) (cl : List (Str × Addr)) (fp : List Addr), PTs (X.blk s H scope (compEnvC scope cl C X.env) fp) ifs (rdT X.K fa ca E0 mt))
    (he : ∀ (s : Shared) (H : Hp) (C : Addr) (cl : List (Str × Addr)) (fp : List Addr), PE (X.blk s H scope (compEnvC scope cl C X.env) fp) elt (rdE X.K fa ca E0 me)) (hs : ∀ x, foldedSetIterable iter X.env x = pure x := by intro _; rfl) (hg2 : PG X (.Name y py) (gName i)) :
    PS X (.Assign [.Name y py] (.ListComp elt [⟨tg, iter, ifs, 0⟩] scope pos) spos) (rdS X.K fa ca E (sAsg (eComp (own.map (·.2)) mi md mt me) (stR i))) :=
  PS_imp (ps_setLc hc hN hy hyl hsw hi ok hg ht he hs) fun De σ H h => by
    refine comp_main (own.map (·.2)) hn (fun _ _ _ _ z => z) (fun _ _ _ z => z) (fun _ _ _ z => z) (fun _ z => z) ?_
    obtain ⟨av, ga, s, rel, h⟩ := h
    refine ⟨av, ga, s, rel, aft_mono (aft_bd h) (fun r s1 h1 fs v ga1 H1 p1 => ?_) fun _ _ z => z⟩
    have h1 := aft_bd h1
    show De.nx (σ.set i (some v)) H1
    have rv := p1.rv
    have rel1 := p1.rel
    unfold stR at h1
    split at h1
    · rename_i d
      cases rv with
      | @fr fs' _ _ p _ own nin rv' =>
        cases rv'
        obtain ⟨r1, r2⟩ := rel1.store_ow (i := i) own (p1.new p (by simp)).2
        refine h1 _ _ _ r1 ⟨p1.st.st, p1.st.dm, fun a z => ?_, p1.st.gr⟩
        rcases r2 a z with z | z
        · exact p1.st.mm a z
        · exact .inr (by rw [z]; exact (p1.new p (by simp)).1)
    · split at h1
      · exact h1.elim
      · rename_i d s2 e
        obtain ⟨r1, r2, r3⟩ := p1.esc (show escL [r] s1 = some ([d], s2) by simp [escL, e])
        cases r2 with
        | cons h _ =>
          obtain ⟨r4, r5⟩ := r1.store_fz (i := i) h
          exact h1 _ _ _ r4 (r3.trans (.id r5))
end
end Ev
end
section
set_option Elab.async false
set_option linter.all false
set_option maxRecDepth 100000
set_option maxHeartbeats 2000000
/-! Ev14: parallel assignments; methods of a slot's object; d.get(k, x). -/
namespace Ev
open PySem PySem.Spec PyProof.Rows L2

section
variable {K : PySem.W.Frag} {fa ca : Nat → Addr} {av av' M M' A A' : Addr → Prop} {ga ga' ga1 ga2 : Nat → Option Addr} {σ σ' : L2.St} {H H' H1 H2 : Hp} {s s' s1 s2 : S} {fs gs : List Addr} {vs : List V} {rs : List R} {E : XK} {v : V} {res : R}
theorem Pst.resL {rs' : List R} (p : Pst K fa av ga σ H s ga' H' s' fs vs rs) (e : resL rs s' = some (rs', s2)) : Pst K fa av ga σ H s ga' H' s2 fs vs rs' ∧ ∀ r ∈ rs', ∀ i, r ≠ .pk i := by
  obtain ⟨r1, r2, r3, r4⟩ := resL_ok p.rv (fun _ z => z) p.rel e
  exact ⟨⟨r1, r2, p.new, ⟨p.st.st, p.st.dm, fun a z => p.st.mm a (r3 a z), p.st.gr⟩⟩, r4⟩
/-- a store of the first of the results at the end of a row -/
structure Mid (K : PySem.W.Frag) (fa : Nat → Addr) (av : Addr → Prop) (ga : Nat → Option Addr) (σ : L2.St) (H : Hp) (s : S) (ga' : Nat → Option Addr) (σ' : L2.St) (H' : Hp) (s' : S) (fs : List Addr) (vs : List V) (rs : List R) : Prop where
  rel : Rel K fa (avU av fs) ga' σ' H' s'
  rv : RVs K fa (AvA (avU av fs) ga' σ' s'.env) ga' σ' H' fs vs rs
  nav : ∀ p ∈ fs, ¬ av p
  new : ∀ p ∈ fs, H p = none
  st : Stp (MuA ga σ s.env) (MuA ga' σ' s'.env) ga ga' H H'
theorem Mid.go {i : Nat} {r : R} (m : Mid K fa av ga σ H s ga' σ' H' s' fs (v :: vs) (r :: rs)) (hp : ∀ q ∈ r :: rs, ∀ j, q ≠ .pk j) :
    ∃ s2 gs, stR i r s' = some (.ok () s2) ∧ Mid K fa av ga σ H s ga' (σ'.set i (some v)) H' s2 gs vs rs := by
  obtain ⟨s2, gs, h1, h2, h3, h4, h5⟩ := stR_ok (i := i) m.rel m.rv hp m.nav
  exact ⟨s2, gs, h1, h2, h3, fun p z => m.nav p (h5 p z), fun p z => m.new p (h5 p z), ⟨m.st.st, m.st.dm, fun a z => (h4 a z).elim (m.st.mm a) fun y => .inr (m.new a y), m.st.gr⟩⟩
theorem RVs.len (r : RVs K fa A ga σ H fs vs rs) : vs.length = rs.length := by
  induction r with
  | nil => rfl
  | fz _ _ ih => simp [ih]
  | fr _ _ _ ih => simp [ih]
  | pk _ _ ih => simp [ih]
end

/-! ### methods -/
def tyD (isL : Bool) (c : D) : Bool := match isL, c with
  | true, .lst _ => true
  | false, .dK _ _ => true
  | false, .dT _ _ => true
  | _, _ => false
def eMet (isL : Bool) (i : Nat) (f : D → List D → Option (D × D)) (ms : Ev (List R)) : Ev R := fun s => match s.env[i]? with
  | some (.ow c0) => if tyD isL c0 then bd (ms s) fun rs s1 => match escL rs s1 with
    | none => none
    | some (ds, s2) => match s2.env[i]? with
      | some (.ow c) => match f c ds with
        | none => none
        | some (d, c') => some (.ok (.fz d) ⟨s2.env.set i (.ow c'), s2.g⟩)
      | _ => none
    else none
  | _ => none
def mAppend : D → List D → Option (D × D)
  | .lst ds, [d] => if ds.length < szL then some (.non, .lst (ds ++ [d])) else none
  | _, _ => none
def mSetd : D → List D → Option (D × D)
  | .dK ks ds, [k, d] => match keyD k with
    | none => none
    | some k => if ks.length < szL then match lookD k ks ds with
        | some d' => some (d', .dK ks ds)
        | none => some (d, .dK (putD ks ds k d).1 (putD ks ds k d).2)
      else none
  | _, _ => none
section
variable {K : PySem.W.Frag} {fa : Nat → Addr}
theorem kp_upd {A : Addr → Prop} {ga : Nat → Option Addr} {H : Hp} {p : Addr} (hp : A p) (o : HO) : Kp A A ga ga H (upd H p o) := by
  have ne : ∀ a, ¬ A a → upd H p o a = H a := fun a n => upd_ne fun e => n (by rw [e]; exact hp)
  exact ⟨fun a u n _ _ q => q.elim (fun z => .inl ((ne a n).trans z)) fun ⟨o, z⟩ => .inr ⟨o, (ne a n).trans z⟩, fun a xs n q => (ne a n).trans q, fun a xs n q => (ne a n).trans q, fun a z => .inl z, fun _ _ e => e⟩
theorem mo_append : MtOk K fa mAppend rAppend := by
  intro A ga H p c vs ds d c' Q hp own rep e hQ
  unfold mAppend at e
  split at e
  · rename_i xs d1
    split at e
    · rename_i hz
      cases e
      obtain ⟨us, h1, r1⟩ := own
      cases rep with
      | cons h q =>
        cases q
        refine ⟨p, us, _, rfl, rfl, h1, by rw [r1.length, szL_eq]; exact hz, hQ _ _ (fun a h => upd_ne h) ⟨_, upd_same, RepL.keep (kp_upd hp _) (r1.append (.one h))⟩ .non⟩
    · cases e
  · cases e
theorem mo_setd : MtOk K fa mSetd rSetd := by
  intro A ga H p c vs ds d c' Q hp own rep e hQ
  unfold mSetd at e
  split at e
  · rename_i ks ds k0 d1
    split at e
    · cases e
    · rename_i k ek
      split at e
      · rename_i hz
        obtain ⟨kvs, h1, e1, r1⟩ := own
        cases rep with
        | cons hk q =>
          cases q with
          | cons h q =>
            cases q
            cases keyD_ok ek hk.weak
            subst e1
            have hl : kvs.length < sizeLine := by rw [szL_eq]; simpa using hz
            rcases lookD_ok k r1 with ⟨v, d2, q1, q2, q3⟩ | ⟨q1, q2⟩
            · rw [q2] at e
              cases e
              refine ⟨p, kvs, k, _, rfl, rfl, h1, hl, fun u hu => ?_, fun hn => ?_⟩
              · rw [q1] at hu; cases hu
                exact hQ _ _ (fun _ _ => rfl) ⟨kvs, h1, rfl, r1⟩ q3
              · rw [q1] at hn; cases hn
            · rw [q2] at e
              cases e
              refine ⟨p, kvs, k, _, rfl, rfl, h1, hl, fun u hu => ?_, fun hn => ?_⟩
              · rw [q1] at hu; cases hu
              · obtain ⟨p1, p2⟩ := putD_ok (k := k) r1 h
                exact hQ _ _ (fun a h => upd_ne h) ⟨_, upd_same, p1, RepL.keep (kp_upd hp _) p2⟩ (Rep.keep (kp_upd hp _) h)
      · cases e
  · cases e
end
theorem mt_setd {X : Cx} : MtR X "dict.setdefault" rSetd := by
  intro pins s σ H x xs v us Q I rx rv h
  obtain ⟨a, kvs, k, w, rfl, rfl, ea, hl, w1, w2⟩ := h
  cases rx
  cases rv with
  | cons ry rv =>
    cases rv with
    | cons rd rv =>
      cases rv
      obtain ⟨z, hd, vs0, rel, dd⟩ := dk_of I.hok ea
      have hz : vs0.length ≤ sizeLine := by rw [← rel.length]; exact z
      refine call_meetsIn PySem.F.slot_dict_setdefault dd.typeIs PySem.F.entry_dict_setdefault (PySem.F.args_dict_setdefault_3 _ _ _) (kt_meets_setdefault (mixKind X.prog X.w) _ (kV_is ry) hd _) ⟨vs0, dd, hz, fun u hu => ?_, fun hn h' dd' hs => ?_⟩
      · have rr := rel.val k
        rw [hu] at rr
        cases hv : valV kvs k with
        | none => rw [hv] at rr; exact False.elim rr
        | some x =>
          rw [hv] at rr
          exact (⟨x, H, I.tok _, rr, w1 x hv⟩ : EP X pins σ Q u _)
      · have rr := rel.val k
        rw [hn] at rr
        cases hv : valV kvs k with
        | some x => rw [hv] at rr; exact False.elim rr
        | none =>
          have hl2 : (putK kvs k w).length ≤ sizeLine := by have := length_putK kvs k w; omega
          exact (⟨w, _, d_write (t' := s.toks + 1) I (by rw [ea]; exact True.intro) hs (let ⟨q, _, _, hq, _⟩ := dd'; ⟨q, hq⟩) (dk_new hl2 hd (rel.put k rd) dd'), rd, w2 hv⟩ : EP X pins σ Q _ _)
/-- d.update(a list of pairs (text or number, value)) -/
def rUpd (K : PySem.W.Frag) : V → List V → Hp → VK → Prop := fun x vs H Q => ∃ (d a : Addr) (kvs0 : List (Key × V)) (ps : List Addr) (kvs : List (Key × V)), x = .ref d ∧ vs = [.ref a] ∧ H d = some (.dK kvs0) ∧ H a = some (.lst (ps.map V.ref)) ∧ Paired (fun p kv => SqT K H p [kV kv.1, kv.2]) ps kvs ∧ kvs0.length + kvs.length ≤ sizeLine ∧
  Q .non (upd H d (.dK (mergeK kvs0 kvs)))
section
variable {X : Cx} {fa ca : Nat → Addr} {E : XK} {m ma mb mc : Ev R} {ms : Ev (List R)} {o e f : Expr} {es : List Expr} {pos : Pos}
theorem xPar2 {i j : Nat} {x y : Str} {a b : Expr} {px py pt : Pos} {kt k2 pt2} (hc : X.calm = true) (hN : X.N.Nodup) (hi : X.N[i]? = some x) (hj : X.N[j]? = some y) (hij : i ≠ j)
    (hx : X.env.scope.names.lookup x = some .local) (hy : X.env.scope.names.lookup y = some .local) (ha : PA X [a, b] (rdA X.K fa ca E ms))
    (hw : swappedStores [.Tuple [.Name x px, .Name y py] kt pt] (.Tuple [a, b] k2 pt2) X.env = pure (some [x, y]))
    (hs : swapsWithSole [.Tuple [.Name x px, .Name y py] kt pt] (.Tuple [a, b] k2 pt2) pos.line X.env = pure false := by rfl) :
    PS X (.Assign [.Tuple [.Name x px, .Name y py] kt pt] (.Tuple [a, b] k2 pt2) pos) (rdS X.K fa ca E (sPar2 i j ms)) := PS_imp (ps_par hc hN hi hj hij hx hy ha hw hs) fun De σ H h => by
  obtain ⟨av, ga, s, rel, h⟩ := h
  refine ⟨av, ga, s, rel, aft_mono (aft_bd h) (fun rs s1 h1 fs vs ga1 H1 p1 => ?_) fun _ _ z => z⟩
  split at h1
  · rename_i r1 r2 s2 e0
    obtain ⟨p2, np⟩ := p1.resL e0
    have hl := p2.rv.len
    match vs, hl with
    | [v, w], _ =>
      refine ⟨v, w, rfl, ?_⟩
      have m0 : Mid X.K fa av ga σ H s ga1 σ H1 s2 fs [v, w] [r1, r2] := ⟨p2.rel, p2.rv, fun p z => (p2.new p z).2, fun p z => (p2.new p z).1, p2.st⟩
      obtain ⟨s3, gs, e3, m3⟩ := m0.go (i := i) np
      obtain ⟨s4, hs, e4, m4⟩ := m3.go (i := j) fun q z => np q (List.mem_cons_of_mem _ z)
      simp only [e3, e4, bd] at h1
      exact h1 _ _ _ (m4.rel.sub fun a z => .inl z) m4.st
  · exact h1.elim
theorem xPar3 {i j l : Nat} {x y z : Str} {a b c : Expr} {px py pz pt pos : Pos} {kt k2 pt2} (hc : X.calm = true) (hN : X.N.Nodup) (hi : X.N[i]? = some x) (hj : X.N[j]? = some y) (hl : X.N[l]? = some z) (hij : i ≠ j) (hil : i ≠ l) (hjl : j ≠ l)
    (hx : X.env.scope.names.lookup x = some .local) (hy : X.env.scope.names.lookup y = some .local) (hz : X.env.scope.names.lookup z = some .local) (ha : PA X [a, b, c] (rdA X.K fa ca E ms))
    (hw : swappedStores [.Tuple [.Name x px, .Name y py, .Name z pz] kt pt] (.Tuple [a, b, c] k2 pt2) X.env = pure (some [x, y, z]))
    (hs : swapsWithSole [.Tuple [.Name x px, .Name y py, .Name z pz] kt pt] (.Tuple [a, b, c] k2 pt2) pos.line X.env = pure false := by rfl) :
    PS X (.Assign [.Tuple [.Name x px, .Name y py, .Name z pz] kt pt] (.Tuple [a, b, c] k2 pt2) pos) (rdS X.K fa ca E (sPar3 i j l ms)) := PS_imp (ps_par3 hc hN hi hj hl hij hil hjl hx hy hz ha hw hs) fun De σ H h => by
  obtain ⟨av, ga, s, rel, h⟩ := h
  refine ⟨av, ga, s, rel, aft_mono (aft_bd h) (fun rs s1 h1 fs vs ga1 H1 p1 => ?_) fun _ _ z => z⟩
  split at h1
  · rename_i r1 r2 r3 s2 e0
    obtain ⟨p2, np⟩ := p1.resL e0
    have hl := p2.rv.len
    match vs, hl with
    | [u, v, w], _ =>
      refine ⟨u, v, w, rfl, ?_⟩
      have m0 : Mid X.K fa av ga σ H s ga1 σ H1 s2 fs [u, v, w] [r1, r2, r3] := ⟨p2.rel, p2.rv, fun p z => (p2.new p z).2, fun p z => (p2.new p z).1, p2.st⟩
      obtain ⟨s3, gs, e3, m3⟩ := m0.go (i := i) np
      obtain ⟨s4, hs, e4, m4⟩ := m3.go (i := j) fun q z => np q (List.mem_cons_of_mem _ z)
      obtain ⟨s5, hs, e5, m5⟩ := m4.go (i := l) fun q z => np q (List.mem_cons_of_mem _ (List.mem_cons_of_mem _ z))
      simp only [e3, e4, e5, bd] at h1
      exact h1 _ _ _ (m5.rel.sub fun a z => .inl z) m5.st
  · exact h1.elim
theorem tyD_is {K : PySem.W.Frag} {A : Addr → Prop} {ga : Nat → Option Addr} {H : Hp} {p : Addr} {isL : Bool} {c : D} (own : Own K fa A ga H p c) (h : tyD isL c = true) : tyV K (if isL then "list" else "dict") (.ref p) H := by
  match isL, c, own, h with
  | true, .lst ds, ⟨vs, h, _⟩, _ => exact .inl ⟨rfl, vs, .inl (.inl h)⟩
  | false, .dK ks ds, ⟨kvs, h, _⟩, _ => exact .inr (.inr (.inl ⟨rfl, .inl ⟨kvs, h⟩⟩))
  | false, .dT ks ds, ⟨kvs, h, _⟩, _ => exact .inr (.inr (.inl ⟨rfl, .inr ⟨kvs, h⟩⟩))
theorem xMet {isL : Bool} {i : Nat} {name : Str} {id : String} {r : V → List V → Hp → VK → Prop} {mf : D → List D → Option (D × D)} {apos cpos : Pos} (pa : PlainAttrs (if isL then "list" else "dict")) (slot : PySem.Slot (if isL then "list" else "dict") name id) (hty : typeOf (.builtin id) = pure (.type "method_descriptor")) (hm : MtR X id r) (mo : MtOk X.K fa mf r)
    (ho : PE X o (rdE X.K fa ca E (eVar i))) (ha : PA X (e :: es) (rdA X.K fa ca E ms))
    (hbase : attributeBase o name X.env (eval o X.env) = eval o X.env := by rfl)
    (hfew : ((backTo cpos (starEach (e :: es) X.env)).all (fun x => !x.1) && (backToKw cpos (keywordEach [] X.env)).all (fun x => x.1.isSome)
      && decide ((e :: es).length + ([] : List Keyword).length + (if ([] : List Keyword).isEmpty then 0 else 1) < 30)) = true := by rfl)
    (hline : (apos.endLine == cpos.line) = true := by rfl) (hs : starEach (e :: es) X.env = (false, eval e X.env) :: starEach es X.env := by rfl) (hplain : (backTo cpos (starEach es X.env)).any (·.1) = false := by rfl) :
    PE X (.Call (.Attribute o name apos) (e :: es) [] cpos) (rdE X.K fa ca E (eMet isL i mf ms)) := PE_imp (pe_bm pa slot hty hm ho ha hbase hfew hline hs hplain) fun σ H Q h => by
  obtain ⟨av, ga, s, rel, h⟩ := h
  unfold eMet at h
  split at h
  · rename_i c0 e0
    split at h
    · rename_i hT
      refine ⟨av, ga, s, rel, ?_⟩
      have ev : eVar i s = some (.ok (.pk i) s) := by unfold eVar; rw [e0]
      rw [ev]
      show ∀ fs o ga1 H1, Pst X.K fa av ga σ H s ga1 H1 s fs [o] [.pk i] → _
      intro fs o ga1 H1 p1
      have hov : σ[i]? = some (some o) := by
        cases p1.rv with
        | pk z _ => exact z
      have rel1 := p1.drop
      obtain ⟨p, q1, q2, _, _⟩ := rel1.ow i c0 e0
      rw [hov] at q1
      cases q1
      refine ⟨tyD_is q2 hT, av, ga1, s, rel1, aft_mono (aft_bd h) (fun rs s2 h2 gs kv ga2 H2 p2 => ?_) fun _ _ z => z.sub p1.st fun _ y => y⟩
      split at h2
      · exact h2.elim
      · rename_i ds s3 e3
        obtain ⟨r1, r2, r3⟩ := p2.esc e3
        split at h2
        · rename_i c e4
          split at h2
          · exact h2.elim
          · rename_i d c' e5
            obtain ⟨p', w1, w2, w3, w4⟩ := r1.ow i c e4
            rw [hov] at w1
            cases w1
            refine mo (AvA av ga2 σ s3.env) ga2 H2 p c _ ds d c' Q (.inr (.inr ⟨i, c, e4, hov⟩)) w2 r2 e5 fun v H3 same own rep => ?_
            obtain ⟨y1, y2⟩ := r1.write e4 hov same own
            have st3 := (p1.st.trans r3).trans y2
            refine h2 [] v ga2 H3 ⟨by rw [avU_nil]; exact y1, .fz (Rep.keep (Kp.sub fun a z => ?_) rep) .nil, (fun _ z => nomatch z), st3⟩
            rw [avU_nil] at z
            refine z.elim .inl fun y => ?_
            rcases y with y | ⟨j, dj, z1, z2⟩
            · exact .inr (.inl y)
            · by_cases hj : j = i
              · subst hj
                exact .inr (.inr ⟨j, c, e4, z2⟩)
              · have z1 : (s3.env.set i (.ow c'))[j]? = some (.ow dj) := z1
                rw [List.getElem?_set_ne (Ne.symm hj)] at z1
                exact .inr (.inr ⟨j, dj, z1, z2⟩)
        · exact h2.elim
    · exact h.elim
  · exact h.elim
end
end Ev
end
section
set_option Elab.async false
set_option linter.all false
set_option maxRecDepth 100000
set_option maxHeartbeats 2000000
/-! Ev15: what is known of a def (Kn); names of the module; isinstance; d.get(k, x); slices. -/
namespace Ev
open PySem PySem.Spec PyProof.Rows L2

structure Kn (P : Program) (w : World) (K : PySem.W.Frag) (mg : Str → Option Value) (base : Heap) (fa ca : Nat → Addr) (lvl k : Nat) (n : Str) (ps : List Str) (f : Fn) : Prop where
  ex : ∃ fd, FnOk P w K mg base (L2N.CX P w) lvl (fa k) fd ps (spOf K fa ca ps.length f) ∧ Binds K fd ps []
  mg : mg n = some (.ref (fa k))
  kp : PySem.W.keepIn K (.ref (fa k)) = true
section
variable {P : Program} {w : World} {K : PySem.W.Frag} {mg : Str → Option Value} {base : Heap} {fa ca : Nat → Addr}
theorem kn_of {lvl k : Nat} {n : Str} {st : Stmt} {fd : FuncData} {N ps : List Str} {b : Ev Ct} (F : Fun K n n st (fa k) fd) (hm : mg n = some (.ref (fa k))) (S : FnScope N ps (defScope st)) (hb : Binds K fd ps [])
    (body : ∀ (cdv : Value) (A : Around) (outer : List Env) (s : Shared) (H : Hp) (E : XK), Room lvl (A.deeper (envOfC n (defScope st) s.heap.objs.size (fa k) cdv)) → PSs (cxOf (L2N.CX P w) P w K mg base N n (defScope st) (fa k) cdv A outer s H E) (defBody st) (rdS K fa ca E b)) :
    Kn P w K mg base fa ca (lvl + 1) k n ps (runB N.length b) :=
  ⟨⟨fd, Fun_okN F S (fun vs H Q E h => h.1) fun cdv A outer s H vs Q E hr h => ⟨_, body cdv A outer s H E hr, spOf_start h⟩, hb⟩, hm, F.kp⟩
end
section
variable {X : Cx} {fa ca : Nat → Addr} {E : XK} {m ma mb mc : Ev R} {ms : Ev (List R)} {o e f x y : Expr} {es : List Expr} {pos p : Pos}
theorem xCallK {lvl k : Nat} {n : Str} {ps : List Str} {fn : Fn} (F : Kn X.prog X.w X.K X.mg X.base fa ca lvl k n ps fn) (hr : Room lvl X.A) (hx : Passes (L2N.CX X.prog X.w) X E) (ha : PA X (e :: es) (rdA X.K fa ca E ms)) (hg : Gl X n := by rfl) (hl : (e :: es).length = ps.length := by rfl) (hst : (e :: es).all notStar = true := by rfl) (hdb : (n == ("__debug__" : Str)) = false := by decide) :
    PE X (.Call (.Name n p) (e :: es) [] pos) (rdE X.K fa ca E (eCall ps.length fn ms)) := by
  obtain ⟨fd, h1, h2⟩ := F.ex
  exact xCall h1 hr hg F.mg F.kp h2 hx ha hl hst hdb
/-- a name of the module that holds a number -/
theorem xGint {n : Str} {i : Int} (hg : Gl X n) (hm : ∃ t, X.mg n = some (.int i t)) (hd : (n == ("__debug__" : Str)) = false := by decide) : PE X (.Name n pos) (rdE X.K fa ca E (eVal (.int i))) := by
  obtain ⟨t, e⟩ := hm
  exact xVal (pe_glob (v := .int i) hg e ⟨t, rfl⟩ hd) fun _ _ _ => .int i
/-- a def as a value -/
theorem xGfn {n : Str} {k : Nat} (hg : Gl X n) (hm : X.mg n = some (.ref (fa k))) (hd : (n == ("__debug__" : Str)) = false := by decide) : PE X (.Name n pos) (rdE X.K fa ca E (eVal (.fn k))) :=
  xVal (pe_glob (v := .ref (fa k)) hg hm rfl hd) fun _ _ _ => .fn k
theorem pe_bty {n : Str} {T : String} (hg : Gl X n) (hm : X.mg n = none) (hv : bootBuiltins n = some (.type T)) (hn : n ≠ "__name__" := by decide) (hdb : (n == ("__debug__" : Str)) = false := by decide) : PE X (.Name n pos) (tC (.ty T)) :=
  ⟨fun pins s σ H Q I h => ld_blt I hg hm hv ⟨.ty T, H, I, rfl, h⟩ hn hdb⟩

/-! ### isinstance(x, T), T a built-in type -/
def tyNm : D → Option String
  | .non => some "NoneType"
  | .bl _ => some "bool"
  | .int _ => some "int"
  | .str _ => some "str"
  | .lst _ => some "list"
  | .tup _ => some "tuple"
  | .ktup _ => some "tuple"
  | .dK _ _ => some "dict"
  | _ => none
def isiB (a T : String) : Bool := (a == T) || (a == "bool" && T == "int")
theorem kit_facts : ∀ a ∈ ["NoneType", "bool", "int", "str", "list", "tuple", "dict"], ∀ T ∈ ["int", "bool", "str", "list", "tuple", "dict"], kitB a T = some (isiB a T) := by decide +kernel
def dIsi (T : String) : List D → Option R
  | [d] => match tyNm d with
    | none => none
    | some a => some (.fz (.bl (isiB a T)))
  | _ => none
theorem ok_isi {K : PySem.W.Frag} {T : String} (hT : T ∈ ["int", "bool", "str", "list", "tuple", "dict"]) : OpOk K fa (dIsi T) (fun vs H Q => ∃ x, vs = [x] ∧ ∃ (t : Value) (b : Bool), TyX K H x t ∧ PySem.W.kitOne K t (.type T) = some b ∧ Q (.bl b) H) := by
  intro A ga H vs ds res Q hA hp hf hQ
  unfold dIsi at hf
  split at hf
  · rename_i d
    split at hf
    · cases hf
    · rename_i a e
      cases hf
      cases hp with
      | cons h hp =>
        cases hp
        have fin : ∀ {x : V} {a : String}, TyX K H x (.type a) → a ∈ ["NoneType", "bool", "int", "str", "list", "tuple", "dict"] → Q (.bl (isiB a T)) H → ∃ y, [x] = [y] ∧ ∃ (t : Value) (b : Bool), TyX K H y t ∧ PySem.W.kitOne K t (.type T) = some b ∧ Q (.bl b) H := fun {x a} h1 h2 h3 =>
          ⟨x, rfl, .type a, isiB a T, h1, kit_ty (kit_facts a h2 T hT), h3⟩
        have q := hQ _ _ (.same (.bl (isiB a T)))
        cases h with
        | non => cases e; exact fin (.base .non) (by simp) q
        | bl b => cases e; exact fin (.base (.bl b)) (by simp) q
        | int i => cases e; exact fin (.base (.int i)) (by simp) q
        | str x => cases e; exact fin (.base (.str x)) (by simp) q
        | lst h r => cases e; exact fin (.base (.lst h)) (by simp) q
        | tup n h r => cases e; exact fin (.base (.tup h)) (by simp) q
        | dK h ek r =>
          cases e
          rcases h with h | ⟨o, h⟩
          · exact fin (.base (.dK h)) (by simp) q
          · exact fin (.fDict h) (by simp) q
        | dT => cases e
        | fn => cases e
        | gref => cases e
        | ktup n h _ r => cases e; exact fin (.fTuple h) (by simp) q
  · cases hf
theorem xIsi {n : Str} {T : String} {p p2 : Pos} (hT : T ∈ ["int", "bool", "str", "list", "tuple", "dict"]) (hv : bootBuiltins n = some (.type T)) (hg : Gl X "isinstance") (hm : X.mg "isinstance" = none) (hg2 : Gl X n) (hm2 : X.mg n = none) (ha : PE X x (rdE X.K fa ca E m)) (hs : notStar x = true := by rfl) (hn : n ≠ "__name__" := by decide) (hdb : (n == ("__debug__" : Str)) = false := by decide) :
    PE X (.Call (.Name "isinstance" p) [x, .Name n p2] [] pos) (rdE X.K fa ca E (eOp1 (dIsi T) m)) := by
  refine PE_imp (pe_callB call_isi hg hm boot_isinstance (pa_cons ha (pa_cons (pe_bty hg2 hm2 hv hn hdb) pa_nil) (star_of hs)) (by decide) (by decide) (star_of hs) rfl) fun σ H Q h => ?_
  obtain ⟨av, ga, s, rel, h⟩ := h
  refine ⟨av, ga, s, rel, aft_mono (aft_bd h) (fun r s1 h1 fs v ga1 H1 p1 => ?_) fun _ _ z => z⟩
  split at h1
  · exact h1.elim
  · rename_i ds e
    obtain ⟨res, hf, h2⟩ := aft_lif h1
    obtain ⟨_, e1, t, b, q1, q2, q3⟩ := p1.op (ok_isi hT) e hf h2
    cases e1
    exact ⟨_, _, t, .type T, b, rfl, .ty T, q1, q2, q3⟩

/-! ### d.get(k, x) -/
def dGet2 : List D → Option D
  | [.dK ks vs, k, d] => match keyD k with
    | none => none
    | some k => some ((lookD k ks vs).getD d)
  | [.dT ks vs, .tup xs, d] => match keysD xs with
    | none => none
    | some k => some ((lookD k ks vs).getD d)
  | _ => none
/-- the default is a plain value -/
def eGet2 (mo mk md : Ev R) : Ev R := fun s => bd (mo s) fun r0 s0 => match nowR r0 s0 with
  | some (.dK _ _) => bd (mk s0) fun r1 s1 => bd (md s1) fun r2 s2 => match r2, nowL [r0, r1, r2] s2 with
    | .fz _, some ds => match dGet2 ds with
      | none => none
      | some d => some (.ok (.fz d) s2)
    | _, _ => none
  | _ => none
theorem get2_ok {K : PySem.W.Frag} {A : Addr → Prop} {ga : Nat → Option Addr} {H : Hp} {v0 v1 v2 : V} {ds : List D} {d : D} (hp : Paired (RepW K fa A ga H) [v0, v1, v2] ds) (h2 : ∀ d, ds[2]? = some d → Rep K fa A ga H v2 d) (e : dGet2 ds = some d) :
    ∃ a o, v0 = .ref a ∧ DGet H a v1 o ∧ Rep K fa A ga H (o.getD v2) d := by
  unfold dGet2 at e
  split at e
  · rename_i ks ws k d2
    split at e
    · cases e
    · rename_i kk ek
      cases e
      have h3 := h2 d2 rfl
      cases hp with | cons h0 hp => cases hp with | cons h1 hp => cases hp with | cons _ hp =>
        cases hp
        cases keyD_ok ek h1
        cases h0 with
        | @dK a kvs _ _ rd e0 r =>
          subst e0
          refine ⟨a, _, rfl, dg_k (k := kk) rd, ?_⟩
          rcases lookD_ok kk r with ⟨v, d', q1, q2, q3⟩ | ⟨q1, q2⟩
          · rw [q1, q2]; exact q3
          · rw [q1, q2]; exact h3
  · rename_i ks ws xs d2
    split at e
    · cases e
    · rename_i kk ek
      cases e
      have h3 := h2 d2 rfl
      cases hp with | cons h0 hp => cases hp with | cons h1 hp => cases hp with | cons _ hp =>
        cases hp
        obtain ⟨b, us, rfl, ⟨_, e1⟩, r1⟩ := h1.tup'
        have e3 := keysD_ok ek r1
        subst e3
        cases h0 with
        | @dT a kvs _ _ rd e0 r =>
          subst e0
          refine ⟨a, _, rfl, dg_t rd e1, ?_⟩
          rcases lookD_ok kk r with ⟨v, d', q1, q2, q3⟩ | ⟨q1, q2⟩
          · rw [q1, q2]; exact q3
          · rw [q1, q2]; exact h3
  · cases e
theorem nowL_cons {r : R} {rs : List R} {s : S} {ds : List D} (h : nowL (r :: rs) s = some ds) : ∃ d ds', nowR r s = some d ∧ nowL rs s = some ds' ∧ ds = d :: ds' := by
  rw [nowL] at h
  split at h
  · cases h
  · rename_i d e
    split at h
    · cases h
    · rename_i ds' e2
      cases h
      exact ⟨d, ds', e, e2, rfl⟩
theorem xGet2 {apos cpos : Pos} (hu : X.A.units + 64 < cLine) (ho : PE X o (rdE X.K fa ca E ma)) (he : PE X e (rdE X.K fa ca E mb)) (hf : PE X f (rdE X.K fa ca E mc)) (hm : M2 X o "get" apos e f cpos := by exact ⟨rfl, rfl, rfl, rfl⟩) : PE X (.Call (.Attribute o "get" apos) [e, f] [] cpos) (rdE X.K fa ca E (eGet2 ma mb mc)) :=
  PE_imp (pe_dget2 (by omega) ho he hf hm) fun σ H Q h => by
    obtain ⟨av, ga, s, rel, h⟩ := h
    refine ⟨av, ga, s, rel, aft_mono (aft_bd h) (fun r0 s0 h0 fs0 v0 ga0 H0 p0 => ?_) fun _ _ z => z⟩
    split at h0
    · rename_i ks ws e0
      have q0 := p0.now (show nowL [r0] s0 = some [.dK ks ws] by simp [nowL, e0])
      obtain ⟨a, rfl, kvs0, hd0⟩ : ∃ a, v0 = .ref a ∧ ∃ kvs, Rd H0 a (.dK kvs) := by
        cases q0 with
        | cons h _ => cases h with
          | dK rd _ _ => exact ⟨_, rfl, _, rd⟩
      refine ⟨a, rfl, .inl ⟨kvs0, hd0⟩, _, ga0, s0, p0.rel, aft_mono (aft_bd h0) (fun r1 s1 h1 fs1 v1 ga1 H1 p1 => ?_) fun _ _ z => z.sub p0.st fun _ y => .inl y⟩
      have p01 := p0.then p1
      refine ⟨_, ga1, s1, p01.rel, aft_mono (aft_bd h1) (fun r2 s2 h2 fs2 v2 ga2 H2 p2 => ?_) fun _ _ z => z.sub p01.st fun _ y => .inl y⟩
      have p := p01.then p2
      split at h2
      · rename_i d2 ds e2
        split at h2
        · exact h2.elim
        · rename_i d e3
          have hv2 : Rep X.K fa (AvA (avU av (fs0 ++ fs1 ++ fs2)) ga2 σ s2.env) ga2 H2 v2 d2 := by
            have rv := p2.rv
            cases rv with
            | fz h _ =>
              refine Rep.keep (Kp.sub fun a z => ?_) h
              rw [avU_app]
              exact z
          have hds : ∀ d, ds[2]? = some d → d = d2 := by
            obtain ⟨x0, ds0, _, e5, rfl⟩ := nowL_cons e2
            obtain ⟨x1, ds1, _, e6, rfl⟩ := nowL_cons e5
            obtain ⟨x2, ds2, e7, e8, rfl⟩ := nowL_cons e6
            cases e7
            intro d hd
            exact (Option.some.inj hd).symm
          obtain ⟨a', oo, w1, w2, w3⟩ := get2_ok (p.now e2) (fun d hd => by rw [hds d hd]; exact hv2) e3
          cases w1
          refine ⟨oo, w2, ?_⟩
          have rel3 := p.drop
          obtain ⟨gs, q⟩ := rel3.newR (v := oo.getD v2) (res := .fz d) (.fz (fun _ _ h => h) (Rep.keep (Kp.sub fun a z => z.elim (fun y => .inl (.inl y)) .inr) w3))
          exact h2 _ _ _ _ (.after p.st q)
      · exact h2.elim
    · exact h0.elim

/-! ### slices -/
def rawB : D → Option (Option Int)
  | .non => some none
  | .int i => some (some i)
  | _ => none
end
end Ev
end
section
set_option Elab.async false
set_option linter.all false
set_option maxRecDepth 100000
set_option maxHeartbeats 2000000
/-! Ev16: x[1:], x[::-1]. -/
namespace RT
open PySem PySem.Spec PyProof.Rows L2 HT
section
variable {prog : Program} {w : World} {A : Around} {E : Value → Shared → Prop} {s : Shared}
theorem adjust_rev (n : Nat) : Builtin.Slice.sliceAdjust none none (-1) (n : Int) = ((n : Int) - 1, -1) := by
  unfold Builtin.Slice.sliceAdjust
  simp
theorem places_rev (n : Nat) : Builtin.Slice.slicePlaces ((n : Int) - 1) (-1) (-1) = n := by
  unfold Builtin.Slice.slicePlaces
  rw [if_neg (by decide)]
  by_cases h : (n : Int) - 1 > -1
  · rw [if_pos h]
    simp only [Int.neg_neg, Int.ediv_one]
    omega
  · rw [if_neg h]
    omega
theorem sliceApplied_rev {sl : Addr} {vl vu vs : Value} {n : Nat} {Q : Int × Int × Nat → Shared → Prop} (hs : s.heap.IsSliceOf sl vl vu vs) (pl : IsPart vl none) (pu : IsPart vu none) (ps : IsPart vs (some (-1)))
    (h : Q ((n : Int) - 1, -1, n) s) : wpAny (model prog w) A (Builtin.Slice.sliceApplied (.ref sl) (pure (n : Int))) Q E s := by
  obtain ⟨os, hos, hcs, hds⟩ := id hs
  unfold Builtin.Slice.sliceApplied Builtin.Slice.sliceFields
  refine wpAny_bind (wpAny_bind (wpAny_field hos hds (x := vl) rfl (wpAny_bind (wpAny_field hos hds (x := vu) rfl (wpAny_bind (wpAny_field hos hds (x := vs) rfl (wpAny_pure ?_)))))))
  refine wpAny_bind (slicePart_ ps ?_)
  show wpAny _ _ (if ((-1 : Int) == 0) = true then _ else _) _ _ s
  rw [if_neg (by decide)]
  refine wpAny_bind (slicePart_ pl (wpAny_bind (slicePart_ pu (wpAny_bind (wpAny_pure ?_)))))
  show wpAny _ _ (match Builtin.Slice.sliceAdjust none none (-1) (n : Int) with | (lo, hi) => pure (lo, (-1 : Int), Builtin.Slice.slicePlaces lo hi (-1))) _ _ s
  rw [adjust_rev n]
  show wpAny _ _ (pure ((n : Int) - 1, (-1 : Int), Builtin.Slice.slicePlaces ((n : Int) - 1) (-1) (-1))) _ _ s
  rw [places_rev]
  exact wpAny_pure h
theorem fm_congr {α β : Type} {f g : α → Option β} : ∀ {l : List α}, (∀ x ∈ l, f x = g x) → l.filterMap f = l.filterMap g
  | [], _ => rfl
  | a :: l, h => by
    rw [List.filterMap_cons, List.filterMap_cons, h a List.mem_cons_self, fm_congr (l := l) fun x hx => h x (List.mem_cons_of_mem _ hx)]
theorem fm_all {α : Type} (ys : List α) : (List.range ys.length).filterMap (fun m => ys[m]?) = ys := by
  suffices h : ∀ (k : Nat), k ≤ ys.length → (List.range k).filterMap (fun m => ys[m]?) = ys.take k by
    have := h ys.length (Nat.le_refl _)
    rwa [List.take_length] at this
  intro k
  induction k with
  | zero => intro _; rfl
  | succ k ih =>
    intro hk
    rw [List.range_succ, List.filterMap_append, ih (by omega), List.take_succ]
    congr 1
theorem pick_rev (xs : List Value) : ((List.range xs.length).filterMap fun (m : Nat) => xs.toArray[((xs.length : Int) - 1 + (m : Int) * (-1)).toNat]?).toArray = xs.reverse.toArray := by
  congr 1
  have e : ∀ m ∈ List.range xs.length, xs.toArray[((xs.length : Int) - 1 + (m : Int) * (-1)).toNat]? = xs.reverse[m]? := fun m hm => by
    have hm := List.mem_range.mp hm
    rw [List.getElem?_toArray, List.getElem?_reverse hm]
    congr 1
    omega
  rw [fm_congr e]
  have h2 := fm_all xs.reverse
  rw [List.length_reverse] at h2
  exact h2
theorem getItem_tuple_rev {t sl : Addr} {its : List Value} {vl vu vs : Value} {Q : Value → Shared → Prop} (ht : IsTup s.heap t its.toArray) (hs : s.heap.IsSliceOf sl vl vu vs) (pl : IsPart vl none) (pu : IsPart vu none) (ps : IsPart vs (some (-1)))
    (h : Q (.ref s.heap.objs.size) { s with heap := s.heap.push { cls := .type "tuple", data := .seq its.reverse.toArray } })
    (hsz : its.length ≤ sizeLine) : wpAny (model prog w) A (getItem (.ref t) (.ref sl)) Q E s := by
  have htake : sizeOk (.seq its.reverse.toArray) := by
    show its.reverse.toArray.size ≤ sizeLine
    rw [List.size_toArray, List.length_reverse]
    exact hsz
  obtain ⟨os, hos, hcs, hds⟩ := id hs
  have hTs : s.TypeIs (.ref sl) "slice" := ⟨os, hos, hcs⟩
  unfold getItem
  try with_reducible refine wpAny_holding ?_
  first | refine wpAny_bind (wpAny_pure ?_) | skip
  refine wpAny_bind (wpAny_sequenceKey ht.typeIs (by decide) ?_)
  refine wpAny_bind (wpAny_callSpecial?_slot (name := Str.ofString "__getitem__") ht.typeIs PyProof.Rows.slot_tuple_getitem
    (wpAny_call_entry PyProof.Rows.slot_tuple_getitem ht.typeIs entry_tuple_getitem ?_ (args_tuple_getitem _ _)))
  show wpAny _ _ (Builtin.Tuple.tupleItemsOf (.ref t) >>= _) _ _ s
  refine wpAny_bind (tupleItemsOf_ ht ?_)
  refine wpAny_bind (wpAny_typeOf hTs ?_)
  rw [if_pos (by decide)]
  have hn : its.toArray.size = its.length := List.size_toArray ..
  rw [hn]
  refine wpAny_bind (sliceApplied_rev hs pl pu ps ?_)
  have hno : ¬ ((((its.length : Int) - 1) == 0 && (-1 : Int) == 1 && its.length == its.length) = true) := by
    intro q
    rw [Bool.and_eq_true, Bool.and_eq_true] at q
    exact absurd (eq_of_beq q.1.2) (by decide)
  show wpAny _ _ (if (((its.length : Int) - 1) == 0 && (-1 : Int) == 1 && its.length == its.length) = true then _ else _) _ _ s
  rw [if_neg hno, pick_rev]
  first
    | exact wpAny_bind (m := Builtin.Tuple.tupleExact _) (wpAny_newObj_type (wpAny_pure ⟨_, rfl, wpAny_pure h⟩) htake)
    | exact wpAny_bind (m := Builtin.Tuple.tupleExact _) (wpAny_newObj_type (wpAny_bind (wpAny_pure (wpAny_pure ⟨_, rfl, wpAny_pure h⟩))) htake)
    | exact wpAny_bind (wpAny_bind (m := Builtin.Tuple.tupleExact _) (wpAny_newObj_type (wpAny_pure (wpAny_pure ⟨_, rfl, wpAny_pure h⟩)) htake))
    | exact wpAny_bind (wpAny_bind (m := Builtin.Tuple.tupleExact _) (wpAny_newObj_type (wpAny_pure ⟨_, rfl, wpAny_pure h⟩) htake))
end
/-- x[::-1] of a list or a tuple -/
def tRevA (K : PySem.W.Frag) (te : TE) : TE := fun σ H Q => te σ H fun x H1 => ∃ a xs, x = .ref a ∧ ((SqL K H1 a xs ∧ ∀ p, H1 p = none → Q (.ref p) (upd H1 p (.lst xs.reverse))) ∨ (SqT K H1 a xs ∧ ∀ p, H1 p = none → Q (.ref p) (upd H1 p (.tup xs.reverse))))
theorem pe_revA {X : Cx} {e : Expr} {te : TE} {k : Nat} {p1 p2 p3 pos : Pos} (he : PE X e te) : PE X (.Subscript e (.Slice none none (some (.UnaryOp .USub (.Constant (.int 1) k p1) p2)) p3) pos) (tRevA X.K te) := by
  refine ⟨fun pins s σ H Q I h => ?_⟩
  refine Subscript_ (thn (he.run pins s σ H _ I h) fun v s1 ⟨x, H1, I1, r1, q1⟩ => ?_)
  obtain ⟨a, xs, ex, hx⟩ := q1
  subst ex
  cases r1
  have hst : PO X (some (.UnaryOp .USub (.Constant (.int 1) k p1) p2)) (tPart (tUn (rU fun i => .int (-i)) (tC (.int 1)))) := po_some (pe_un un_neg pe_int)
  refine wpAny_Slice (thn (po_none.run pins s1 σ H1 (fun o H2 => o = none ∧ H2 = H1) I1 ⟨rfl, rfl⟩) fun vl s2 ⟨l, H2, I2, pl, el, e2⟩ => ?_)
  subst el e2
  refine thn (po_none.run pins s2 σ H2 (fun o H3 => o = none ∧ H3 = H2) I2 ⟨rfl, rfl⟩) fun vu s3 ⟨u, H3, I3, pu, eu, e3⟩ => ?_
  subst eu e3
  refine thn (hst.run pins s3 σ H3 (fun o H4 => o = some (-1) ∧ H4 = H3) I3 ⟨1, rfl, -1, rfl, rfl, rfl⟩) fun vs s4 ⟨o, H4, I4, ps, eo, e4⟩ => ?_
  subst eo e4
  have I5 : Inv X pins σ H4 { s4 with heap := s4.heap.push { cls := .type "slice", data := .fields #[vl, vu, vs] } } := I4.kept (t' := s4.toks) fun b ob q => Heap.get?_push_of_some _ q
  show wpAny (model X.prog X.w) X.A (subscriptTail e (.Slice none none (some (.UnaryOp .USub (.Constant (.int 1) k p1) p2)) p3) (.ref a) (.ref s4.heap.objs.size)) (EP X pins σ Q) X.xe { s4 with heap := s4.heap.push { cls := .type "slice", data := .fields #[vl, vu, vs] } }
  rcases hx with ⟨hx, q⟩ | ⟨hx, q⟩
  · obtain ⟨its, r, ht, hz⟩ := I5.list hx
    have hlen := r.length
    refine tail_any (ops := [.ref a, .ref s4.heap.objs.size]) ht.isList.typeIs (PySem.slot_list_getitem.lookup) ?_ (by with_unfolding_all rfl)
    refine wpAny_getItem_list_slice ht.isList (Heap.IsSliceOf.new _ vl vu vs) pl pu ps (by decide) ?_ (by rw [List.size_toArray]; omega)
    rw [PySem.W.krv_pick]
    refine ⟨.ref _, _, I5.laid (t' := s4.toks) (o := .lst xs.reverse) (fun b ob q => Heap.get?_push_of_some _ q) (Nat.le_refl _) ?_, rfl, q _ (I5.hok.fresh (Nat.le_refl _))⟩
    exact ⟨by rw [List.length_reverse]; exact hz, _, 0, r.reverse, Heap.get?_push_size _ rfl⟩
  · obtain ⟨its, r, ht, hz⟩ := I5.tuple hx
    have hlen := r.length
    refine tail_any (ops := [.ref a, .ref s4.heap.objs.size]) ht.typeIs (PyProof.Rows.slot_tuple_getitem.lookup) ?_ (by with_unfolding_all rfl)
    refine getItem_tuple_rev ht (Heap.IsSliceOf.new _ vl vu vs) pl pu ps ?_ (by omega)
    refine ⟨.ref _, _, I5.laid (t' := s4.toks) (o := .tup xs.reverse) (fun b ob q => Heap.get?_push_of_some _ q) (Nat.le_refl _) ?_, rfl, q _ (I5.hok.fresh (Nat.le_refl _))⟩
    exact ⟨by rw [List.length_reverse]; exact hz, _, r.reverse, IsTup.new _ _⟩
end RT
namespace Ev
open PySem PySem.Spec PyProof.Rows L2
def dRev : List D → Option R
  | [.lst ds] => some (.fr (.lst ds.reverse))
  | [.tup ds] => some (.fz (.tup ds.reverse))
  | [.ktup ds] => some (.fz (.tup ds.reverse))
  | _ => none
def dTail : List D → Option R
  | [.lst ds] => some (.fr (.lst ds.tail))
  | [.tup ds] => some (.fz (.tup ds.tail))
  | [.ktup (d :: ds)] => some (.fz (.tup ds))
  | _ => none
section
variable {K : PySem.W.Frag} {fa : Nat → Addr}
theorem ok_rev : OpOk K fa dRev (fun vs H Q => ∃ x, vs = [x] ∧ ∃ a xs, x = .ref a ∧ ((SqL K H a xs ∧ ∀ p, H p = none → Q (.ref p) (upd H p (.lst xs.reverse))) ∨ (SqT K H a xs ∧ ∀ p, H p = none → Q (.ref p) (upd H p (.tup xs.reverse))))) := by
  intro A ga H vs ds res Q hA hp hf hQ
  unfold dRev at hf
  split at hf
  · cases hf
    cases hp with | cons h hp =>
      cases hp
      cases h with
      | lst q r => exact ⟨_, rfl, _, _, rfl, .inl ⟨.inl (.inl q), fun p np => hQ _ _ (.list hA np r.reverse)⟩⟩
  · cases hf
    cases hp with | cons h hp =>
      cases hp
      cases h with
      | tup n q r => exact ⟨_, rfl, _, _, rfl, .inr ⟨.inl (.inl q), fun p np => hQ _ _ (.tuple hA np r.reverse)⟩⟩
  · cases hf
    cases hp with | cons h hp =>
      cases hp
      cases h with
      | ktup n q _ r => exact ⟨_, rfl, _, _, rfl, .inr ⟨.inl (.inr ⟨_, q⟩), fun p np => hQ _ _ (.tuple hA np r.reverse)⟩⟩
  · cases hf
theorem cut1 (xs : List V) : cutV xs (some 1) none = xs.tail := by
  unfold cutV
  have e1 : HT.sIx xs.length 0 (some 1) = min 1 xs.length := HT.sIx_nat xs.length 0 1
  rw [e1, HT.sIx_none]
  cases xs with
  | nil => rfl
  | cons x t =>
    simp only [List.length_cons, List.tail_cons]
    rw [show min 1 (t.length + 1) = 1 by omega]
    simp
theorem ok_tail : OpOk K fa dTail (fun vs H Q => ∃ x, vs = [x] ∧ (rSlL K x (some 1) none H Q ∨ rSlA K x (some 1) none H Q)) := by
  intro A ga H vs ds res Q hA hp hf hQ
  have tl : ∀ {us : List V} {es : List D}, RepL K fa A ga H us es → RepL K fa A ga H us.tail es.tail := fun r => by
    cases r with
    | nil => exact .nil
    | cons _ r => exact r
  unfold dTail at hf
  split at hf
  · cases hf
    cases hp with | cons h hp =>
      cases hp
      cases h with
      | lst q r => exact ⟨_, rfl, .inl ⟨_, _, rfl, .inl (.inl q), fun p np => by rw [cut1]; exact hQ _ _ (.list hA np (tl r))⟩⟩
  · cases hf
    cases hp with | cons h hp =>
      cases hp
      cases h with
      | @tup a xs _ n q r =>
        refine ⟨_, rfl, .inr ⟨_, _, rfl, .inl (.inl q), fun ⟨h1, h2⟩ => ?_, fun _ p np => by rw [cut1]; exact hQ _ _ (.tuple hA np (tl r))⟩⟩
        have e1 : HT.sIx xs.length 0 (some 1) = min 1 xs.length := HT.sIx_nat xs.length 0 1
        have : xs.length = 0 := by rw [e1] at h1; omega
        have e : xs = [] := List.length_eq_zero_iff.mp this
        subst e
        cases r
        exact hQ _ _ (.same (.tup n q .nil))
  · cases hf
    cases hp with | cons h hp =>
      cases hp
      cases h with
      | @ktup a _ xs _ n q _ r =>
        refine ⟨_, rfl, .inr ⟨_, _, rfl, .inl (.inr ⟨_, q⟩), fun ⟨h1, h2⟩ => ?_, fun _ p np => by rw [cut1]; exact hQ _ _ (.tuple hA np (tl r))⟩⟩
        have e1 : HT.sIx xs.length 0 (some 1) = min 1 xs.length := HT.sIx_nat xs.length 0 1
        have l := r.length
        rw [List.length_cons] at l
        rw [e1] at h1
        omega
  · cases hf
end
section
variable {X : Cx} {fa ca : Nat → Addr} {E : XK} {m ma mb mc : Ev R} {ms : Ev (List R)} {o e f x y : Expr} {es : List Expr} {pos p : Pos}
theorem xRev {k : Nat} {p1 p2 p3 pos : Pos} (he : PE X e (rdE X.K fa ca E m)) : PE X (.Subscript e (.Slice none none (some (.UnaryOp .USub (.Constant (.int 1) k p1) p2)) p3) pos) (rdE X.K fa ca E (eOp1 dRev m)) := PE_imp (RT.pe_revA he) fun σ H Q h => by
  obtain ⟨av, ga, s, rel, h⟩ := h
  refine ⟨av, ga, s, rel, aft_mono (aft_bd h) (fun r1 s1 h1 fs v ga1 H1 p1 => ?_) fun _ _ z => z⟩
  split at h1
  · exact h1.elim
  · rename_i ds e
    obtain ⟨res, hf, h2⟩ := aft_lif h1
    obtain ⟨_, e1, q⟩ := p1.op ok_rev e hf h2
    cases e1
    exact q
theorem xTail {k : Nat} {p1 p2 pos : Pos} (he : PE X e (rdE X.K fa ca E m)) : PE X (.Subscript e (.Slice (some (.Constant (.int 1) k p1)) none none p2) pos) (rdE X.K fa ca E (eOp1 dTail m)) := PE_imp (pe_slice (sl_list.or sl_tupA) he (po_some pe_int) po_none) fun σ H Q h => by
  obtain ⟨av, ga, s, rel, h⟩ := h
  refine ⟨av, ga, s, rel, aft_mono (aft_bd h) (fun r1 s1 h1 fs v ga1 H1 p1 => ?_) fun _ _ z => z⟩
  split at h1
  · exact h1.elim
  · rename_i ds e
    obtain ⟨res, hf, h2⟩ := aft_lif h1
    obtain ⟨_, e1, q⟩ := p1.op ok_tail e hf h2
    cases e1
    exact ⟨1, rfl, q⟩
end
end Ev
end
section
set_option Elab.async false
set_option linter.all false
set_option maxRecDepth 100000
set_option maxHeartbeats 4000000
/-! Ev17: set(list of ints), sorted of sets and dicts of any length (the roads of the library's rules for tuples and for fewer than 64, turned). -/
namespace L2
open PySem PySem.Spec PyProof.Rows
section
variable {P : Program} {w : World} {A : Around} {E : Value → Shared → Prop} {s : Shared} {a : Addr}
set_option maxRecDepth 100000 in
set_option maxHeartbeats 3200000 in
theorem call_set_lstI {l : Addr} {items : Array Value} (ns : List Int) {Q : Value → Shared → Prop} (hh : A.handled = none) (hl : s.heap.IsList l items) (hit : IntsAre items.toList ns) (hb : ns.length + 1 < scanBound)
    (h : ∀ (h' : Heap) (tk c : Nat), SetR w h' s.heap.objs.size (fun j => decide (j ∈ ns)) c → c ≤ ns.length → (∀ b o, s.heap.get? b = some o → h'.get? b = some o) → Q (.ref s.heap.objs.size) { s with heap := h', toks := tk }) :
    wpAny (model P w) A (call (.type "set") [.ref l]) Q E s := by
  have hisz : items.size = ns.length := by
    have q := IntsAre.length hit
    rw [Array.length_toList] at q
    exact q
  obtain ⟨c, tl, hmro⟩ := F.called_set.mro
  have hmade := F.called_set.made
  have hsub := F.called_set.sub
  refine wpAny_call (codeAny_of_tree ?_)
  show wpAny _ _ (callAny (.type "set") _) _ _ _
  refine wpAny_pure ⟨Code.quiet_builtin _ (by decide +kernel), codeAny_builtin F.entry_type_call ?_⟩
  rw [Around.under_plain (weight_type_call_type "set" [.ref l] []) rfl]
  have h1 := F.called_set.notType
  have h2 := F.called_set.canCreate
  have hct := F.typeCall_set_1 (.ref l)
  repeat (any_goals (first | assumption | wp_step))

  refine codeAny_mono (code_set_led1 (.ref l) (E := E) (Q₁ := fun obj s₁ => obj = .ref s.heap.objs.size ∧ s₁ = { s with heap := s.heap.push { cls := .type "set", dict := none, data := .set #[] 0 (.fresh 0 0 (!w.params.followText "set-order")) } }) ⟨rfl, rfl⟩) fun r s₁ hr => ?_
  cases r with
  | error e => exact hr
  | ok fl =>
    cases fl with
    | ret obj =>
      obtain ⟨rfl, rfl⟩ := hr
      have hS : (s.heap.push { cls := .type "set", dict := none, data := .set #[] 0 (.fresh 0 0 (!w.params.followText "set-order")) }).get? s.heap.objs.size = some { cls := .type "set", dict := none, data := .set #[] 0 (.fresh 0 0 (!w.params.followText "set-order")) } := Heap.get?_push_size _ rfl
      have hT : Shared.TypeIs { s with heap := s.heap.push { cls := .type "set", dict := none, data := .set #[] 0 (.fresh 0 0 (!w.params.followText "set-order")) } } (.ref s.heap.objs.size) "set" := ⟨_, hS, rfl⟩
      have hli := F.called_set.init.lookup
      have hbi := F.called_set.init.bind (.ref s.heap.objs.size)
      repeat (any_goals (first | assumption | wp_step))

      refine codeAny_mono (codeAny_call_builtin (R := wants (fun r s₂ => r = .none ∧ ∃ h' tk c, s₂ = { s with heap := h', toks := tk } ∧ SetR w h' s.heap.objs.size (fun j => decide (j ∈ ns)) c ∧ c ≤ ns.length ∧
          (∀ b o, s.heap.get? b = some o → h'.get? b = some o)) E) F.called_set.init.plain F.entry_set_init (check_set_init_1 hT ?_)) fun r₂ s₂ hr₂ => ?_
      · obtain ⟨ol, hol, hcl, nl, hdl⟩ := hl
        obtain ⟨ocls, odict, odata, oslots⟩ := ol
        simp only at hcl hdl
        subst hcl; subst hdl
        have hol' : (s.heap.push { cls := .type "set", dict := none, data := .set #[] 0 (.fresh 0 0 (!w.params.followText "set-order")) }).get? l = some { cls := .type "list", dict := odict, data := .seq items nl, slots := oslots } := Heap.get?_push_of_some _ hol
        have hsls := F.sub_list_set
        have hslf := F.sub_list_frozenset
        have hne : (Value.type "list" == Value.type "dict") = false := by decide
        have hl1 : (s.heap.push { cls := .type "set", dict := none, data := .set #[] 0 (.fresh 0 0 (!w.params.followText "set-order")) }).IsList l items := ⟨_, hol', rfl, nl, rfl⟩
        unfold Builtin.«set.__init__» noKeywords Builtin.Frozenset.updateFrom
        generalize hPI : pyIter = PI
        wp_walk
        subst hPI

        refine wpAny_pyIter_list hl1 ?_
        refine wpAny_bind (wpAny_runValue ?_)
        have hlS : l < s.heap.objs.size := Heap.lt_size hol
        have hh3 : A.in1.in1.in1.handled = none := by simp [hh]
        have hz1 : (s.heap.push { cls := .type "set", dict := none, data := .set #[] 0 (.fresh 0 0 (!w.params.followText "set-order")) }).objs.size = s.heap.objs.size + 1 := Heap.size_push ..
        have hneI : l ≠ (s.heap.push { cls := .type "set", dict := none, data := .set #[] 0 (.fresh 0 0 (!w.params.followText "set-order")) }).objs.size := by
          rw [Heap.size_push]; exact Nat.ne_of_lt (Nat.lt_succ_of_lt hlS)
        have hSf : s.heap.objs.size ∉ [(s.heap.push { cls := .type "set", dict := none, data := .set #[] 0 (.fresh 0 0 (!w.params.followText "set-order")) }).objs.size, l] := by
          rw [Heap.size_push]; simp only [List.mem_cons, List.mem_singleton, List.not_mem_nil, or_false, not_or]
          exact ⟨Nat.ne_of_lt (Nat.lt_succ_self _), Nat.ne_of_gt hlS⟩
        have hval : ∀ (i : Nat) (v : Value), items[i]? = some v → ∃ k t, ns[i]? = some k ∧ v = .int k t := fun i v hv => by
          have hi : i < ns.length := by rw [← hisz]; exact (Array.getElem?_eq_some_iff.mp hv).1
          obtain ⟨t, e⟩ := PyProof.Rows.IntsAre.int_at hit i v (by rw [Array.getElem?_toList]; exact hv)
          refine ⟨ns[i], t, List.getElem?_eq_getElem hi, ?_⟩
          rw [e, List.getD_eq_getElem?_getD, List.getElem?_eq_getElem hi] <;> rfl
        refine set_update_ints ((Walks.list hh3 _ l hneI items).toS) s.heap.objs.size
          hSf ns hisz hb hval (items.size - 0) 0 _ (by omega) (Nat.zero_le _)
          ⟨⟨_, Heap.get?_push_size _ rfl, rfl, rfl⟩, (hl1.push _)⟩ ?hS0 ?hR
        case hS0 =>
          have hget : ((s.heap.push { cls := .type "set", dict := none, data := .set #[] 0 (.fresh 0 0 (!w.params.followText "set-order")) }).push { cls := .type "list_iterator", data := .fields #[.ref l, .int 0 0] }).get? s.heap.objs.size
              = some { cls := .type "set", dict := none, data := .set #[] 0 (.fresh 0 0 (!w.params.followText "set-order")) } := Heap.get?_push_of_some _ hS
          exact ⟨0, Nat.le_refl 0, setR_new_at hget⟩
        case hR =>
          intro s' c' hm hc' hS'
          obtain ⟨h', g2, d', tk', os'⟩ := s'
          have eg : g2 = s.gens := hm.gens
          have ed : d' = s.drawn := hm.drawn
          have eo : os' = s.os := hm.os
          subst eg; subst ed; subst eo
          show wpAny _ _ _ _ _ _
          refine wpAny_pure ?_
          show wpAny _ _ (ret Value.none) _ _ _
          rw [hisz] at hc'
          refine wpAny_pure ⟨rfl, h', tk', c', rfl, hS', hc', fun b o e => ?_⟩
          have hb0 : b < s.heap.objs.size := Heap.lt_size e
          have hb1 : b ≠ s.heap.objs.size := Nat.ne_of_lt hb0
          have hb2 : b ≠ (s.heap.push { cls := .type "set", dict := none, data := .set #[] 0 (.fresh 0 0 (!w.params.followText "set-order")) }).objs.size := by
            rw [Heap.size_push]; exact Nat.ne_of_lt (Nat.lt_succ_of_lt hb0)
          exact hm.heap b o (by simp only [List.mem_cons, List.mem_singleton, List.not_mem_nil, or_false, not_or]; exact ⟨hb1, hb2⟩) (Heap.get?_push_of_some _ (Heap.get?_push_of_some _ e))

      · cases r₂ with
        | error e => exact hr₂
        | ok fl₂ =>
          cases fl₂ with
          | ret r =>
            obtain ⟨rfl, h', tk, c', rfl, hS', hc', hk'⟩ := hr₂
            repeat (any_goals (first | assumption | wp_step))
            exact h _ _ _ hS' hc' hk'
          | _ => exact hr₂.elim
    | _ => exact hr.elim

theorem sorted_setA {S : Int → Bool} {n : Nat} {Q : Value → Shared → Prop} (R : SetR w s.heap a S n) (hh : A.handled = none) (h64 : n ≤ sizeLine)
    (hQ : ∀ s' p (out : Array Value) (c : Nat) (ns : List Int), (∀ b o, s.heap.get? b = some o → s'.heap.get? b = some o) → s'.gens = s.gens → s'.os = s.os → s.heap.objs.size ≤ p →
      s'.heap.get? p = some (seqObj "list" out c) → IntsAre out.toList ns → ns.Pairwise (· < ·) → (∀ k, k ∈ ns ↔ S k = true) → ns.length = n → Q (.ref p) s') :
    wpAny (model P w) A (call (.builtin "sorted") [.ref a]) Q E s := by
  obtain ⟨o, es, ep, t, ho, hex, hd, g, nd, hm, hb, hf, hn, hr, hl⟩ := R
  refine Calls.call_function_entry kind_sorted plain_sorted entry_sorted (args_sorted1 _) ?_
  unfold Builtin.«sorted»
  refine wpAny_bind (m := checkCount "sorted" 1 1 _) (wpAny_pure ?_)
  refine wpAny_bind (collect_set (A := A.in1) hh ⟨o, ho, hex.1, hd⟩ hf hb hr hl fun s1 vs k1 hz g1 o1 pm => ?_)
  have hvl : vs.length = n := by rw [pm.length_eq, List.length_map, Array.length_toList]; exact hn
  have hI : IntsAre vs (vs.map Builtin.Re.reRawOf) := ints_of vs fun v hv => by
    obtain ⟨e, he, q⟩ := List.mem_map.mp (pm.mem_iff.mp hv)
    obtain ⟨k, tk, h1, _⟩ := g e he
    exact ⟨k, tk, by rw [← q]; exact h1⟩
  have pk : (vs.map Builtin.Re.reRawOf).Perm (es.toList.map keyOf) := by
    have q := pm.map Builtin.Re.reRawOf
    rw [List.map_map] at q
    exact q
  refine wpAny_bind (wpAny_newList ?_ (by rw [hvl]; exact h64))
  have hoL : (s1.heap.push (seqObj "list" vs.toArray 0)).get? s1.heap.objs.size = some (seqObj "list" vs.toArray 0) := Heap.get?_push_size _ rfl
  refine wpAny_bind (wpAny_holding (wpAny_call_entry slot_list_sort ⟨_, hoL, rfl⟩ entry_list_sort (SrtO.list_sort_ord SrtO.swo_int hoL (by rw [hvl]; exact h64) (fun h2 => SrtO.ints_sortable hI h2) fun out g2 g3 => ⟨_, rfl, ?_⟩) (args_list_sort _)))
  obtain ⟨a1, a2, a3⟩ := SrtO.ints_out hI g2 g3
  obtain ⟨c, hc⟩ := sortedHeap_at (vs := vs) (out := out.toArray) hoL
  have pn : (out.map SrtO.iv).Perm (es.toList.map keyOf) := a2.trans pk
  refine wpAny_pure ⟨_, rfl, hQ _ s1.heap.objs.size out.toArray c (out.map SrtO.iv) (fun b u e => ?_) g1 o1 hz hc a1 (lt_of_le_nodup _ a3 (pn.nodup_iff.mpr nd)) (fun k => by rw [pn.mem_iff, ← hm k]) ?_⟩
  · have q := k1 b u e
    have hlt := Heap.lt_size q
    show (sortedHeap (s1.heap.push (seqObj "list" vs.toArray 0)) s1.heap.objs.size vs out.toArray).get? b = some u
    rw [sortedHeap_old (Nat.ne_of_lt hlt) (by rw [size_push']; exact Nat.lt_succ_of_lt hlt)]
    exact Heap.get?_push_of_some _ q
  · rw [pn.length_eq, List.length_map, Array.length_toList]; exact hn
end
end L2
end
section
set_option Elab.async false
set_option linter.all false
set_option maxRecDepth 100000
set_option maxHeartbeats 4000000
/-! Ev18: sorted(..) of lists, dicts, set(..); len(set(..)). -/
namespace L2
open PySem PySem.Spec PyProof.Rows
section
variable {X : Cx}
theorem call_sortedDA (hcalm : X.calm = true) : CallR X (.builtin "sorted") (fun xs H Q => ∃ (a : Addr) (kvs : List (Key × V)) (ks : List Int), xs = [.ref a] ∧ Rd H a (.dK kvs) ∧ kvs.map (·.1) = ks.map Sum.inl ∧
    ∀ (ys : List Int) (p : Addr), ys.Perm ks → ys.Pairwise (· ≤ ·) → H p = none → Q (.ref p) (upd H p (.lst (ys.map V.int)))) := by
  intro pins s σ H xs us Q I r q
  obtain ⟨a, kvs, ks, ex, hd, hks, q⟩ := q
  subst ex
  obtain ⟨u, eu, rx⟩ := vals1 r
  subst eu
  cases rx
  obtain ⟨z, lo, vs, rel, dd⟩ := dk_rd I.hok hd
  obtain ⟨ep, hat⟩ := dd.dictAt
  have hkeys : vs.map (·.1) = ks.map Sum.inl := rel.keys.symm.trans hks
  have hl : vs.length = ks.length := by
    have e := congrArg List.length hkeys
    rw [List.length_map, List.length_map] at e
    exact e
  have h16 : vs.length ≤ sizeLine := by rw [← Paired.length rel]; exact z
  refine Calls.call_function_entry PyProof.Rows.kind_sorted PyProof.Rows.plain_sorted PyProof.Rows.entry_sorted (PyProof.Rows.args_sorted1 _) ?_
  unfold Builtin.«sorted»
  refine wpAny_bind (m := checkCount "sorted" 1 1 _) (wpAny_pure ?_)
  refine wpAny_bind (PySem.W.kdu_collect (A := X.A.in1) (PySem.W.kdl_dict (knd := mixKind X.prog X.w) (kvs := vs) (ep := ep) lo) (I.ok.hd hcalm) hat h16 fun h' tk acc hk hacc => ?_)
  have hal : acc.toList.length = ks.length := by rw [Array.length_toList, hacc.1, hl]
  have hS : IntsAre acc.toList ks := ints_each hal fun j v e => by
    obtain ⟨k, x, e1, e2⟩ := hacc.2 j v (by rw [← Array.getElem?_toList]; exact e)
    have e3 : (vs.map (·.1))[j]? = some k := by rw [List.getElem?_map, e1]; rfl
    rw [hkeys, List.getElem?_map] at e3
    cases e4 : ks[j]? with
    | none => rw [e4] at e3; cases e3
    | some y =>
      rw [e4] at e3
      have e5 : Sum.inl y = k := Option.some.inj e3
      subst e5
      rcases keyIs_shape (show keyIs (Sum.inl y) v = true from e2) with ⟨i, t, ek, ev⟩ | ⟨z, t, ek, ev⟩
      · cases ek
        exact ⟨y, t, rfl, ev⟩
      · cases ek
  have I1 : Inv X pins σ H { s with heap := h', toks := tk } := I.kept hk
  refine wpAny_bind (wpAny_newList ?_ (by rw [hal, ← hl]; exact h16))
  have hoL : (h'.push (seqObj "list" acc.toList.toArray 0)).get? h'.objs.size = some (seqObj "list" acc.toList.toArray 0) := Heap.get?_push_size _ rfl
  show wpAny _ _ _ _ _ { s with heap := h'.push (seqObj "list" acc.toList.toArray 0), toks := tk }
  refine wpAny_bind (wpAny_holding (wpAny_call_entry PyProof.Rows.slot_list_sort ⟨_, hoL, rfl⟩ PyProof.Rows.entry_list_sort
    (SrtO.list_sort_ord (s := { s with heap := h'.push (seqObj "list" acc.toList.toArray 0), toks := tk }) SrtO.swo_int hoL (by rw [hal, ← hl]; exact h16) (fun h2 => SrtO.ints_sortable hS h2) fun out s1 s2 => ⟨_, rfl, ?_⟩) (PyProof.Rows.args_list_sort _)))
  obtain ⟨g1, g2, g3⟩ := SrtO.ints_out hS s1 s2
  generalize out.map SrtO.iv = ys at g1 g2 g3
  obtain ⟨e', he'⟩ := PyProof.Rows.sortedHeap_at (vs := acc.toList) (out := out.toArray) hoL
  have hlen : (ys.map V.int).length ≤ sizeLine := by
    rw [List.length_map, g2.length_eq, ← hl]
    exact h16
  refine wpAny_pure ⟨_, rfl, .ref h'.objs.size, upd H h'.objs.size (.lst (ys.map V.int)), I1.laid (t' := tk) (fun b u e => ?_) (Nat.le_refl _)
    (show ObjOk X.prog X.w _ _ _ (.lst (ys.map V.int)) from ⟨hlen, out, e', vals_of_ints g1, he'⟩), rfl, q ys _ g2 g3 (I1.hok.fresh (Nat.le_refl _))⟩
  have hb : b < h'.objs.size := Heap.lt_size e
  rw [PyProof.Rows.sortedHeap_old (Nat.ne_of_lt hb) (by rw [size_push']; exact Nat.lt_succ_of_lt hb)]
  exact Heap.get?_push_of_some _ e

/-- set(xs) of a list of ints -/
def rSetLst (K : PySem.W.Frag) (w : World) : List V → Hp → VK → Prop := fun vs H Q => ∃ (a : Addr) (ns : List Int), vs = [V.ref a] ∧ SqL K H a (ns.map V.int) ∧ ns.length + 1 < scanBound ∧ ∀ (p : Addr) (c : Nat), H p = none → c ≤ ns.length → Q (.ref p) (upd H p (SetO w p (fun j => decide (j ∈ ns)) c))
theorem cr_setL (hc : X.calm = true) : CallR X (.type "set") (rSetLst X.K X.w) := by
  intro pins s σ H vs us Q I r h
  obtain ⟨a, ns, rfl, hs, hb, q⟩ := h
  obtain ⟨its, rv, hl, _⟩ := I.list hs
  rw [Vals.ref1 r]
  refine call_set_lstI ns (I.ok.hd hc) hl.isList (by simpa using rv.ints) hb fun h' tk c hS hle hk => ?_
  have hn : H s.heap.objs.size = none := I.hok.fresh (Nat.le_refl _)
  exact ⟨.ref _, _, I.laid (t' := tk) hk (Nat.le_refl _) (setO_new hS), rfl, q _ c hn hle⟩
def rSortedSetA (w : World) : List V → Hp → VK → Prop := fun vs H Q => ∃ (a : Addr) (S : Int → Bool) (n : Nat), vs = [V.ref a] ∧ H a = some (SetO w a S n) ∧ n ≤ sizeLine ∧
  ∀ (ns : List Int) (p : Addr), ns.Pairwise (· < ·) → (∀ k : Int, k ∈ ns ↔ S k = true) → ns.length = n → H p = none → Q (.ref p) (upd H p (.lst (ns.map V.int)))
theorem cr_sortedSetA (hc : X.calm = true) : CallR X (.builtin "sorted") (rSortedSetA X.w) := by
  intro pins s σ H vs us Q I r h
  obtain ⟨a, S, n, rfl, ha, hz, q⟩ := h
  have R := setO_get I ha
  rw [Vals.ref1 r]
  refine sorted_setA R (I.ok.hd hc) hz fun s' p out c ns k g o hp hg hi hs hm hl => ?_
  have hlen : (ns.map V.int).length ≤ sizeLine := by rw [List.length_map, hl]; exact hz
  have hn : H p = none := I.hok.fresh hp
  have J : Inv X pins σ (upd H p (.lst (ns.map V.int))) { s with heap := s'.heap, gens := s'.gens, drawn := s'.drawn, toks := s'.toks } :=
    I.call (ch := []) (Un.laid k hp hn) (I.hok.laid k hp ⟨hlen, out.toList, c, vals_of_ints hi, hg⟩) (by rw [g]; exact I.bare) (fun _ z => nomatch z)
  have e : s' = { s with heap := s'.heap, gens := s'.gens, drawn := s'.drawn, toks := s'.toks } := by
    cases s'
    cases s
    cases o
    rfl
  rw [e]
  exact ⟨.ref p, _, J, rfl, q ns p hs hm hl hn⟩
end
end L2
namespace Ev
open PySem PySem.Spec PyProof.Rows L2
def insU (x : Int) : List Int → List Int
  | [] => [x]
  | y :: r => if x < y then x :: y :: r else if x = y then y :: r else y :: insU x r
def sortU : List Int → List Int
  | [] => []
  | x :: r => insU x (sortU r)
theorem insU_mem (x k : Int) : ∀ l : List Int, k ∈ insU x l ↔ k = x ∨ k ∈ l
  | [] => by simp [insU]
  | y :: r => by
    unfold insU
    split
    · simp
    · split
      · rename_i e
        subst e
        constructor
        · intro h; exact .inr h
        · rintro (h | h)
          · rw [h]; exact List.mem_cons_self
          · exact h
      · rw [List.mem_cons, insU_mem x k r, List.mem_cons]
        constructor
        · rintro (h | h | h)
          · exact .inr (.inl h)
          · exact .inl h
          · exact .inr (.inr h)
        · rintro (h | h | h)
          · exact .inr (.inl h)
          · exact .inl h
          · exact .inr (.inr h)
theorem sortU_mem (k : Int) : ∀ l : List Int, k ∈ sortU l ↔ k ∈ l
  | [] => Iff.rfl
  | x :: r => by
    unfold sortU
    rw [insU_mem, sortU_mem k r, List.mem_cons]
theorem insU_lt (x : Int) : ∀ {l : List Int}, l.Pairwise (· < ·) → (insU x l).Pairwise (· < ·)
  | [], _ => List.pairwise_singleton _ _
  | y :: r, h => by
    unfold insU
    obtain ⟨h1, h2⟩ := List.pairwise_cons.mp h
    split
    · rename_i c
      refine List.pairwise_cons.mpr ⟨fun z hz => ?_, h⟩
      rcases List.mem_cons.mp hz with rfl | hz
      · exact c
      · exact Int.lt_trans c (h1 z hz)
    · split
      · exact h
      · rename_i c1 c2
        refine List.pairwise_cons.mpr ⟨fun z hz => ?_, insU_lt x h2⟩
        rcases (insU_mem x z r).mp hz with rfl | hz
        · omega
        · exact h1 z hz
theorem sortU_lt : ∀ l : List Int, (sortU l).Pairwise (· < ·)
  | [] => List.Pairwise.nil
  | x :: r => insU_lt x (sortU_lt r)
theorem lt_uniq : ∀ {a b : List Int}, (∀ k, k ∈ a ↔ k ∈ b) → a.Pairwise (· < ·) → b.Pairwise (· < ·) → a = b
  | [], [], _, _, _ => rfl
  | [], y :: b, h, _, _ => by have := (h y).mpr List.mem_cons_self; cases this
  | x :: a, [], h, _, _ => by have := (h x).mp List.mem_cons_self; cases this
  | x :: a, y :: b, h, h1, h2 => by
    obtain ⟨a1, a2⟩ := List.pairwise_cons.mp h1
    obtain ⟨b1, b2⟩ := List.pairwise_cons.mp h2
    have hx : x ≤ y := by
      rcases List.mem_cons.mp ((h y).mpr List.mem_cons_self) with e | e
      · omega
      · exact Int.le_of_lt (a1 y e)
    have hy : y ≤ x := by
      rcases List.mem_cons.mp ((h x).mp List.mem_cons_self) with e | e
      · omega
      · exact Int.le_of_lt (b1 x e)
    have e : x = y := Int.le_antisymm hx hy
    subst e
    refine congrArg (x :: ·) (lt_uniq (fun k => ?_) a2 b2)
    constructor
    · intro hk
      rcases List.mem_cons.mp ((h k).mp (List.mem_cons_of_mem _ hk)) with e | e
      · have := a1 k hk; omega
      · exact e
    · intro hk
      rcases List.mem_cons.mp ((h k).mpr (List.mem_cons_of_mem _ hk)) with e | e
      · have := b1 k hk; omega
      · exact e
/-- sorted(set(a list of ints)) -/
def dSortSet : List D → Option R
  | [.lst xs] => match asInts xs with
    | none => none
    | some ns => if ns.length < 4000 then some (.fr (.lst ((sortU ns).map D.int))) else none
  | _ => none
def dLenSet : List D → Option R
  | [.lst xs] => match asInts xs with
    | none => none
    | some ns => if ns.Nodup ∧ ns.length ≤ 4000 then some (.fz (.int (ns.length : Nat))) else none
  | _ => none
/-- keys that are numbers -/
def keyInts : List Key → Option (List Int)
  | [] => some []
  | .inl i :: r => match keyInts r with
    | none => none
    | some ns => some (i :: ns)
  | _ => none
theorem keyInts_ok : ∀ {ks : List Key} {ns : List Int}, keyInts ks = some ns → ks = ns.map Sum.inl
  | [], ns, h => by cases h; rfl
  | .inl i :: r, ns, h => by
    unfold keyInts at h
    split at h
    · cases h
    · rename_i ms e
      cases h
      rw [keyInts_ok e]; rfl
  | .inr _ :: _, _, h => nomatch h
/-- sorted(..) of a list of ints, of a dict with ints for keys -/
def dSortA : List D → Option R
  | [.dK ks _] => match keyInts ks with
    | none => none
    | some ns => some (.fr (.lst ((sortI ns).map D.int)))
  | ds => dSortI ds
def rSortDA : List V → Hp → VK → Prop := fun xs H Q => ∃ (a : Addr) (kvs : List (Key × V)) (ks : List Int), xs = [.ref a] ∧ Rd H a (.dK kvs) ∧ kvs.map (·.1) = ks.map Sum.inl ∧
    ∀ (ys : List Int) (p : Addr), ys.Perm ks → ys.Pairwise (· ≤ ·) → H p = none → Q (.ref p) (upd H p (.lst (ys.map V.int)))
theorem cr_sortA {X : Cx} (hc : X.calm = true) : CallR X (.builtin "sorted") (fun xs H Q => rSortDA xs H Q ∨ rSortedI X.K xs H Q) := (call_sortedDA hc).or cr_sortedI
section
variable {K : PySem.W.Frag} {fa : Nat → Addr}
theorem ok_sortA : OpOk K fa dSortA (fun xs H Q => rSortDA xs H Q ∨ rSortedI K xs H Q) := by
  intro A ga H vs ds res Q hA hp hf hQ
  unfold dSortA at hf
  split at hf
  · split at hf
    · cases hf
    · rename_i ns e
      cases hf
      cases hp with | cons h hp =>
        cases hp
        cases h with
        | @dK a kvs _ _ rd e0 r =>
          refine .inl ⟨a, kvs, ns, rfl, rd, by rw [e0]; exact keyInts_ok e, fun ys p h1 h2 hp => ?_⟩
          rw [sortI_ok h1 h2]
          exact hQ _ _ (.list hA hp (RepL.ints _))
  · exact .inr (ok_sortI A ga H vs ds res Q hA hp hf hQ)
end
section
variable {X : Cx} {fa ca : Nat → Addr} {E : XK} {m ma mb mc : Ev R} {ms : Ev (List R)} {o e f x y a : Expr} {es : List Expr} {pos p p2 q : Pos}
theorem xSortSet (hm : X.mg "sorted" = none) (hm2 : X.mg "set" = none) (ha : PE X a (rdE X.K fa ca E m)) (hg : Gl X "sorted" := by rfl) (hg2 : Gl X "set" := by rfl) (hc : X.calm = true := by rfl) (hst : notStar a = true := by rfl) :
    PE X (.Call (.Name "sorted" p) [.Call (.Name "set" p2) [a] [] q] [] pos) (rdE X.K fa ca E (eOp1 dSortSet m)) := by
  refine PE_imp (pe_callB (cr_sortedSetA hc) hg hm PyProof.Rows.boot_sorted (pa_cons (pe_callTy (cr_setL hc) hg2 hm2 PyProof.Rows.boot_set (pa_cons ha pa_nil (star_of hst)) (by decide) (by decide) (star_of hst) rfl) pa_nil rfl) (by decide) (by decide) rfl rfl) fun σ H Q h => ?_
  obtain ⟨av, ga, s, rel, h⟩ := h
  refine ⟨av, ga, s, rel, aft_mono (aft_bd h) (fun r1 s1 h1 fs v ga1 H1 p1 => ?_) fun _ _ z => z⟩
  split at h1
  · exact h1.elim
  · rename_i ds e
    obtain ⟨res, hf, h2⟩ := aft_lif h1
    obtain ⟨_, e1, q⟩ := p1.op (f := dSortSet) (r := fun vs H Q => ∃ x, vs = [x] ∧ rSetLst X.K X.w [x] H fun y H2 => rSortedSetA X.w [y] H2 Q) (fun A ga H vs ds res Q hA hp hf hQ => by
      unfold dSortSet at hf
      split at hf
      · split at hf
        · cases hf
        · rename_i xs ns e
          split at hf
          · rename_i hz
            cases hf
            cases hp with | cons h1 hp =>
              cases hp
              obtain ⟨a, us, rfl, e1, r1⟩ := h1.lst'
              rw [asInts_ok e] at r1
              rw [r1.toInts] at e1
              refine ⟨_, rfl, a, ns, rfl, .inl (.inl e1), by unfold scanBound; omega, fun p c np hc => ?_⟩
              refine ⟨p, _, c, rfl, upd_same, by rw [szL_eq]; show c ≤ 16777216; omega, fun ns' p' g1 g2 _ np' => ?_⟩
              have e3 : ns' = sortU ns := lt_uniq (fun k => by rw [g2 k, decide_eq_true_eq, sortU_mem]) g1 (sortU_lt ns)
              subst e3
              have npp : p' ≠ p := fun z => by rw [z, upd_same] at np'; cases np'
              have np2 : H p' = none := by rw [upd_ne npp] at np'; exact np'
              have ext : ∀ a o, H a = some o → upd (upd H p (SetO X.w p (fun j => decide (j ∈ ns)) c)) p' (.lst ((sortU ns).map V.int)) a = some o := fun a o h => by
                rw [upd_ne (ne_of_none h np2), upd_ne (ne_of_none h np)]; exact h
              exact hQ _ _ (.fr ext np2 ⟨_, upd_same, RepL.ints _⟩)
          · cases hf
      · cases hf) e hf h2
    cases e1
    exact q
theorem xLenSet (hm : X.mg "len" = none) (hm2 : X.mg "set" = none) (ha : PE X a (rdE X.K fa ca E m)) (hg : Gl X "len" := by rfl) (hg2 : Gl X "set" := by rfl) (hc : X.calm = true := by rfl) (hst : notStar a = true := by rfl) :
    PE X (.Call (.Name "len" p) [.Call (.Name "set" p2) [a] [] q] [] pos) (rdE X.K fa ca E (eOp1 dLenSet m)) := by
  refine PE_imp (RZ.pe_lenSetI hg hm hg2 hm2 ha hc (star_of hst)) fun σ H Q h => ?_
  obtain ⟨av, ga, s, rel, h⟩ := h
  refine ⟨av, ga, s, rel, aft_mono (aft_bd h) (fun r1 s1 h1 fs v ga1 H1 p1 => ?_) fun _ _ z => z⟩
  split at h1
  · exact h1.elim
  · rename_i ds e
    obtain ⟨res, hf, h2⟩ := aft_lif h1
    obtain ⟨_, e1, q⟩ := p1.op (f := dLenSet) (r := fun vs H Q => ∃ x, vs = [x] ∧ ∃ (l : Addr) (ns : List Int), x = .ref l ∧ SqL X.K H l (ns.map V.int) ∧ ns.Nodup ∧ ns.length ≤ 4000 ∧ Q (.int (ns.length : Nat)) H) (fun A ga H vs ds res Q hA hp hf hQ => by
      unfold dLenSet at hf
      split at hf
      · split at hf
        · cases hf
        · rename_i xs ns e
          split at hf
          · rename_i hz
            cases hf
            cases hp with | cons h1 hp =>
              cases hp
              obtain ⟨a, us, rfl, e1, r1⟩ := h1.lst'
              rw [asInts_ok e] at r1
              rw [r1.toInts] at e1
              exact ⟨_, rfl, a, ns, rfl, .inl (.inl e1), hz.1, hz.2, hQ _ _ (.same (.int _))⟩
          · cases hf
      · cases hf) e hf h2
    cases e1
    exact q
end
end Ev
end
section
set_option Elab.async false
set_option linter.all false
set_option maxRecDepth 100000
set_option maxHeartbeats 4000000
/-! Ev19: min and max of lists, tuples, dicts; min of lists of lists (the library's walk of min, with what stands in the heap told beside the items). -/
namespace PySem
open Sem (wp)
/-- items compared where KS holds of the heap -/
def CmpK (prog : Program) (w : World) (A : Around) (op : CmpOp) (KS : Heap → Prop) (P : Nat → Value → Prop) (bt : Nat → Nat → Bool) : Prop :=
  ∀ i j vi vj (s : Shared) (Q : Value → Shared → Prop) (E : Value → Shared → Prop), KS s.heap → P i vi → P j vj → Q (.bool (bt i j)) s → wpAny (model prog w) A (richCompare op vi vj) Q E s
section
variable {prog : Program} {w : World} {A : Around} {R : Result → Shared → Prop} {I : Addr} {fp wr : List Addr} {n : Nat} {P : Nat → Value → Prop} {St : Nat → Heap → Prop}
theorem min_loopH (W : Walks prog w A.in1 I fp wr n P St) (bt : Nat → Nat → Bool) (KS : Heap → Prop) (hcmp : CmpK prog w A.in1 .Lt KS P bt) (S : Addr) (hSf : S ∉ fp) (kst : ∀ h h', KS h → (∀ b o, b ∉ wr → b ≠ S → h.get? b = some o → h'.get? b = some o) → KS h') :
    ∀ (k j : Nat) (s : Shared) (vb : Value) (c : Nat), n - (j + 1) = k → j + 1 ≤ n → St (j + 1) s.heap → KS s.heap → P (argBest bt j) vb →
    s.heap.get? S = some { cls := .type "list", dict := none, data := .seq #[vb, vb] c, slots := #[] } →
    (∀ v h' tk, P (argBest bt (n - 1)) v → (∀ b o, b ∉ wr → b ≠ S → s.heap.get? b = some o → h'.get? b = some o) → R (.ok (.ret v)) { s with heap := h', toks := tk }) →
    codeAny (model prog w) A (.builtin "min.loop" ⟨[.ref I, .none, .ref S], []⟩) R s := by
  have hSw : S ∉ wr := fun h => hSf (W.sub _ h)
  have hname : (toString "min" ++ toString ".loop" : String) = "min.loop" := by decide
  intro k
  induction k with
  | zero =>
    intro j s vb c hk hj hst hKS hPb hS hR
    have hin : j + 1 = n := by omega
    refine codeAny_builtin F.entry_min_loop ?_
    rw [Around.under_plainId F.plain_min_loop _]
    show wpAny _ A.in1 (seqItems? (.ref S) >>= _) _ _ s
    refine wpAny_bind (wpAny_seqItems hS rfl ?_)
    show wpAny _ A.in1 (tryCatch (pyNext (.ref I)) _ >>= _) _ _ s
    refine wpAny_bind (wpAny_tryCatch (W.done s _ _ (hin ▸ hst) fun h' tk hk' => ?_))
    have hS' := hk' S _ hSw hS
    show wpAny _ A.in1 (updateSeq S (fun _ => #[]) >>= _) _ _ _
    refine wpAny_bind ?_
    refine wpAny_updateSeq hS' rfl (wpAny_bind (wpAny_letGo (wpAny_pure ?_)))
    refine hR vb _ tk (by rw [← hin]; exact hPb) fun b o hbw hbS e => (Heap.get?_update_other _ _ (Ne.symm hbS)).trans (hk' b o hbw e)
  | succ k ih =>
    intro j s vb c hk hj hst hKS hPb hS hR
    have hlt : j + 1 < n := by omega
    refine codeAny_builtin F.entry_min_loop ?_
    rw [Around.under_plainId F.plain_min_loop _]
    show wpAny _ A.in1 (seqItems? (.ref S) >>= _) _ _ s
    refine wpAny_bind (wpAny_seqItems hS rfl ?_)
    show wpAny _ A.in1 (tryCatch (pyNext (.ref I)) _ >>= _) _ _ s
    refine wpAny_bind (wpAny_tryCatch (W.item (j + 1) s _ _ hlt hst fun v h' tk hP hst' hk' => ?_))
    have hS' := hk' S _ hSw hS
    have hKS' : KS h' := kst _ _ hKS fun b o hb _ e => hk' b o hb e
    show wpAny _ A.in1 (tryCatch (holding [v, v] (richCompare .Lt v vb >>= _)) _ >>= _) _ _ _
    refine wpAny_bind (wpAny_tryCatch (wpAny_holding (wpAny_bind (hcmp (j + 1) (argBest bt j) v vb _ _ _ hKS' hP hPb ?_))))
    refine wpAny_bind (wpAny_holding (wpAny_truthy_bool ?_))
    refine wpAny_bind (wpAny_letGo (wpAny_pure ?_))
    cases hb : bt (j + 1) (argBest bt j) with
    | true =>
      simp only [if_true]
      refine wpAny_bind ?_
      refine wpAny_updateSeq hS' rfl (wpAny_bind (wpAny_letGo ?_))
      rw [hname]
      refine wpAny_pure ⟨plainId_quiet F.plain_min_loop _, ih (j + 1) _ v _ (by omega) hlt (W.frame _ _ _ hst' fun b hbf o e => ?_) (kst _ _ hKS' fun b o _ hb' e => (Heap.get?_update_other _ _ (Ne.symm hb')).trans e) (by simp only [argBest, hb, if_true]; exact hP) (Heap.get?_update_self _ hS' rfl)
        fun v' h'' tk'' hP' hk'' => ?_⟩
      · exact (Heap.get?_update_other _ _ (fun h : S = b => hSf (by rw [h]; exact hbf))).trans e
      · exact hR v' h'' tk'' hP' fun b o hbw hbS e => hk'' b o hbw hbS ((Heap.get?_update_other _ _ (Ne.symm hbS)).trans (hk' b o hbw e))
    | false =>
      simp only [Bool.false_eq_true, if_false]
      refine wpAny_bind (wpAny_letGo ?_)
      rw [hname]
      refine wpAny_pure ⟨plainId_quiet F.plain_min_loop _, ih (j + 1) _ vb c (by omega) hlt hst' hKS' (by simp only [argBest, hb, Bool.false_eq_true, if_false]; exact hPb) hS' fun v' h'' tk'' hP' hk'' => ?_⟩
      exact hR v' h'' tk'' hP' fun b o hbw hbS e => hk'' b o hbw hbS (hk' b o hbw e)

theorem min_loopH_first (W : Walks prog w A.in1 I fp wr n P St) (bt : Nat → Nat → Bool) (KS : Heap → Prop) (hcmp : CmpK prog w A.in1 .Lt KS P bt) (S : Addr) (hSf : S ∉ fp) (kst : ∀ h h', KS h → (∀ b o, b ∉ wr → b ≠ S → h.get? b = some o → h'.get? b = some o) → KS h') (hn : 0 < n) {s : Shared} {c : Nat} (hst : St 0 s.heap) (hKS : KS s.heap)
    (hS : s.heap.get? S = some { cls := .type "list", dict := none, data := .seq #[] c, slots := #[] })
    (hR : ∀ v h' tk, P (argBest bt (n - 1)) v → (∀ b o, b ∉ wr → b ≠ S → s.heap.get? b = some o → h'.get? b = some o) → R (.ok (.ret v)) { s with heap := h', toks := tk }) :
    codeAny (model prog w) A (.builtin "min.loop" ⟨[.ref I, .none, .ref S], []⟩) R s := by
  have hSw : S ∉ wr := fun h => hSf (W.sub _ h)
  have hname : (toString "min" ++ toString ".loop" : String) = "min.loop" := by decide
  refine codeAny_builtin F.entry_min_loop ?_
  rw [Around.under_plainId F.plain_min_loop _]
  show wpAny _ A.in1 (seqItems? (.ref S) >>= _) _ _ s
  refine wpAny_bind (wpAny_seqItems hS rfl ?_)
  show wpAny _ A.in1 (tryCatch (pyNext (.ref I)) _ >>= _) _ _ s
  refine wpAny_bind (wpAny_tryCatch (W.item 0 s _ _ hn hst fun v h' tk hP hst' hk' => ?_))
  have hS' := hk' S _ hSw hS
  show wpAny _ A.in1 (updateSeq S (fun _ => #[v, v]) >>= _) _ _ _
  refine wpAny_bind ?_
  refine wpAny_updateSeq hS' rfl ?_
  rw [hname]
  refine wpAny_pure ⟨plainId_quiet F.plain_min_loop _, min_loopH W bt KS hcmp S hSf kst _ 0 _ v _ rfl hn (W.frame _ _ _ hst' fun b hbf o e => ?_) (kst _ _ hKS fun b o hb hb' e => (Heap.get?_update_other _ _ (Ne.symm hb')).trans (hk' b o hb e)) hP (Heap.get?_update_self _ hS' rfl) fun v' h'' tk'' hP' hk'' => ?_⟩
  · exact (Heap.get?_update_other _ _ (fun h : S = b => hSf (by rw [h]; exact hbf))).trans e
  · exact hR v' h'' tk'' hP' fun b o hbw hbS e => hk'' b o hbw hbS ((Heap.get?_update_other _ _ (Ne.symm hbS)).trans (hk' b o hbw e))
end
section
variable {prog : Program} {w : World} {A : Around} {E : Value → Shared → Prop} {s : Shared}
theorem call_min_walkH {x : Value} {Q : Value → Shared → Prop}
    (h : wpAny (model prog w) A.in1 (pyIter x) (fun it s₂ => ∃ I fp wr n P St bt, it = .ref I ∧ Walks prog w A.in1 I fp wr n P St ∧ St 0 s₂.heap ∧ (∀ b ∈ fp, b < s₂.heap.objs.size) ∧ 0 < n ∧ (∃ KS : Heap → Prop, KS s₂.heap ∧ CmpK prog w A.in1 .Lt KS P bt ∧ ∀ S h h', S = s₂.heap.objs.size → KS h → (∀ b o, b ∉ wr → b ≠ S → h.get? b = some o → h'.get? b = some o) → KS h') ∧
      ∀ v h' tk, P (argBest bt (n - 1)) v → (∀ b o, b ∉ wr → s₂.heap.get? b = some o → h'.get? b = some o) → Q v { s₂ with heap := h', toks := tk }) E s) :
    wpAny (model prog w) A (call (.builtin "min") [x]) Q E s := by
  have hname : (toString "min" ++ toString ".loop" : String) = "min.loop" := by decide
  refine call_function_tree F.kind_min F.plain_min F.entry_min (F.args_min1 _) ?_
  show wpAny _ A.in1 (Builtin.Builtins.bindParams "min" ["key", "default"] 0 ⟨[], []⟩ >>= _) _ _ s
  refine wpAny_bind (wpAny_of_eq (show Builtin.Builtins.bindParams "min" ["key", "default"] 0 ⟨[], []⟩ = pure [none, none] from rfl) ?_)
  refine wpAny_bind (wpAny_pure ?_)
  refine wpAny_bind (wpAny_mono h (fun it s₂ h₂ => ?_) fun _ _ e => e)
  obtain ⟨I, fp, wr, n, P, St, bt, rfl, W, hst, hfp, hn, ⟨KS, hKS, hcmp, kst⟩, hQ⟩ := h₂
  refine wpAny_bind (wpAny_newObj_type ?_)
  have hSf : s₂.heap.objs.size ∉ fp := fun hm => Nat.lt_irrefl _ (hfp _ hm)
  rw [hname]
  refine wpAny_pure ⟨plainId_quiet F.plain_min_loop _, min_loopH_first W bt KS hcmp s₂.heap.objs.size hSf (fun h h' => kst _ h h' rfl) hn (W.frame _ _ _ hst fun b _ o e => Heap.get?_push_of_some _ e) (kst _ _ _ rfl hKS fun b o _ _ e => Heap.get?_push_of_some _ e) (Heap.get?_push_size _ rfl) fun v h' tk hP hk => ?_⟩
  exact hQ v h' tk hP fun b o hbw e => hk b o hbw (Nat.ne_of_lt (Heap.lt_size e)) (Heap.get?_push_of_some _ e)
end
end PySem
namespace Ev
open PySem PySem.Spec PyProof.Rows L2
end Ev
end
section
set_option Elab.async false
set_option linter.all false
set_option maxRecDepth 100000
set_option maxHeartbeats 4000000
/-! Ev20: rules of min and max. -/
namespace Ev
open PySem PySem.Spec PyProof.Rows L2

/-- the ints that a list, a tuple, a dict's keys hold -/
def IntsOf (K : PySem.W.Frag) (H : Hp) (a : Addr) (ns : List Int) : Prop := SqL K H a (ns.map V.int) ∨ SqT K H a (ns.map V.int) ∨ ∃ kvs : List (Key × V), Rd H a (.dK kvs) ∧ kvs.map (·.1) = ns.map Sum.inl
def rMinA (K : PySem.W.Frag) : List V → Hp → VK → Prop := fun vs H Q => ∃ (a : Addr) (ns : List Int), vs = [V.ref a] ∧ IntsOf K H a ns ∧ 0 < ns.length ∧ ∀ m, m ∈ ns → (∀ y, y ∈ ns → m ≤ y) → Q (.int m) H
def rMaxA (K : PySem.W.Frag) : List V → Hp → VK → Prop := fun vs H Q => ∃ (a : Addr) (ns : List Int), vs = [V.ref a] ∧ IntsOf K H a ns ∧ 0 < ns.length ∧ ∀ m, m ∈ ns → (∀ y, y ∈ ns → y ≤ m) → Q (.int m) H
theorem best_min {ns : List Int} (h : 0 < ns.length) : ns.getD (argBest (fun i j => decide (ns.getD i 0 < ns.getD j 0)) (ns.length - 1)) 0 ∈ ns ∧ ∀ y ∈ ns, ns.getD (argBest (fun i j => decide (ns.getD i 0 < ns.getD j 0)) (ns.length - 1)) 0 ≤ y := by
  obtain ⟨h1, h2⟩ := argBest_lt (fun i => ns.getD i 0) (ns.length - 1)
  refine ⟨PySem.getD_mem (by omega), fun y hy => ?_⟩
  obtain ⟨i, hi, e⟩ := List.mem_iff_getElem.mp hy
  have e2 : ns.getD i 0 = y := by rw [List.getD_eq_getElem?_getD, List.getElem?_eq_getElem hi, ← e]; rfl
  rw [← e2]
  exact h2 i (by omega)
theorem best_max {ns : List Int} (h : 0 < ns.length) : ns.getD (argBest (fun i j => decide (ns.getD i 0 > ns.getD j 0)) (ns.length - 1)) 0 ∈ ns ∧ ∀ y ∈ ns, y ≤ ns.getD (argBest (fun i j => decide (ns.getD i 0 > ns.getD j 0)) (ns.length - 1)) 0 := by
  obtain ⟨h1, h2⟩ := argBest_gt (fun i => ns.getD i 0) (ns.length - 1)
  refine ⟨PySem.getD_mem (by omega), fun y hy => ?_⟩
  obtain ⟨i, hi, e⟩ := List.mem_iff_getElem.mp hy
  have e2 : ns.getD i 0 = y := by rw [List.getD_eq_getElem?_getD, List.getElem?_eq_getElem hi, ← e]; rfl
  rw [← e2]
  exact h2 i (by omega)
section
variable {X : Cx} {pins : List (Addr × Obj)} {s : Shared} {σ : L2.St} {H : Hp} {a : Addr} {ns : List Int} {Q : VK}
/-- what the walks have in common: a new iterator, its items the ints -/
def WalkOf (X : Cx) (a : Addr) (s : Shared) (ns : List Int) (A : Around) (it : Value) (s₂ : Shared) : Prop :=
  ∃ (I : Addr) (fp wr : List Addr) (P : Nat → Value → Prop) (Sta : Nat → Heap → Prop) (o : Obj) (n : Nat), n = ns.length ∧ it = .ref I ∧ I = s.heap.objs.size ∧ s₂ = { s with heap := s.heap.push o } ∧ Walks X.prog X.w A I fp wr n P Sta ∧ Sta 0 s₂.heap ∧ (∀ b ∈ fp, b < s₂.heap.objs.size) ∧ wr = [I] ∧ ∀ i v, P i v → ∃ t, v = .int (ns.getD i 0) t
theorem ints_at {us : List Value} {ns : List Int} (h : IntsAre us ns) {i : Nat} {v : Value} (e : us[i]? = some v) : ∃ t, v = .int (ns.getD i 0) t := PyProof.Rows.IntsAre.int_at h i v e
theorem walk_of {E : Value → Shared → Prop} (hc : X.calm = true) (I : Inv X pins σ H s) (h : IntsOf X.K H a ns) {R : Value → Shared → Prop} (q : ∀ it s₂, WalkOf X a s ns X.A.in1 it s₂ → R it s₂) : wpAny (model X.prog X.w) X.A.in1 (pyIter (.ref a)) R E s := by
  have bound : ∀ {o : Obj}, a < s.heap.objs.size → ∀ b ∈ [s.heap.objs.size, a], b < (s.heap.push o).objs.size := fun {o} hl b hb => by
    rw [Heap.size_push]
    rcases List.mem_cons.mp hb with e | hb
    · rw [e]; exact Nat.lt_succ_self _
    · rw [List.mem_singleton.mp hb]; exact Nat.lt_succ_of_lt hl
  rcases h with h | h | ⟨kvs, h, hk⟩
  · obtain ⟨its, rv, hl, _⟩ := I.list h
    have hi := rv.ints
    have hlen : its.toArray.size = ns.length := by rw [List.size_toArray, ← rv.length, List.length_map]
    obtain ⟨o, n, ho, _⟩ := id hl
    have hlt := Heap.lt_size ho
    refine wpAny_pyIter_list hl.isList (q _ _ ⟨_, _, _, _, _, _, _, hlen, rfl, rfl, rfl, Walks.list (A := X.A.in1) (I.ok.hd hc) s.heap.objs.size a (Nat.ne_of_lt hlt) its.toArray, ⟨⟨_, Heap.get?_push_size _ rfl, rfl, rfl⟩, hl.isList.push _⟩, bound hlt, rfl, fun i v hv => ints_at hi (by rw [← List.getElem?_toArray]; exact hv)⟩)
  · obtain ⟨its, rv, hl, _⟩ := I.tuple h
    have hl : s.heap.IsTuple a its.toArray := hl
    have hi := rv.ints
    have hlen : its.toArray.size = ns.length := by rw [List.size_toArray, ← rv.length, List.length_map]
    obtain ⟨o, ho, _⟩ := id hl
    have hlt := Heap.lt_size ho
    refine wpAny_pyIter_tuple hl (q _ _ ⟨_, _, _, _, _, _, _, hlen, rfl, rfl, rfl, Walks.tuple (A := X.A.in1) (I.ok.hd hc) s.heap.objs.size a (Nat.ne_of_lt hlt) its.toArray, ⟨⟨_, Heap.get?_push_size _ rfl, rfl, rfl⟩, hl.push _⟩, bound hlt, rfl, fun i v hv => ints_at hi (by rw [← List.getElem?_toArray]; exact hv)⟩)
  · obtain ⟨_, hsys, vs, rel, dof⟩ := dk_rd I.hok h
    obtain ⟨ep, dat⟩ := dof.dictAt
    obtain ⟨ob, es, ho, hex, hdat, hko, hpr, hnd⟩ := id dat
    have hlt : a < s.heap.objs.size := Heap.lt_size ho
    have hkeys : vs.map (·.1) = ns.map Sum.inl := (KV.keys rel).symm.trans hk
    have hlen : vs.length = ns.length := by
      have e1 := congrArg List.length hkeys
      rw [List.length_map, List.length_map] at e1
      exact e1
    have hval : ∀ (i : Nat) (v : Value), (∃ k x, vs[i]? = some (k, x) ∧ (mixKind X.prog X.w).is k v = true) → ∃ t, v = Value.int (ns.getD i 0) t := fun i v ⟨k, x, hk, hkey⟩ => by
      have e1 : (vs.map (·.1))[i]? = some k := by rw [List.getElem?_map, hk]; rfl
      rw [hkeys, List.getElem?_map] at e1
      obtain ⟨j, hj, e2⟩ := Option.map_eq_some_iff.mp e1
      subst e2
      have hi : Value.isInt j v = true := hkey
      obtain ⟨t, e3⟩ := Value.isInt_shape (k := j) (v := v) hi
      refine ⟨t, ?_⟩
      rw [e3, List.getD_eq_getElem?_getD, hj]; rfl
    refine wpAny_pyIter_dict (knd := mixKind X.prog X.w) hsys dat (q _ _ ⟨_, _, _, _, _, _, _, hlen, rfl, rfl, rfl, Walks.dictKeys (knd := mixKind X.prog X.w) (A := X.A.in1) (I.ok.hd hc) s.heap.objs.size a (Nat.ne_of_lt hlt) vs ep, ⟨⟨_, Heap.get?_push_size _ rfl, rfl, rfl⟩, dat.keep fun b u e => Heap.get?_push_of_some _ e⟩, bound hlt, rfl, hval⟩)
end
section
variable {X : Cx}
theorem cr_minA (hc : X.calm = true) : CallR X (.builtin "min") (rMinA X.K) := by
  intro pins s σ H vs us Q I r h
  obtain ⟨a, ns, rfl, hi, hne, q⟩ := h
  rw [Vals.ref1 r]
  refine call_min_walk (walk_of hc I hi fun it s₂ ⟨It, fp, wr, P, Sta, o, n, e0, e1, e2, e3, W, hst, hfp, e4, hP⟩ => ?_)
  subst e0 e1 e2 e3 e4
  refine ⟨_, _, _, _, _, _, _, rfl, W, hst, hfp, hne, CmpOf.ints_lt (fun i => ns.getD i 0) hP, fun v h' tk hv hk => ?_⟩
  obtain ⟨t, rfl⟩ := hP _ v hv
  obtain ⟨b1, b2⟩ := best_min hne
  refine ⟨.int _, H, I.kept (t' := tk) fun b u e => hk b u (fun hmem => ?_) (Heap.get?_push_of_some _ e), ⟨t, rfl⟩, q _ b1 b2⟩
  exact Nat.lt_irrefl _ (by have := Heap.lt_size e; rwa [List.mem_singleton.mp hmem] at this)
theorem cr_maxA (hc : X.calm = true) : CallR X (.builtin "max") (rMaxA X.K) := by
  intro pins s σ H vs us Q I r h
  obtain ⟨a, ns, rfl, hi, hne, q⟩ := h
  rw [Vals.ref1 r]
  refine call_max_walk (walk_of hc I hi fun it s₂ ⟨It, fp, wr, P, Sta, o, n, e0, e1, e2, e3, W, hst, hfp, e4, hP⟩ => ?_)
  subst e0 e1 e2 e3 e4
  refine ⟨_, _, _, _, _, _, _, rfl, W, hst, hfp, hne, CmpOf.ints_gt (fun i => ns.getD i 0) hP, fun v h' tk hv hk => ?_⟩
  obtain ⟨t, rfl⟩ := hP _ v hv
  obtain ⟨b1, b2⟩ := best_max hne
  refine ⟨.int _, H, I.kept (t' := tk) fun b u e => hk b u (fun hmem => ?_) (Heap.get?_push_of_some _ e), ⟨t, rfl⟩, q _ b1 b2⟩
  exact Nat.lt_irrefl _ (by have := Heap.lt_size e; rwa [List.mem_singleton.mp hmem] at this)

/-! ### min of a list of lists of ints -/
def lexI : List Int → List Int → Bool
  | [], [] => false
  | [], _ :: _ => true
  | _ :: _, [] => false
  | a :: as, b :: bs => if a = b then lexI as bs else decide (a < b)
theorem firstLt_lex : ∀ (ns ms : List Int) (k : Nat) (e r : Nat → Bool), (∀ j, e (k + j) = (ns.getD j 0 == ms.getD j 0)) → (∀ j, r (k + j) = decide (ns.getD j 0 < ms.getD j 0)) →
    SeqAt.firstLt e r (decide (ns.length < ms.length)) (List.range' k (min ns.length ms.length)) = lexI ns ms
  | [], [], k, e, r, _, _ => rfl
  | [], _ :: _, k, e, r, _, _ => by simp [SeqAt.firstLt, lexI]
  | _ :: _, [], k, e, r, _, _ => by simp [SeqAt.firstLt, lexI]
  | a :: as, b :: bs, k, e, r, he, hr => by
    have h0 := he 0
    have r0 := hr 0
    rw [Nat.add_zero] at h0 r0
    have em : min (a :: as).length (b :: bs).length = min as.length bs.length + 1 := by simp only [List.length_cons]; omega
    have el : decide ((a :: as).length < (b :: bs).length) = decide (as.length < bs.length) := by simp
    rw [em, el, List.range'_succ]
    unfold lexI
    by_cases c : a = b
    · rw [SeqAt.firstLt_yes (by rw [h0]; simpa using c), if_pos c]
      exact firstLt_lex as bs (k + 1) e r (fun j => by rw [show k + 1 + j = k + (j + 1) by omega, he (j + 1)]; rfl) (fun j => by rw [show k + 1 + j = k + (j + 1) by omega, hr (j + 1)]; rfl)
    · rw [SeqAt.firstLt_no (by rw [h0]; simpa using c), if_neg c, r0]
      rfl
def rMinLL (K : PySem.W.Frag) : List V → Hp → VK → Prop := fun vs H Q => ∃ (a : Addr) (us : List V) (L : List (List Int)), vs = [V.ref a] ∧ SqL K H a us ∧ Paired (fun u ns => ∃ b, u = V.ref b ∧ SqL K H b (ns.map V.int)) us L ∧ 0 < L.length ∧
  ∀ u, us[argBest (fun i j => lexI (L.getD i []) (L.getD j [])) (L.length - 1)]? = some u → Q u H
theorem lists_lt {prog : Program} {w : World} {A : Around} {E : Value → Shared → Prop} {s : Shared} {l b : Addr} {xs ys : List Value} {ns ms : List Int} {Q : Value → Shared → Prop} (hl : s.heap.IsList l xs.toArray) (hb : s.heap.IsList b ys.toArray) (hi : IntsAre xs ns) (hj : IntsAre ys ms) (hu : A.units < cLine)
    (h : Q (.bool (lexI ns ms)) s) : wpAny (model prog w) A (richCompare .Lt (.ref l) (.ref b)) Q E s := by
  have l1 : xs.length = ns.length := IntsAre.length hi
  have l2 : ys.length = ms.length := IntsAre.length hj
  have key := SeqAt.RcLt.lists (A := A) (s := s) (e := fun j => ns.getD j 0 == ms.getD j 0) (r := fun j => decide (ns.getD j 0 < ms.getD j 0)) hl hb hu (fun j h1 h2 => by
    obtain ⟨t, e1⟩ := ints_at hi (i := j) (v := xs.toArray[j]) (by rw [← List.getElem?_toArray]; exact Array.getElem?_eq_getElem h1)
    obtain ⟨u, e2⟩ := ints_at hj (i := j) (v := ys.toArray[j]) (by rw [← List.getElem?_toArray]; exact Array.getElem?_eq_getElem h2)
    rw [e1, e2]
    exact SeqAt.EqAt.int_int _ _ _ _) (fun j h1 h2 _ => by
    obtain ⟨t, e1⟩ := ints_at hi (i := j) (v := xs.toArray[j]) (by rw [← List.getElem?_toArray]; exact Array.getElem?_eq_getElem h1)
    obtain ⟨u, e2⟩ := ints_at hj (i := j) (v := ys.toArray[j]) (by rw [← List.getElem?_toArray]; exact Array.getElem?_eq_getElem h2)
    rw [e1, e2]
    exact fun prog w E Q h => PyProof.Rows.lt_int h)
  refine key prog w E Q ?_
  have e3 : SeqAt.firstLt (fun j => ns.getD j 0 == ms.getD j 0) (fun j => decide (ns.getD j 0 < ms.getD j 0)) (decide (xs.toArray.size < ys.toArray.size)) (List.range (min xs.toArray.size ys.toArray.size)) = lexI ns ms := by
    rw [List.size_toArray, List.size_toArray, l1, l2, List.range_eq_range']
    exact firstLt_lex ns ms 0 _ _ (fun j => by rw [Nat.zero_add]) (fun j => by rw [Nat.zero_add])
  rw [e3]
  exact h
theorem cr_minLL (hc : X.calm = true) (hu : X.A.units + 64 < cLine) : CallR X (.builtin "min") (rMinLL X.K) := by
  intro pins s σ H vs us Q I r h
  obtain ⟨a, ws, L, rfl, hq, hp, hne, q⟩ := h
  rw [Vals.ref1 r]
  obtain ⟨its, rv, hl, _⟩ := I.list hq
  obtain ⟨o, n, ho, _⟩ := id hl
  have hlt := Heap.lt_size ho
  -- the lists that the items are
  have items : ∀ (i : Nat) (v : Value), its[i]? = some v → ∃ (b : Addr) (xs : List Value), v = .ref b ∧ s.heap.IsList b xs.toArray ∧ IntsAre xs (L.getD i []) ∧ b < s.heap.objs.size := by
    have gen : ∀ {ws : List V} {L : List (List Int)}, Paired (fun u ns => ∃ b, u = V.ref b ∧ SqL X.K H b (ns.map V.int)) ws L → ∀ {its : List Value}, Vals ws its → ∀ (i : Nat) (v : Value), its[i]? = some v → ∃ (b : Addr) (xs : List Value), v = .ref b ∧ s.heap.IsList b xs.toArray ∧ IntsAre xs (L.getD i []) ∧ b < s.heap.objs.size := by
      intro ws L hp
      induction hp with
      | nil => intro its rv i v e; cases rv; simp at e
      | cons h1 _ ih =>
        intro its rv i v e
        cases rv with
        | cons r1 rv =>
          cases i with
          | zero =>
            simp only [List.getElem?_cons_zero, Option.some.injEq] at e
            subst e
            obtain ⟨b, rfl, hb⟩ := h1
            cases r1
            obtain ⟨xs, rx, hx, _⟩ := I.list hb
            obtain ⟨o, n, ho, _⟩ := id hx
            exact ⟨b, xs, rfl, hx.isList, rx.ints, Heap.lt_size ho⟩
          | succ i => exact ih rv i v (by simpa using e)
    exact gen hp rv
  have hlen : its.toArray.size = L.length := by rw [List.size_toArray, ← rv.length]; exact Paired.length hp
  refine call_min_walkH (wpAny_pyIter_list hl.isList ?_)
  refine ⟨_, _, _, _, _, _, fun i j => lexI (L.getD i []) (L.getD j []), rfl, Walks.list (A := X.A.in1) (I.ok.hd hc) s.heap.objs.size a (Nat.ne_of_lt hlt) its.toArray, ⟨⟨_, Heap.get?_push_size _ rfl, rfl, rfl⟩, hl.isList.push _⟩, fun b hb => ?_, by rw [hlen]; exact hne,
    ⟨fun h => ∀ b o, b < s.heap.objs.size → s.heap.get? b = some o → h.get? b = some o, fun b o _ e => Heap.get?_push_of_some _ e, fun i j vi vj s' Q' E' ks hi hj hQ' => ?_, fun S h h' eS ks keep b o hb e => keep b o (fun hmem => ?_) (fun e2 => ?_) (ks b o hb e)⟩, fun v h' tk hv hk => ?_⟩
  · show b < (s.heap.push _).objs.size
    rw [Heap.size_push]
    rcases List.mem_cons.mp hb with e | hb
    · rw [e]; exact Nat.lt_succ_self _
    · rw [List.mem_singleton.mp hb]; exact Nat.lt_succ_of_lt hlt
  · have hi : its.toArray[i]? = some vi := hi
    have hj : its.toArray[j]? = some vj := hj
    rw [List.getElem?_toArray] at hi hj
    obtain ⟨b1, x1, rfl, g1, g2, g3⟩ := items i vi hi
    obtain ⟨b2, x2, rfl, k1, k2, k3⟩ := items j vj hj
    exact lists_lt (g1.at fun o e => ks _ _ g3 e) (k1.at fun o e => ks _ _ k3 e) g2 k2 (by show X.A.units + 1 < cLine; omega) hQ'
  · rw [List.mem_singleton.mp hmem] at hb; exact Nat.lt_irrefl _ hb
  · have eS : S = (s.heap.push { cls := .type "list_iterator", data := .fields #[.ref a, .int 0 0] }).objs.size := eS
    rw [Heap.size_push] at eS
    rw [e2, eS] at hb
    exact Nat.lt_irrefl _ (Nat.lt_of_succ_lt hb)
  · have hv : its.toArray[argBest (fun i j => lexI (L.getD i []) (L.getD j [])) (its.toArray.size - 1)]? = some v := hv
    rw [List.getElem?_toArray, hlen] at hv
    have hidx := (List.getElem?_eq_some_iff.mp hv).1
    obtain ⟨u, hu1, hu2⟩ : ∃ u, ws[argBest (fun i j => lexI (L.getD i []) (L.getD j [])) (L.length - 1)]? = some u ∧ RelV u v := by
      have hw : argBest (fun i j => lexI (L.getD i []) (L.getD j [])) (L.length - 1) < ws.length := by rw [rv.length]; exact hidx
      obtain ⟨v', e1, e2⟩ := rv.get (List.getElem?_eq_getElem hw)
      rw [hv] at e1
      cases e1
      exact ⟨_, List.getElem?_eq_getElem hw, e2⟩
    refine ⟨u, H, I.kept (t' := tk) fun b w e => hk b w (fun hmem => ?_) (Heap.get?_push_of_some _ e), hu2, q u hu1⟩
    have hlt2 := Heap.lt_size e
    rw [List.mem_singleton.mp hmem] at hlt2
    exact Nat.lt_irrefl _ hlt2
end
def asLL : List D → Option (List (List Int))
  | [] => some []
  | .lst xs :: r => match asInts xs with
    | none => none
    | some ns => match asLL r with
      | none => none
      | some L => some (ns :: L)
  | _ => none
def dIntsOf : D → Option (List Int)
  | .lst xs => asInts xs
  | .tup xs => asInts xs
  | .dK ks _ => keyInts ks
  | _ => none
def dMaxA : List D → Option R
  | [d] => match dIntsOf d with
    | none => none
    | some ns => if 0 < ns.length then some (.fz (.int (maxI ns))) else none
  | _ => none
def dMinA : List D → Option R
  | [d] => match dIntsOf d with
    | some ns => if 0 < ns.length then some (.fz (.int (minI ns))) else none
    | none => match d with
      | .lst xs => match asLL xs with
        | none => none
        | some L => if 0 < L.length then match xs[argBest (fun i j => lexI (L.getD i []) (L.getD j [])) (L.length - 1)]? with
            | none => none
            | some d => some (.fz d)
          else none
      | _ => none
  | _ => none
section
variable {K : PySem.W.Frag} {fa : Nat → Addr} {A : Addr → Prop} {ga : Nat → Option Addr} {H : Hp}
theorem dIntsOf_ok {d : D} {ns : List Int} {v : V} (h : dIntsOf d = some ns) (r : RepW K fa A ga H v d) : ∃ a, v = .ref a ∧ IntsOf K H a ns := by
  cases r with
  | lst q r =>
    have h : asInts _ = some ns := h
    rw [asInts_ok h] at r
    rw [r.toInts] at q
    exact ⟨_, rfl, .inl (.inl (.inl q))⟩
  | tup n q r =>
    have h : asInts _ = some ns := h
    rw [asInts_ok h] at r
    rw [r.toInts] at q
    exact ⟨_, rfl, .inr (.inl (.inl (.inl q)))⟩
  | dK rd e r =>
    have h : keyInts _ = some ns := h
    exact ⟨_, rfl, .inr (.inr ⟨_, rd, by rw [e]; exact keyInts_ok h⟩)⟩
  | non => cases h
  | bl => cases h
  | int => cases h
  | str => cases h
  | dT => cases h
  | fn => cases h
  | gref => cases h
  | ktup => cases h
theorem asLL_ok : ∀ {xs : List D} {L : List (List Int)} {us : List V}, asLL xs = some L → RepL K fa A ga H us xs → Paired (fun u ns => ∃ b, u = V.ref b ∧ SqL K H b (ns.map V.int)) us L
  | [], L, us, h, r => by cases h; cases r; exact .nil
  | .lst ys :: xs, L, us, h, r => by
    unfold asLL at h
    split at h
    · cases h
    · rename_i ns e
      split at h
      · cases h
      · rename_i L' e2
        cases h
        cases r with
        | cons r1 r2 =>
          cases r1 with
          | lst n q r1 =>
            rw [asInts_ok e] at r1
            rw [r1.toInts] at q
            exact .cons ⟨_, rfl, .inl (.inl q)⟩ (asLL_ok e2 r2)
  | .non :: _, _, _, h, _ => nomatch h
  | .bl _ :: _, _, _, h, _ => nomatch h
  | .int _ :: _, _, _, h, _ => nomatch h
  | .str _ :: _, _, _, h, _ => nomatch h
  | .tup _ :: _, _, _, h, _ => nomatch h
  | .dK _ _ :: _, _, _, h, _ => nomatch h
  | .dT _ _ :: _, _, _, h, _ => nomatch h
  | .fn _ :: _, _, _, h, _ => nomatch h
  | .gref _ :: _, _, _, h, _ => nomatch h
  | .ktup _ :: _, _, _, h, _ => nomatch h
end
section
variable {K : PySem.W.Frag} {fa : Nat → Addr}
theorem ok_maxA : OpOk K fa dMaxA (rMaxA K) := by
  intro A ga H vs ds res Q hA hp hf hQ
  unfold dMaxA at hf
  split at hf
  · split at hf
    · cases hf
    · rename_i d ns e
      split at hf
      · rename_i c
        cases hf
        cases hp with | cons h hp =>
          cases hp
          obtain ⟨a, rfl, h2⟩ := dIntsOf_ok e h
          exact ⟨a, ns, rfl, h2, c, fun m h1 h2 => by rw [maxI_ok h1 h2]; exact hQ _ _ (.same (.int _))⟩
      · cases hf
  · cases hf
theorem ok_minA : OpOk K fa dMinA (fun xs H Q => rMinA K xs H Q ∨ rMinLL K xs H Q) := by
  intro A ga H vs ds res Q hA hp hf hQ
  unfold dMinA at hf
  split at hf
  · rename_i d
    cases hp with | cons h hp =>
      cases hp
      split at hf
      · rename_i ns e
        split at hf
        · rename_i c
          cases hf
          obtain ⟨a, rfl, h2⟩ := dIntsOf_ok e h
          exact .inl ⟨a, ns, rfl, h2, c, fun m h1 h2 => by rw [minI_ok h1 h2]; exact hQ _ _ (.same (.int _))⟩
        · cases hf
      · split at hf
        · rename_i xs _
          split at hf
          · cases hf
          · rename_i L e
            split at hf
            · rename_i c
              split at hf
              · cases hf
              · rename_i d' e2
                cases hf
                cases h with
                | @lst a us _ q r =>
                  obtain ⟨w, w1, w2⟩ := r.get e2
                  refine .inr ⟨a, us, L, rfl, .inl (.inl q), asLL_ok e r, c, fun u hu => ?_⟩
                  rw [w1] at hu
                  cases hu
                  exact hQ _ _ (.same w2)
            · cases hf
        · cases hf
  · cases hf
end
section
variable {X : Cx}
theorem cr_minB (hc : X.calm = true) (hu : X.A.units + 64 < cLine) : CallR X (.builtin "min") (fun xs H Q => rMinA X.K xs H Q ∨ rMinLL X.K xs H Q) := (cr_minA hc).or (cr_minLL hc hu)
end
end Ev
end
section
set_option Elab.async false
set_option linter.all false
set_option maxRecDepth 100000
set_option maxHeartbeats 4000000
/-! Ev21: dict(pairs), d.update(pairs), list(range(n)). -/
namespace Ev
open PySem PySem.Spec PyProof.Rows L2

def mergeD : List Key → List D → List (Key × D) → List Key × List D
  | ks, vs, [] => (ks, vs)
  | ks, vs, p :: r => mergeD (putD ks vs p.1 p.2).1 (putD ks vs p.1 p.2).2 r
def pairsD : List D → Option (List (Key × D))
  | [] => some []
  | .tup [k, d] :: r => match keyD k with
    | none => none
    | some k => match pairsD r with
      | none => none
      | some ps => some ((k, d) :: ps)
  | _ => none
section
variable {K : PySem.W.Frag} {fa : Nat → Addr} {A : Addr → Prop} {ga : Nat → Option Addr} {H : Hp}
theorem mergeD_ok : ∀ {more : List (Key × V)} {ps : List (Key × D)} {kvs : List (Key × V)} {ds : List D}, Paired (fun kv p => kv.1 = p.1 ∧ Rep K fa A ga H kv.2 p.2) more ps → RepL K fa A ga H (kvs.map (·.2)) ds →
    (mergeK kvs more).map (·.1) = (mergeD (kvs.map (·.1)) ds ps).1 ∧ RepL K fa A ga H ((mergeK kvs more).map (·.2)) (mergeD (kvs.map (·.1)) ds ps).2
  | [], [], kvs, ds, .nil, r => ⟨rfl, r⟩
  | kv :: more, p :: ps, kvs, ds, .cons h t, r => by
    obtain ⟨q1, q2⟩ := putD_ok (k := kv.1) r h.2
    have ih := mergeD_ok (kvs := putK kvs kv.1 kv.2) t q2
    rw [q1] at ih
    have e : mergeK kvs (kv :: more) = mergeK (putK kvs kv.1 kv.2) more := rfl
    rw [e]
    unfold mergeD
    rw [← h.1]
    exact ih
/-- the pairs as they lie in the heap -/
theorem pairsD_ok : ∀ {xs : List D} {ps : List (Key × D)} {us : List V}, pairsD xs = some ps → RepL K fa A ga H us xs → ∃ (as : List Addr) (kvs : List (Key × V)), us = as.map V.ref ∧ Paired (fun a kv => H a = some (.tup [kV kv.1, kv.2])) as kvs ∧ Paired (fun kv p => kv.1 = p.1 ∧ Rep K fa A ga H kv.2 p.2) kvs ps
  | [], ps, us, h, r => by cases h; cases r; exact ⟨[], [], rfl, .nil, .nil⟩
  | .tup [k, d] :: xs, ps, us, h, r => by
    unfold pairsD at h
    split at h
    · cases h
    · rename_i kk e
      split at h
      · cases h
      · rename_i ps' e2
        cases h
        cases r with
        | cons r1 r2 =>
          obtain ⟨as, kvs, e3, q1, q2⟩ := pairsD_ok e2 r2
          subst e3
          cases r1 with
          | @tup a ys _ n q r1 =>
            cases r1 with
            | cons w1 r1 => cases r1 with
              | cons w2 r1 =>
                cases r1
                have e4 := keyD_ok e w1.weak
                subst e4
                exact ⟨a :: as, (kk, _) :: kvs, rfl, .cons q q1, .cons ⟨rfl, w2⟩ q2⟩
  | .non :: _, _, _, h, _ => nomatch h
  | .bl _ :: _, _, _, h, _ => nomatch h
  | .int _ :: _, _, _, h, _ => nomatch h
  | .str _ :: _, _, _, h, _ => nomatch h
  | .lst _ :: _, _, _, h, _ => nomatch h
  | .tup [] :: _, _, _, h, _ => nomatch h
  | .tup [_] :: _, _, _, h, _ => nomatch h
  | .tup (_ :: _ :: _ :: _) :: _, _, _, h, _ => nomatch h
  | .dK _ _ :: _, _, _, h, _ => nomatch h
  | .dT _ _ :: _, _, _, h, _ => nomatch h
  | .fn _ :: _, _, _, h, _ => nomatch h
  | .gref _ :: _, _, _, h, _ => nomatch h
  | .ktup _ :: _, _, _, h, _ => nomatch h
end
section
variable {X : Cx} {pins : List (Addr × Obj)} {s : Shared} {σ : L2.St} {H : Hp}
theorem Paired.mono' {α β : Type} {R R' : α → β → Prop} (h : ∀ a b, R a b → R' a b) : ∀ {xs : List α} {ys : List β}, Paired R xs ys → Paired R' xs ys
  | _, _, .nil => .nil
  | _, _, .cons r t => .cons (h _ _ r) (Paired.mono' h t)
theorem pairs_in (I : Inv X pins σ H s) : ∀ {as : List Addr} {kvs : List (Key × V)}, Paired (fun a kv => H a = some (.tup [kV kv.1, kv.2])) as kvs →
    ∃ (prs : List (Key × Value)) (pv : List (Value × Value)), KV kvs prs ∧ prs.length = as.length ∧ pv.length = as.length ∧ ∀ (j : Nat) (u y : Value), pv[j]? = some (u, y) → ∃ (b : Addr) (k : Key), as[j]? = some b ∧ s.heap.IsTuple b #[u, y] ∧ prs[j]? = some (k, y) ∧ keyIs k u = true
  | _, _, .nil => ⟨[], [], .nil, rfl, rfl, fun j u y e => by simp at e⟩
  | _, _, .cons (a := a) (b := kv) h t => by
    obtain ⟨prs, pv, r, l1, l2, hp⟩ := pairs_in I t
    obtain ⟨its, rv, ht, _⟩ := I.tuple (.inl (.inl h))
    obtain ⟨u, y, ei, ru, ry⟩ := vals2 rv
    subst ei
    refine ⟨(kv.1, y) :: prs, (u, y) :: pv, .cons ⟨rfl, ry⟩ r, by simp [l1], by simp [l2], fun j u' y' e => ?_⟩
    cases j with
    | zero =>
      cases e
      exact ⟨a, kv.1, rfl, ht, rfl, kV_is (P := X.prog) (w := X.w) ru⟩
    | succ j =>
      obtain ⟨b, k, e1, e2, e3, e4⟩ := hp j u' y' (by simpa using e)
      exact ⟨b, k, by simpa using e1, e2, by simpa using e3, e4⟩
end
def rDictA (K : PySem.W.Frag) : List V → Hp → VK → Prop := fun xs H Q => ∃ (a : Addr) (as : List Addr) (kvs : List (Key × V)), xs = [.ref a] ∧ (H a = some (.lst (as.map V.ref)) ∨ ∃ o : Obj, o.dict = none ∧ H a = some (.frz o (.tup (as.map V.ref)))) ∧ Paired (fun a kv => H a = some (.tup [kV kv.1, kv.2])) as kvs ∧ as.length ≤ sizeLine ∧
  ∀ p, H p = none → Q (.ref p) (upd H p (.dK (mergeK [] kvs)))
theorem refs_of : ∀ {as : List Addr} {us : List Value}, Vals (as.map V.ref) us → us = as.map Value.ref
  | [], us, r => by cases r; rfl
  | a :: as, us, r => by
    cases r with
    | cons h t =>
      cases h
      rw [refs_of t]
      rfl
theorem call_dictA {X : Cx} (hc : X.calm = true) : CallR X (.type "dict") (rDictA X.K) := by
  intro pins s σ H xs us Q I r q
  obtain ⟨a, as, kvs, rfl, hq, hp, hz, q⟩ := q
  rw [Vals.ref1 r]
  obtain ⟨prs, pv, rel, l1, l2, hpv⟩ := pairs_in I hp
  have fin : ∀ {T : String} {its : List Value} {wr : List Addr} {fp : List Addr} {OK : Heap → Prop}, wr = [] → PairArg X.prog X.w T a fp wr pv.length (PairRel pv) OK → OK s.heap → wpAny (model X.prog X.w) X.A (call (.type "dict") [.ref a]) (EP X pins σ Q) X.xe s := fun {T its wr fp OK} ew P ok => by
    refine PySem.call_dict_pairs (knd := mixKind X.prog X.w) (kvs := prs) P (I.ok.hd hc) ok ⟨by rw [l1, l2], fun i key v hr => ?_⟩ (by rw [l2]; exact hz) fun h' tk hd' hk => ?_
    · obtain ⟨b, k, _, _, e3, e4⟩ := hpv i key v hr
      exact ⟨k, e3, e4⟩
    · have hm : (s.heap.objs.size == sysModules) = false := beq_eq_false_iff_ne.mpr (Nat.ne_of_gt I.big)
      have hlen : (mergeK [] kvs).length ≤ sizeLine := by
        refine Nat.le_trans (length_mergeK kvs []) ?_
        rw [List.length_nil, Nat.zero_add, ← Paired.length hp]
        exact hz
      exact ⟨.ref s.heap.objs.size, upd H s.heap.objs.size (.dK (mergeK [] kvs)), I.laid (t' := tk) (fun b o e => hk b o (by rw [ew]; simp) e) (Nat.le_refl _) (show ObjOk X.prog X.w _ _ _ (.dK (mergeK [] kvs)) from ⟨hlen, hm, merged [] prs, KV.merge rel .nil, hd'⟩), rfl, q _ (I.hok.fresh (Nat.le_refl _))⟩
  have item : ∀ {its : List Value}, its = as.map Value.ref → PairItems s.heap its.toArray (fun j => as.getD j 0) pv := fun {its} e => by
    subst e
    refine ⟨by simp [l2], fun j k v hj => ?_⟩
    obtain ⟨b, kk, e1, e2, _, _⟩ := hpv j k v hj
    refine ⟨by simp [List.getD_eq_getElem?_getD, e1], ?_⟩
    have e5 : as.getD j 0 = b := by rw [List.getD_eq_getElem?_getD, e1]; rfl
    show PairAt s.heap (as.getD j 0) k v
    rw [e5]
    exact .inl e2
  rcases hq with hq | ⟨ob, hd, hq⟩
  · obtain ⟨its, rv, pl, _⟩ := I.list (.inl (.inl hq))
    obtain ⟨o, n, e1, e2, e3, e4⟩ := pl
    exact fin (its := its) rfl (PairArg.list a its.toArray (fun j => as.getD j 0) pv) ⟨⟨o, n, e1, e2, e3, e4⟩, item (refs_of rv)⟩
  · obtain ⟨e0, _, its, rv, o, e1, e2, n, e3⟩ := (show ObjOk X.prog X.w H s.heap a (.frz ob (.tup (as.map V.ref))) from I.hok a _ hq)
    have e5 : o = ob := by rw [e0] at e1; exact (Option.some.inj e1).symm
    subst e5
    exact fin (its := its) rfl (PairArg.tuple a its.toArray (fun j => as.getD j 0) pv) ⟨⟨o, n, e1, e2, hd, e3⟩, item (refs_of rv)⟩
def dDict : List D → Option R
  | [.lst xs] => match pairsD xs with
    | none => none
    | some ps => if xs.length ≤ szL then some (.fr (.dK (mergeD [] [] ps).1 (mergeD [] [] ps).2)) else none
  | [.ktup xs] => match pairsD xs with
    | none => none
    | some ps => if xs.length ≤ szL then some (.fr (.dK (mergeD [] [] ps).1 (mergeD [] [] ps).2)) else none
  | _ => none
theorem NewR.dict {K : PySem.W.Frag} {fa : Nat → Addr} {A : Addr → Prop} {ga : Nat → Option Addr} {H : Hp} {p : Addr} {kvs : List (Key × V)} {ks : List Key} {ds : List D} (hp : H p = none) (hA : ∀ a, A a → H a ≠ none) (e : kvs.map (·.1) = ks) (r : RepL K fa A ga H (kvs.map (·.2)) ds) : NewR K fa A ga H (.ref p) (.fr (.dK ks ds)) (upd H p (.dK kvs)) := by
  have ext : ∀ a o, H a = some o → upd H p (.dK kvs) a = some o := fun a o h => by rw [upd_ne (ne_of_none h hp)]; exact h
  refine .fr ext hp ⟨kvs, upd_same, e, RepL.keep ⟨fun a u _ _ _ q => q.elim (fun z => .inl (ext _ _ z)) fun ⟨o, z⟩ => .inr ⟨o, ext _ _ z⟩, fun a xs _ q => ext _ _ q, fun a xs _ q => ext _ _ q, fun a z => ?_, fun _ _ e => e⟩ r⟩
  rcases z with z | z
  · exact .inl z
  · exact .inr (by rw [z]; exact hp)
/-- tuple(a list): known to the object -/
def rTupX (K : PySem.W.Frag) : List V → Hp → VK → Prop := fun xs H Q => ∃ p ys, xs = [.ref p] ∧ SqL K H p ys ∧ ∀ (l : Addr) (o : Obj), H l = none → o.dict = none → Q (.ref l) (upd H l (.frz o (.tup ys)))
theorem call_tupX {X : Cx} : CallR X (.type "tuple") (rTupX X.K) := by
  intro pins s σ H xs us Q I r h
  obtain ⟨p, ys, rfl, hq, q⟩ := h
  rw [Vals.ref1 r]
  obtain ⟨its, r', pl, hz⟩ := I.list hq
  have hlen := r'.length
  refine call_tuple_list pl.isList (fun h' kp => ?_) (by simp only [List.size_toArray]; omega)
  have I1 : Inv X pins σ H { s with heap := h' } := I.kept (t' := s.toks) kp
  have I2 : Inv X pins σ (upd H h'.objs.size (.frz { cls := .type "tuple", data := .seq its.toArray } (.tup ys))) { s with heap := h'.push { cls := .type "tuple", data := .seq its.toArray } } :=
    I1.laid (t' := s.toks) (fun b o e => Heap.get?_push_of_some _ e) (Nat.le_refl _) (show ObjOk X.prog X.w _ _ _ (.frz _ (.tup ys)) from ⟨Heap.get?_push_size _ rfl, hz, its, r', IsTup.new _ _⟩)
  exact ⟨.ref h'.objs.size, _, I2, rfl, q _ _ (I1.hok.fresh (Nat.le_refl _)) rfl⟩
def dTupX : List D → Option R
  | [.lst xs] => some (.fz (.ktup xs))
  | _ => none
/-- len(..), dicts too -/
def dLenA : List D → Option R
  | [.dK ks _] => some (.fz (.int ks.length))
  | ds => dLen ds
def rLenRd : List V → Hp → VK → Prop := fun xs H Q => ∃ a, ∃ kvs : List (Key × V), xs = [V.ref a] ∧ Rd H a (.dK kvs) ∧ Q (.int kvs.length) H
theorem call_lenA {X : Cx} : CallR X (.builtin "len") (fun xs H Q => rLenRd xs H Q ∨ ∃ x n, xs = [x] ∧ LenV X.K x H n ∧ Q (.int n) H) := CallR.or (fun pins s σ H xs us Q I r h => by
  obtain ⟨a, kvs, rfl, ha, q⟩ := h
  rw [Vals.ref1 r]
  exact d_len I ha fun t s' I' => ⟨.int kvs.length, H, I', ⟨t, rfl⟩, q⟩) call_len
section
variable {K : PySem.W.Frag} {fa : Nat → Addr}
theorem ok_dict : OpOk K fa dDict (rDictA K) := by
  intro A ga H vs ds res Q hA hp hf hQ
  unfold dDict at hf
  split at hf
  · split at hf
    · cases hf
    · rename_i xs ps e
      split at hf
      · rename_i hz
        cases hf
        cases hp with | cons h hp =>
          cases hp
          cases h with
          | lst q r =>
            obtain ⟨as, kvs, rfl, p1, p2⟩ := pairsD_ok e r
            obtain ⟨m1, m2⟩ := mergeD_ok (kvs := []) (ds := []) p2 .nil
            have hl : as.length ≤ sizeLine := by have := r.length; rw [List.length_map] at this; rw [szL_eq]; omega
            exact ⟨_, as, kvs, rfl, .inl q, p1, hl, fun p np => hQ _ _ (.dict np hA m1 m2)⟩
      · cases hf
  · split at hf
    · cases hf
    · rename_i xs ps e
      split at hf
      · rename_i hz
        cases hf
        cases hp with | cons h hp =>
          cases hp
          cases h with
          | ktup n q dn r =>
            obtain ⟨as, kvs, rfl, p1, p2⟩ := pairsD_ok e r
            obtain ⟨m1, m2⟩ := mergeD_ok (kvs := []) (ds := []) p2 .nil
            have hl : as.length ≤ sizeLine := by have := r.length; rw [List.length_map] at this; rw [szL_eq]; omega
            exact ⟨_, as, kvs, rfl, .inr ⟨_, dn, q⟩, p1, hl, fun p np => hQ _ _ (.dict np hA m1 m2)⟩
      · cases hf
  · cases hf
theorem ok_tupX : OpOk K fa dTupX (rTupX K) := by
  intro A ga H vs ds res Q hA hp hf hQ
  unfold dTupX at hf
  split at hf
  · cases hf
    cases hp with | cons h hp =>
      cases hp
      cases h with
      | @lst a ys _ q r =>
        refine ⟨a, ys, rfl, .inl (.inl q), fun l o np hd => hQ _ _ ?_⟩
        have ext : ∀ b u, H b = some u → upd H l (.frz o (.tup ys)) b = some u := fun b u h => by rw [upd_ne (ne_of_none h np)]; exact h
        refine .fz ext (.ktup (fun z => hA l z np) upd_same hd (RepL.keep ⟨fun a u _ _ _ q => q.elim (fun z => .inl (ext _ _ z)) fun ⟨o, z⟩ => .inr ⟨o, ext _ _ z⟩, fun a xs _ q => ext _ _ q, fun a xs _ q => ext _ _ q, fun a z => .inl z, fun _ _ e => e⟩ r))
  · cases hf
theorem ok_lenA : OpOk K fa dLenA (fun xs H Q => rLenRd xs H Q ∨ ∃ x n, xs = [x] ∧ LenV K x H n ∧ Q (.int n) H) := by
  intro A ga H vs ds res Q hA hp hf hQ
  unfold dLenA at hf
  split at hf
  · cases hf
    cases hp with | cons h hp =>
      cases hp
      cases h with
      | @dK a kvs _ _ rd e r =>
        refine .inl ⟨a, kvs, rfl, rd, ?_⟩
        have hl : kvs.length = (kvs.map (·.1)).length := by simp
        rw [hl, e]
        exact hQ _ _ (.same (.int _))
  · exact .inr (ok_len A ga H vs ds res Q hA hp hf hQ)
end

/-! ### d.update(a list of pairs) -/
def rUpdP : V → List V → Hp → VK → Prop := fun x vs H Q => ∃ (d a : Addr) (kvs0 : List (Key × V)) (as : List Addr) (kvs : List (Key × V)), x = .ref d ∧ vs = [.ref a] ∧ H d = some (.dK kvs0) ∧ H a = some (.lst (as.map V.ref)) ∧ Paired (fun a kv => H a = some (.tup [kV kv.1, kv.2])) as kvs ∧ kvs0.length + as.length ≤ sizeLine ∧
  Q .non (upd H d (.dK (mergeK kvs0 kvs)))
theorem mt_upd {X : Cx} (hc : X.calm = true) : MtR X "dict.update" rUpdP := by
  intro pins s σ H x xs v us Q I rx rv h
  obtain ⟨d, a, kvs0, as, kvs, rfl, rfl, hd, ha, hp, hz, q⟩ := h
  cases rx
  rw [Vals.ref1 rv]
  obtain ⟨z, hsys, vs0, rel0, dd⟩ := dk_of I.hok hd
  obtain ⟨prs, pv, rel, l1, l2, hpv⟩ := pairs_in I hp
  obtain ⟨its, rl, pl, _⟩ := I.list (.inl (.inl ha))
  obtain ⟨o, n, e1, e2, e3, e4⟩ := pl
  have ei := refs_of rl
  subst ei
  have item : PairItems s.heap (as.map Value.ref).toArray (fun j => as.getD j 0) pv := by
    refine ⟨by simp [l2], fun j k v hj => ?_⟩
    obtain ⟨b, kk, e1, e2, _, _⟩ := hpv j k v hj
    refine ⟨by simp [List.getD_eq_getElem?_getD, e1], ?_⟩
    have e5 : as.getD j 0 = b := by rw [List.getD_eq_getElem?_getD, e1]; rfl
    show PairAt s.heap (as.getD j 0) k v
    rw [e5]
    exact .inl e2
  have tups : ∀ {as : List Addr} {kvs : List (Key × V)}, Paired (fun a kv => H a = some (.tup [kV kv.1, kv.2])) as kvs → ∀ b ∈ as, ∃ xs, H b = some (.tup xs) := by
    intro as kvs hp
    induction hp with
    | nil => intro b hb; cases hb
    | cons h _ ih =>
      intro b hb
      rcases List.mem_cons.mp hb with e | hb
      · rw [e]; exact ⟨_, h⟩
      · exact ih b hb
  refine PySem.call_update_pairs (knd := mixKind X.prog X.w) (acc := vs0) (kvs := prs) (PairArg.list a (as.map Value.ref).toArray (fun j => as.getD j 0) pv) (I.ok.hd hc) ⟨⟨o, n, e1, e2, e3, e4⟩, item⟩ (fun hm => ?_) ⟨by rw [l1, l2], fun i key v hr => ?_⟩ dd (by rw [← rel0.length, l2]; exact hz) fun h' tk hd' hk => ?_
  · rcases List.mem_cons.mp hm with e | hm
    · rw [e, ha] at hd; cases hd
    · obtain ⟨j, hj, e⟩ := List.mem_map.mp hm
      have hj : j < as.length := by rw [← l2]; exact List.mem_range.mp hj
      have e : as.getD j 0 = d := e
      obtain ⟨xs, hx⟩ := tups hp (as.getD j 0) (by rw [List.getD_eq_getElem?_getD, List.getElem?_eq_getElem hj]; exact List.getElem_mem hj)
      rw [e, hd] at hx
      cases hx
  · obtain ⟨b, k, _, _, e3, e4⟩ := hpv i key v hr
    exact ⟨k, e3, e4⟩
  · have hlen : (mergeK kvs0 kvs).length ≤ sizeLine := by
      refine Nat.le_trans (length_mergeK kvs kvs0) ?_
      rw [← Paired.length hp]
      exact hz
    exact ⟨.non, _, I.write (x := d) (e := d) (t' := tk) (by rw [hd]; exact True.intro) (.inl rfl) (fun b o hb e => hk b o hb (by simp) e) (let ⟨q, _, _, hq, _⟩ := hd'; ⟨q, hq⟩) (dk_new hlen hsys (KV.merge rel rel0) hd'), rfl, q⟩
def mUpd : D → List D → Option (D × D)
  | .dK ks ds, [.lst xs] => match pairsD xs with
    | none => none
    | some ps => if ks.length + xs.length ≤ szL then some (.non, .dK (mergeD ks ds ps).1 (mergeD ks ds ps).2) else none
  | _, _ => none
theorem mo_upd {K : PySem.W.Frag} {fa : Nat → Addr} : MtOk K fa mUpd rUpdP := by
  intro A ga H p c vs ds d c' Q hp own rep e hQ
  unfold mUpd at e
  split at e
  · rename_i ks ws xs
    split at e
    · cases e
    · rename_i ps ep
      split at e
      · rename_i hz
        cases e
        obtain ⟨kvs0, h1, e1, r1⟩ := own
        cases rep with
        | cons h q =>
          cases q
          cases h with
          | lst n q r =>
            obtain ⟨as, kvs, rfl, p1, p2⟩ := pairsD_ok ep r
            obtain ⟨m1, m2⟩ := mergeD_ok (kvs := kvs0) p2 r1
            rw [e1] at m1 m2
            have hl : kvs0.length + as.length ≤ sizeLine := by
              have h2 := r.length
              have h3 : kvs0.length = ks.length := by rw [← e1]; simp
              rw [List.length_map] at h2
              rw [szL_eq]; omega
            exact ⟨p, _, kvs0, as, kvs, rfl, rfl, h1, q, p1, hl, hQ _ _ (fun a h => upd_ne h) ⟨_, upd_same, m1, RepL.keep (kp_upd hp _) m2⟩ .non⟩
      · cases e
  · cases e

/-! ### list(range(n)) -/
def eLRng1 (m : Ev R) : Ev R := fun s => bd (m s) fun r s1 => match nowR r s1 with
  | some (.int n) => if n ≤ 16777216 ∧ -16777216 ≤ n then some (.ok (.fr (.lst (rngD 0 n.toNat))) s1) else none
  | _ => none
theorem rep_rng {K : PySem.W.Frag} {fa : Nat → Addr} {A : Addr → Prop} {ga : Nat → Option Addr} {H : Hp} (lo : Int) : ∀ l : List Nat, RepL K fa A ga H (l.map fun i => V.int (lo + (i : Nat))) (l.map fun (k : Nat) => D.int (lo + (k : Int)))
  | [] => .nil
  | i :: l => .cons (.int _) (rep_rng lo l)
section
variable {X : Cx} {fa ca : Nat → Addr} {E : XK} {m : Ev R} {a : Expr} {p p2 pos pos2 : Pos}
theorem xLRng1 (hm : X.mg "list" = none) (hm2 : X.mg "range" = none) (ha : PE X a (rdE X.K fa ca E m)) (hc : X.calm = true := by rfl) (hg : Gl X "list" := by rfl) (hg2 : Gl X "range" := by rfl) (hst : notStar a = true := by rfl) :
    PE X (.Call (.Name "list" p) [.Call (.Name "range" p2) [a] [] pos2] [] pos) (rdE X.K fa ca E (eLRng1 m)) := PE_imp (pe_listRg hc hg hm (prg_1 hg2 hm2 ha (star_of hst)) rfl) fun σ H Q h => by
  obtain ⟨av, ga, s, rel, h⟩ := h
  refine ⟨av, ga, s, rel, aft_mono (aft_bd h) (fun r1 s1 h1 fs v ga1 H1 p1 => ?_) fun _ _ z => z⟩
  split at h1
  · rename_i n e
    split at h1
    · rename_i hz
      have e2 : nowL [r1] s1 = some [.int n] := by simp [nowL, e]
      cases p1.now e2 with
      | cons w _ =>
        cases w.int'
        refine ⟨n, rfl, ⟨by omega, by omega, by omega, by omega, by omega⟩, fun q nq => ?_⟩
        have rel1 := p1.drop
        have e3 : rgV 0 n = (List.range n.toNat).map fun i => V.int (0 + (i : Nat)) := by unfold rgV; rw [Int.sub_zero]
        rw [e3]
        obtain ⟨gs, q2⟩ := rel1.newR (.list rel1.av_dom nq (rep_rng 0 (List.range n.toNat)))
        exact h1 _ _ _ _ (.after p1.st q2)
    · exact h1.elim
  · exact h1.elim
end
end Ev
end
section
set_option Elab.async false
set_option linter.all false
set_option maxRecDepth 100000
set_option maxHeartbeats 4000000
/-! Ev22: the list of ends of each edge: found = [[] for ..]; found[edge].append((at, corner)). -/
namespace Ev
open PySem PySem.Spec PyProof.Rows L2

abbrev Rows := List (List (Int × Int))
def pairD (p : Int × Int) : D := .tup [.int p.1, .int p.2]
def rowsD (rows : Rows) : List D := rows.map fun r => .lst (r.map pairD)
def addEnd (rows : Rows) (e : Nat) (p : Int × Int) : Rows := rows.set e (rows.getD e [] ++ [p])
def endsC (at_ : Int) : List D → Int → Rows → Option Rows
  | [], _, rows => some rows
  | .int e :: r, c, rows => if 0 ≤ e ∧ e.toNat < rows.length ∧ (rows.getD e.toNat []).length < szL then endsC at_ r (c + 1) (addEnd rows e.toNat (at_, c)) else none
  | _, _, _ => none
def endsL : List D → Int → Rows → Option Rows
  | [], _, rows => some rows
  | .tup cs :: r, a, rows => match endsC a cs 0 rows with
    | none => none
    | some rows => endsL r (a + 1) rows
  | _, _, _ => none
def f_ends : Fn := fun ds g => match ds with
  | [.tup cs] => if cs.length ≤ 4000000 then match endsL cs 0 (List.replicate (2 * cs.length) []) with
      | none => none
      | some rows => some (.ok (.lst (rowsD rows)) g)
    else none
  | _ => none
def PairAtH (H0 H : Hp) (u : V) (p : Int × Int) : Prop := ∃ t, u = V.ref t ∧ H t = some (.tup [.int p.1, .int p.2]) ∧ H0 t = none
structure RowsAt (H0 H : Hp) (D : Addr) (rs : List Addr) (rows : Rows) : Prop where
  ext : ∀ a o, H0 a = some o → H a = some o
  hD : H D = some (.lst (rs.map V.ref))
  nD : H0 D = none
  len : rs.length = rows.length
  nd : rs.Nodup
  row : ∀ (j : Nat) (r : Addr), rs[j]? = some r → H0 r = none ∧ r ≠ D ∧ ∃ us, H r = some (.lst us) ∧ Paired (PairAtH H0 H) us (rows.getD j [])
theorem paired_app {α β : Type} {R : α → β → Prop} : ∀ {xs : List α} {ys : List β} {us : List α} {vs : List β}, Paired R xs ys → Paired R us vs → Paired R (xs ++ us) (ys ++ vs)
  | _, _, _, _, .nil, q => q
  | _, _, _, _, .cons h t, q => .cons h (paired_app t q)
theorem pairs_mono {H0 H H' : Hp} (h : ∀ t x, H t = some (.tup x) → H' t = some (.tup x)) : ∀ {us : List V} {ps : List (Int × Int)}, Paired (PairAtH H0 H) us ps → Paired (PairAtH H0 H') us ps
  | _, _, .nil => .nil
  | _, _, .cons ⟨t, e, q, n⟩ r => .cons ⟨t, e, h _ _ q, n⟩ (pairs_mono h r)
theorem RowsAt.grow {H0 H H' : Hp} {D : Addr} {rs : List Addr} {rows : Rows} (R : RowsAt H0 H D rs rows) (e : ∀ a o, H a = some o → H' a = some o) : RowsAt H0 H' D rs rows :=
  ⟨fun a o h => e _ _ (R.ext a o h), e _ _ R.hD, R.nD, R.len, R.nd, fun j r h => by
    obtain ⟨h1, h2, us, h3, h4⟩ := R.row j r h
    exact ⟨h1, h2, us, e _ _ h3, pairs_mono (fun t x h => e _ _ h) h4⟩⟩
theorem RowsAt.add {H0 H : Hp} {D : Addr} {rs : List Addr} {rows : Rows} {e : Nat} {r T : Addr} {us : List V} {p : Int × Int} (R : RowsAt H0 H D rs rows) (he : rs[e]? = some r) (hr : H r = some (.lst us)) (hp : Paired (PairAtH H0 H) us (rows.getD e [])) (hT : H T = some (.tup [.int p.1, .int p.2])) (nT : H0 T = none) :
    RowsAt H0 (upd H r (.lst (us ++ [.ref T]))) D rs (addEnd rows e p) := by
  obtain ⟨r1, r2, _⟩ := R.row e r he
  have hel : e < rs.length := (List.getElem?_eq_some_iff.mp he).1
  have tk : ∀ t x, H t = some (.tup x) → upd H r (.lst (us ++ [.ref T])) t = some (.tup x) := fun t x h => by
    rw [upd_ne (fun z => by rw [z, hr] at h; cases h)]; exact h
  refine ⟨fun a o h => ?_, ?_, R.nD, by unfold addEnd; rw [List.length_set]; exact R.len, R.nd, fun j q hj => ?_⟩
  · rw [upd_ne (fun z => by rw [z, r1] at h; cases h)]; exact R.ext a o h
  · rw [upd_ne (Ne.symm r2)]; exact R.hD
  · obtain ⟨q1, q2, ws, q3, q4⟩ := R.row j q hj
    refine ⟨q1, q2, ?_⟩
    by_cases hje : j = e
    · subst hje
      rw [he] at hj
      cases hj
      refine ⟨_, upd_same, ?_⟩
      unfold addEnd
      rw [List.getD_eq_getElem?_getD, List.getElem?_set_self (by rw [← R.len]; exact hel), Option.getD_some]
      exact paired_app (pairs_mono tk hp) (.cons ⟨T, rfl, tk _ _ hT, nT⟩ .nil)
    · have hne : q ≠ r := fun z => by
        subst z
        have hjl := (List.getElem?_eq_some_iff.mp hj).1
        have e1 := (List.getElem?_eq_some_iff.mp hj).2
        have e2 := (List.getElem?_eq_some_iff.mp he).2
        exact hje ((List.getElem_inj R.nd).mp (e1.trans e2.symm))
      refine ⟨ws, by rw [upd_ne hne]; exact q3, ?_⟩
      unfold addEnd
      rw [List.getD_eq_getElem?_getD, List.getElem?_set_ne (Ne.symm hje), ← List.getD_eq_getElem?_getD]
      exact pairs_mono tk q4
theorem RowsAt.snoc {H0 H : Hp} {D p : Addr} {rs : List Addr} {rows : Rows} (R : RowsAt H0 H D rs rows) (hp : H p = none) : RowsAt H0 (upd (upd H p (.lst [])) D (.lst (rs.map V.ref ++ [.ref p]))) D (rs ++ [p]) (rows ++ [[]]) := by
  have pD : p ≠ D := fun z => by rw [z, R.hD] at hp; cases hp
  have p0 : H0 p = none := by
    cases z : H0 p with
    | none => rfl
    | some o => rw [R.ext _ _ z] at hp; cases hp
  have keep : ∀ b o, b ≠ D → H b = some o → upd (upd H p (.lst [])) D (.lst (rs.map V.ref ++ [.ref p])) b = some o := fun b o n h => by
    rw [upd_ne n, upd_ne (ne_of_none h hp)]; exact h
  have ps : ∀ r ∈ rs, r ≠ p := fun r hr z => by
    obtain ⟨j, hj, e⟩ := List.mem_iff_getElem.mp hr
    obtain ⟨_, _, us, q, _⟩ := R.row j r (by rw [List.getElem?_eq_getElem hj, e])
    rw [z, hp] at q; cases q
  refine ⟨fun a o h => keep a o (fun z => by rw [z, R.nD] at h; cases h) (R.ext a o h), by rw [upd_same, List.map_append]; rfl, R.nD, by rw [List.length_append, List.length_append, R.len]; rfl, ?_, fun j r hj => ?_⟩
  · rw [List.nodup_append]
    refine ⟨R.nd, by simp, fun a ha b hb => ?_⟩
    rw [List.mem_singleton.mp hb]
    exact ps a ha
  · by_cases hlt : j < rs.length
    · rw [List.getElem?_append_left hlt] at hj
      obtain ⟨q1, q2, us, q3, q4⟩ := R.row j r hj
      refine ⟨q1, q2, us, keep _ _ q2 q3, ?_⟩
      rw [List.getD_eq_getElem?_getD, List.getElem?_append_left (by rw [← R.len]; exact hlt), ← List.getD_eq_getElem?_getD]
      exact pairs_mono (fun t x h => keep t _ (fun z => by rw [z, R.hD] at h; cases h) h) q4
    · rw [List.getElem?_append_right (by omega)] at hj
      have ej : j = rs.length := by
        have := (List.getElem?_eq_some_iff.mp hj).1
        simp at this
        omega
      subst ej
      rw [Nat.sub_self] at hj
      cases hj
      refine ⟨p0, pD, [], by rw [upd_ne pD, upd_same], ?_⟩
      rw [R.len, List.getD_eq_getElem?_getD, List.getElem?_append_right (Nat.le_refl _), Nat.sub_self]
      exact .nil
theorem walk_enumT {K : PySem.W.Frag} {a : Addr} {xs : List V} : Walk (IteT K a) xs.length (fun H => SqT K H a xs) (YPair (fun i => some (.int (i : Nat))) (fun i => xs[i]?)) := by
  refine ⟨fun i _ hi q => ⟨xs, xs[i], q, by simp [hi]⟩, fun _ q => ⟨xs, q, Nat.le_refl _⟩, fun i H v H' _ q y => ?_⟩
  obtain ⟨T, x, h1, h2, h3, h4⟩ := y
  exact ⟨T, .int (i : Nat), x, h1, h2, h3, rfl, h4 xs q⟩

abbrev LenR (K : PySem.W.Frag) : List V → Hp → VK → Prop := fun xs H Q => ∃ x n, xs = [x] ∧ LenV K x H n ∧ Q (.int n) H
/-- the body's reading -/
def tEnds (K : PySem.W.Frag) : TS :=
  tSeq (tAsg (tLc (L2.iRng1 (tCons (tOp (rI CMul fun i j => .int (i * j)) (tC (.int 2)) (tCB (LenR K) (tCons (tVar 0) tNil))) tNil)) (gName 2) tYes (tLst tNil) [2]) (gName 1))
  (tSeq (tFor (iEnumA K (tCons (tVar 0) tNil)) (gTup K 2 (gCons (gName 3) (gCons (gName 4) gNil)))
    (tFor (iEnumA K (tCons (tVar 4) tNil)) (gTup K 2 (gCons (gName 5) (gCons (gName 2) gNil)))
      (tDrop (tBM K "list" rAppend (tOp (rIxL K) (tVar 1) (tVar 2)) (tCons (tTup (tCons (tVar 3) (tCons (tVar 5) tNil))) tNil)))))
  (tRet (tVar 1)))
section
variable {K : PySem.W.Frag} {fa ca : Nat → Addr}
theorem rows_rep {A : Addr → Prop} {ga : Nat → Option Addr} {H0 H : Hp} {D : Addr} {rs : List Addr} {rows : Rows} (R : RowsAt H0 H D rs rows) (hA : ∀ a, A a → H0 a ≠ none) : Rep K fa A ga H (.ref D) (.lst (rowsD rows)) := by
  have one : ∀ {us : List V} {ps : List (Int × Int)}, Paired (PairAtH H0 H) us ps → RepL K fa A ga H us (ps.map pairD) := by
    intro us ps h
    induction h with
    | nil => exact .nil
    | cons h _ ih =>
      obtain ⟨t, rfl, q, n⟩ := h
      exact .cons (.tup (fun z => hA t z n) q (.cons (.int _) (.cons (.int _) .nil))) ih
  refine .lst (fun z => hA D z R.nD) R.hD ?_
  have gen : ∀ (k : Nat), k ≤ rs.length → RepL K fa A ga H ((rs.drop (rs.length - k)).map V.ref) (rowsD (rows.drop (rs.length - k))) := by
    intro k
    induction k with
    | zero =>
      intro _
      rw [Nat.sub_zero, List.drop_length]
      rw [R.len, List.drop_length]
      exact .nil
    | succ k ih =>
      intro hk
      have h1 : rs.length - (k + 1) < rs.length := by omega
      have h2 : rs.length - (k + 1) < rows.length := by rw [← R.len]; exact h1
      rw [List.drop_eq_getElem_cons h1, List.drop_eq_getElem_cons h2]
      obtain ⟨q1, q2, us, q3, q4⟩ := R.row _ _ (List.getElem?_eq_getElem h1)
      have e : rs.length - (k + 1) + 1 = rs.length - k := by omega
      rw [e]
      refine .cons (.lst (fun z => hA _ z q1) q3 (one ?_)) (ih (by omega))
      rw [List.getD_eq_getElem?_getD, List.getElem?_eq_getElem h2] at q4
      exact q4
  have := gen rs.length (Nat.le_refl _)
  simpa using this
theorem GRel.ext {A : Addr → Prop} {ga : Nat → Option Addr} {H H' : Hp} {g : G} (r : GRel K fa A ga H g) (e : ∀ a o, H a = some o → H' a = some o) (dom : ∀ a, A a → H a ≠ none) : GRel K fa A ga H' g := by
  have kp : Kp A A ga ga H H' := ⟨fun a u _ _ _ q => q.elim (fun z => .inl (e _ _ z)) fun ⟨o, z⟩ => .inr ⟨o, e _ _ z⟩, fun a _ _ q => e _ _ q, fun a _ _ q => e _ _ q, fun a z => .inl z, fun _ _ e => e⟩
  exact ⟨fun k ds h => by obtain ⟨a, vs, h1, h2, h3⟩ := r.at_ k ds h; exact ⟨a, vs, h1, e _ _ h2, RepL.keep kp h3⟩, r.inj, r.few, r.tb.ext e⟩
theorem inner_ends {H0 : Hp} {D : Addr} {rs : List Addr} {a : Addr} {xs : List V} {es : List Ev.D} {at_ : Int} {A : Addr → Prop} {ga : Nat → Option Addr} (hx : H0 a = some (.tup xs)) (rx : RepL K fa A ga H0 xs es) {o0 o2 o5 : Option V} {rows rows1 : Rows} {De : Ends} {H : Hp} (R : RowsAt H0 H D rs rows) (hc : endsC at_ es 0 rows = some rows1)
    (hd : ∀ o2 o5 H', RowsAt H0 H' D rs rows1 → De.nx [o0, some (.ref D), o2, some (.int at_), some (.ref a), o5] H') :
    tFor (iEnumA K (tCons (tVar 4) tNil)) (gTup K 2 (gCons (gName 5) (gCons (gName 2) gNil)))
      (tDrop (tBM K "list" rAppend (tOp (rIxL K) (tVar 1) (tVar 2)) (tCons (tTup (tCons (tVar 3) (tCons (tVar 5) tNil))) tNil))) De [o0, some (.ref D), o2, some (.int at_), some (.ref a), o5] H := by
  have lx : xs.length = es.length := rx.length
  refine ⟨.ref a, rfl, a, xs, rfl, .inr ⟨.inl (.inl (R.ext _ _ hx)), ?_⟩⟩
  refine for_it walk_enumT (fun k σ H' => ∃ rows' o2' o5', σ = [o0, some (.ref D), o2', some (.int at_), some (.ref a), o5'] ∧ RowsAt H0 H' D rs rows' ∧ endsC at_ (es.drop k) (k : Int) rows' = some rows1) ⟨rows, o2, o5, rfl, R, by simpa using hc⟩ (fun i σ H' _ ⟨_, _, _, _, q, _⟩ => .inl (.inl (q.ext _ _ hx))) ?_ ?_
  · rintro i x σ H1 H2 hi ⟨rows', o2', o5', rfl, R', h'⟩ ⟨T, y1, y2, rfl, hT, rfl, e1, e2⟩
    have hie : i < es.length := by rw [← lx]; exact hi
    rw [List.drop_eq_getElem_cons hie] at h'
    cases e1
    obtain ⟨d, ed, rd⟩ := rx.getV e2
    have e3 : es[i] = d := by rw [List.getElem?_eq_getElem hie] at ed; exact Option.some.inj ed
    rw [e3] at h'
    have ext2 : ∀ b o, H1 b = some o → upd H1 T (.tup [.int (i : Nat), y2]) b = some o := fun b o h => by rw [upd_ne (ne_of_none h hT)]; exact h
    cases rd with
    | int e =>
      simp only [endsC] at h'
      split at h'
      · rename_i hz
        obtain ⟨z1, z2, z3⟩ := hz
        have R2 := R'.grow ext2
        have hlt : e.toNat < rs.length := by rw [R'.len]; exact z2
        obtain ⟨q1, q2, us, q3, q4⟩ := R2.row e.toNat rs[e.toNat] (List.getElem?_eq_getElem hlt)
        refine ⟨T, _, rfl, .inl (.inl upd_same), rfl, _, _, rfl, _, _, rfl, rfl, ?_⟩
        have hat : atI (rs.map V.ref) e = some (.ref rs[e.toNat]) := by
          unfold atI ixN
          rw [if_pos z1, List.length_map, if_pos (by omega)]
          show (rs.map V.ref)[e.toNat]? = _
          rw [List.getElem?_map, List.getElem?_eq_getElem hlt]
          rfl
        refine ⟨_, rfl, _, rfl, D, _, e, _, rfl, rfl, .inl (.inl R2.hD), hat, ?_⟩
        refine ⟨.inl ⟨rfl, us, .inl (.inl q3)⟩, _, rfl, _, rfl, by show 2 ≤ sizeLine; decide, fun T2 nT2 => ?_⟩
        have hl : us.length < sizeLine := by
          have := Paired.length q4
          rw [this, szL_eq]; exact z3
        have ext3 : ∀ b o, upd H1 T (.tup [.int (i : Nat), .int e]) b = some o → upd (upd H1 T (.tup [.int (i : Nat), .int e])) T2 (.tup [.int at_, .int (i : Nat)]) b = some o := fun b o h => by rw [upd_ne (ne_of_none h nT2)]; exact h
        have R3 := R2.grow ext3
        refine ⟨rs[e.toNat], us, _, rfl, rfl, ext3 _ _ q3, hl, ?_⟩
        have nT0 : H0 T2 = none := by
          cases z : H0 T2 with
          | none => rfl
          | some o => rw [R2.ext _ _ z] at nT2; cases nT2
        have R4 := R3.add (e := e.toNat) (T := T2) (p := (at_, (i : Int))) (List.getElem?_eq_getElem hlt) (ext3 _ _ q3) (pairs_mono (fun t x h => ext3 _ _ h) q4) upd_same nT0
        exact ⟨_, _, _, rfl, R4, by
          have : ((i : Int) + 1) = ((i + 1 : Nat) : Int) := by omega
          rw [← this]; exact h'⟩
      · cases h'
    | non => cases h'
    | bl => cases h'
    | str => cases h'
    | lst => cases h'
    | tup => cases h'
    | dK => cases h'
    | dT => cases h'
    | fn => cases h'
    | gref => cases h'
    | ktup => cases h'
  · rintro σ H' ⟨rows', o2', o5', rfl, R', h'⟩
    rw [lx, List.drop_length] at h'
    cases h'
    exact hd _ _ _ R'
theorem outer_ends {H0 : Hp} {D : Addr} {rs : List Addr} {a : Addr} {xs : List V} {cs : List Ev.D} {A : Addr → Prop} {ga : Nat → Option Addr} (hx : H0 a = some (.tup xs)) (rx : RepL K fa A ga H0 xs cs) {o2 o3 o4 o5 : Option V} {rows rows1 : Rows} {De : Ends} {H : Hp} (R : RowsAt H0 H D rs rows) (hc : endsL cs 0 rows = some rows1)
    (hd : ∀ o2 o3 o4 o5 H', RowsAt H0 H' D rs rows1 → De.nx [some (.ref a), some (.ref D), o2, o3, o4, o5] H') :
    tFor (iEnumA K (tCons (tVar 0) tNil)) (gTup K 2 (gCons (gName 3) (gCons (gName 4) gNil)))
      (tFor (iEnumA K (tCons (tVar 4) tNil)) (gTup K 2 (gCons (gName 5) (gCons (gName 2) gNil)))
        (tDrop (tBM K "list" rAppend (tOp (rIxL K) (tVar 1) (tVar 2)) (tCons (tTup (tCons (tVar 3) (tCons (tVar 5) tNil))) tNil)))) De [some (.ref a), some (.ref D), o2, o3, o4, o5] H := by
  have lx : xs.length = cs.length := rx.length
  refine ⟨.ref a, rfl, a, xs, rfl, .inr ⟨.inl (.inl (R.ext _ _ hx)), ?_⟩⟩
  refine for_it walk_enumT (fun k σ H' => ∃ rows' o2' o3' o4' o5', σ = [some (.ref a), some (.ref D), o2', o3', o4', o5'] ∧ RowsAt H0 H' D rs rows' ∧ endsL (cs.drop k) (k : Int) rows' = some rows1) ⟨rows, o2, o3, o4, o5, rfl, R, by simpa using hc⟩ (fun i σ H' _ ⟨_, _, _, _, _, _, q, _⟩ => .inl (.inl (q.ext _ _ hx))) ?_ ?_
  · rintro i x σ H1 H2 hi ⟨rows', o2', o3', o4', o5', rfl, R', h'⟩ ⟨T, y1, y2, rfl, hT, rfl, e1, e2⟩
    have hie : i < cs.length := by rw [← lx]; exact hi
    rw [List.drop_eq_getElem_cons hie] at h'
    cases e1
    obtain ⟨d, ed, rd⟩ := rx.getV e2
    have e3 : cs[i] = d := by rw [List.getElem?_eq_getElem hie] at ed; exact Option.some.inj ed
    rw [e3] at h'
    have ext2 : ∀ b o, H1 b = some o → upd H1 T (.tup [.int (i : Nat), y2]) b = some o := fun b o h => by rw [upd_ne (ne_of_none h hT)]; exact h
    cases rd with
    | @tup b ys es n q r =>
      simp only [endsL] at h'
      split at h'
      · cases h'
      · rename_i rows2 h2
        refine ⟨T, _, rfl, .inl (.inl upd_same), rfl, _, _, rfl, _, _, rfl, rfl, ?_⟩
        refine inner_ends (o0 := some (.ref a)) q r (R'.grow ext2) h2 fun o2 o5 H' R3 => ?_
        exact ⟨rows2, _, _, _, _, rfl, R3, by
          have : ((i : Int) + 1) = ((i + 1 : Nat) : Int) := by omega
          rw [← this]; exact h'⟩
    | non => cases h'
    | bl => cases h'
    | int => cases h'
    | str => cases h'
    | lst => cases h'
    | dK => cases h'
    | dT => cases h'
    | fn => cases h'
    | gref => cases h'
    | ktup => cases h'
  · rintro σ H' ⟨rows', o2', o3', o4', o5', rfl, R', h'⟩
    rw [lx, List.drop_length] at h'
    cases h'
    exact hd _ _ _ _ _ R'
theorem ends_reads {N : List Str} {vs : List V} {H : Hp} {Q : VK} {E : XK} (hN : N.length = 6) (h : spOf K fa ca 1 f_ends vs H Q E) : tEnds K { nx := fun _ H' => Q .non H', rt := Q } (L2.start N vs) H := by
  obtain ⟨hl, av, ga, g, ds, gr, rep, dom, sep, h⟩ := h
  have hAd : ∀ a, AvG av ga a → H a ≠ none := fun a z => by
    rcases z with z | ⟨k, z⟩
    · exact dom a z
    · have hk := gr.few k a z
      obtain ⟨a', us, e1, e2, _⟩ := gr.at_ k (g[k]) (by simp [hk])
      rw [z] at e1; cases e1
      rw [e2]; simp
  unfold f_ends at h
  split at h
  · exact h.elim
  · rename_i d g' hf
    split at hf
    · rename_i cs
      split at hf
      · rename_i hz
        split at hf
        · cases hf
        · rename_i rows hrows
          cases hf
          cases rep with
          | cons r0 rr =>
            cases rr
            cases r0 with
            | @tup a xs _ n hx rx =>
              have e0 : L2.start N [V.ref a] = [some (.ref a), none, none, none, none, none] := by
                unfold L2.start
                rw [hN]
                rfl
              rw [e0]
              have lx : xs.length = cs.length := rx.length
              have hn : ((cs.length : Nat) : Int) ≤ 16777216 := by omega
              -- found = [[] for ..]
              refine ⟨_, rfl, V.ref a, xs.length, rfl, .inr ⟨xs, .inl (.inl hx), rfl⟩, _, _, rfl, rfl, .inl ⟨by decide, by decide⟩, _, rfl, by omega, by omega, fun D hD => ?_⟩
              refine lc_it walk_range (fun k H' => ∃ rs : List Addr, RowsAt H H' D rs (List.replicate k [])) ⟨[], ⟨fun b o h => by rw [upd_ne (ne_of_none h hD)]; exact h, upd_same, hD, rfl, List.nodup_nil, fun j r h => by simp at h⟩⟩ (fun _ _ _ _ => trivial) ?_ ?_
              · rintro i x H1 H2 hi ⟨rs, R⟩ ⟨rfl, rfl⟩
                refine ⟨rfl, ?_⟩
                simp only [tYes, if_true]
                refine ⟨by simp, fun p hp => ?_⟩
                refine ⟨rs.map V.ref, ?_, ?_, rs ++ [p], ?_⟩
                · rw [upd_ne (ne_of_none R.hD hp)]; exact R.hD
                · rw [List.length_map, R.len, List.length_replicate, szL_eq]
                  have : i < (2 * (xs.length : Int)).toNat := hi
                  rw [lx] at this
                  show i < 16777216
                  omega
                · have := R.snoc hp
                  rwa [← List.replicate_succ'] at this
              · rintro H1 ⟨rs, R⟩
                have en : (2 * (xs.length : Int)).toNat = 2 * cs.length := by omega
                rw [en] at R
                show tSeq _ _ _ [some (.ref a), some (.ref D), none, none, none, none] H1
                refine outer_ends hx rx R hrows fun o2 o3 o4 o5 H' R' => ?_
                refine ⟨.ref D, rfl, ?_⟩
                have kp : Kp (AvG av ga) (AvG av ga) ga ga H H' := ⟨fun a u _ _ _ q => q.elim (fun z => .inl (R'.ext _ _ z)) fun ⟨o, z⟩ => .inr ⟨o, R'.ext _ _ z⟩, fun a _ _ q => R'.ext _ _ q, fun a _ _ q => R'.ext _ _ q, fun a z => .inl z, fun _ _ e => e⟩
                exact h _ ga H' (gr.ext R'.ext hAd) (rows_rep R' hAd) (.grow R'.ext)
      · cases hf
    · cases hf
  · rename_i x g' hf
    split at hf
    · split at hf
      · split at hf
        · cases hf
        · cases hf
      · cases hf
    · cases hf
end
section
variable {P : Program} {w : World} {K : PySem.W.Frag} {mg : Str → Option Value} {base : Heap} {fa ca : Nat → Addr}
theorem kn_raw {lvl k : Nat} {n : Str} {st : Stmt} {fd : FuncData} {N ps : List Str} {f : Fn} (F : Fun K n n st (fa k) fd) (hm : mg n = some (.ref (fa k))) (S : FnScope N ps (defScope st)) (hb : Binds K fd ps [])
    (body : ∀ (cdv : Value) (A : Around) (outer : List Env) (s : Shared) (H : Hp) (vs : List V) (Q : VK) (E : XK), Room lvl (A.deeper (envOfC n (defScope st) s.heap.objs.size (fa k) cdv)) → spOf K fa ca ps.length f vs H Q E →
      ∃ t, PSs (cxOf (L2N.CX P w) P w K mg base N n (defScope st) (fa k) cdv A outer s H E) (defBody st) t ∧ t { nx := fun _ H' => Q .non H', rt := Q } (L2.start N vs) H) :
    Kn P w K mg base fa ca (lvl + 1) k n ps f :=
  ⟨⟨fd, Fun_okN F S (fun vs H Q E h => h.1) fun cdv A outer s H vs Q E hr h => body cdv A outer s H vs Q E hr h, hb⟩, hm, F.kp⟩
end
end Ev
end
section
set_option Elab.async false
set_option linter.all false
set_option maxRecDepth 100000
set_option maxHeartbeats 4000000
/-! Ev23: a, b = x, y where a name is a cell: by a tuple that nothing keeps. -/
namespace Ev
open PySem PySem.Spec PyProof.Rows L2
section
variable {K : PySem.W.Frag} {fa ca : Nat → Addr} {av av' M M' A A' : Addr → Prop} {ga ga' ga1 ga2 : Nat → Option Addr} {σ σ' : L2.St} {H H' H1 H2 : Hp} {s s' s1 s2 : S} {fs gs : List Addr} {vs : List V} {rs : List R} {E : XK} {v : V} {res : R}
theorem Pst.mid (p : Pst K fa av ga σ H s ga' H' s' fs vs rs) (ext : ∀ a o, H' a = some o → H2 a = some o) : Mid K fa av ga σ H s ga' σ H2 s' fs vs rs := by
  have r := p.rel.grow (fs := []) ext (fun q hq => nomatch hq)
  rw [avU_nil] at r
  have kp : Kp (AvA (avU av fs) ga' σ s'.env) (AvA (avU av fs) ga' σ s'.env) ga' ga' H' H2 := ⟨fun a u _ _ _ q => q.elim (fun z => .inl (ext _ _ z)) fun ⟨o, z⟩ => .inr ⟨o, ext _ _ z⟩, fun a _ _ q => ext _ _ q, fun a _ _ q => ext _ _ q, fun a z => .inl z, fun _ _ e => e⟩
  refine ⟨r, p.rv.keep kp fun q hq => ?_, fun q z => (p.new q z).2, fun q z => (p.new q z).1, p.st.trans (.grow ext)⟩
  obtain ⟨d, o⟩ := p.rv.own q hq
  obtain ⟨u, hu, _⟩ := o.nt
  rw [hu]
  exact ext _ _ hu
end
section
variable {X : Cx} {fa ca : Nat → Addr} {E : XK} {ms : Ev (List R)} {a b c : Expr}
theorem xParT2 {i j : Nat} {x y : Str} {px py pt pos : Pos} {kt k2 pt2} (hc : X.calm = true) (gi : PG X (.Name x px) (gName i)) (gj : PG X (.Name y py) (gName j)) (ha : PA X [a, b] (rdA X.K fa ca E ms))
    (hs : swapsWithSole [.Tuple [.Name x px, .Name y py] kt pt] (.Tuple [a, b] k2 pt2) pos.line X.env = pure false := by rfl) (hw : swappedStores [.Tuple [.Name x px, .Name y py] kt pt] (.Tuple [a, b] k2 pt2) X.env = pure none := by rfl) :
    PS X (.Assign [.Tuple [.Name x px, .Name y py] kt pt] (.Tuple [a, b] k2 pt2) pos) (rdS X.K fa ca E (sPar2 i j ms)) := PS_imp (ps_asg (pe_tup ha) (pg_tup (n := 2) hc (pgs_cons gi (pgs_cons gj pgs_nil))) hs hw) fun De σ H h => by
  obtain ⟨av, ga, s, rel, h⟩ := h
  refine ⟨av, ga, s, rel, aft_mono (aft_bd h) (fun rs s1 h1 fs vs ga1 H1 p1 => ?_) fun _ _ z => z⟩
  split at h1
  · rename_i r1 r2 s2 e0
    obtain ⟨p2, np⟩ := p1.resL e0
    have hl := p2.rv.len
    match vs, hl with
    | [v, w], _ =>
      refine ⟨by show 2 ≤ sizeLine; decide, fun T hT => ?_⟩
      have m0 := p2.mid (H2 := upd H1 T (.tup [v, w])) fun a o h => by rw [upd_ne (ne_of_none h hT)]; exact h
      obtain ⟨s3, gs, e3, m3⟩ := m0.go (i := i) np
      obtain ⟨s4, hs, e4, m4⟩ := m3.go (i := j) fun q z => np q (List.mem_cons_of_mem _ z)
      simp only [e3, e4, bd] at h1
      exact ⟨T, _, rfl, .inl (.inl upd_same), rfl, _, _, rfl, _, _, rfl, rfl, h1 _ _ _ (m4.rel.sub fun a z => .inl z) m4.st⟩
  · exact h1.elim
theorem xParT3 {i j l : Nat} {x y z : Str} {px py pz pt pos : Pos} {kt k2 pt2} (hc : X.calm = true) (gi : PG X (.Name x px) (gName i)) (gj : PG X (.Name y py) (gName j)) (gl : PG X (.Name z pz) (gName l)) (ha : PA X [a, b, c] (rdA X.K fa ca E ms))
    (hs : swapsWithSole [.Tuple [.Name x px, .Name y py, .Name z pz] kt pt] (.Tuple [a, b, c] k2 pt2) pos.line X.env = pure false := by rfl) (hw : swappedStores [.Tuple [.Name x px, .Name y py, .Name z pz] kt pt] (.Tuple [a, b, c] k2 pt2) X.env = pure none := by rfl) :
    PS X (.Assign [.Tuple [.Name x px, .Name y py, .Name z pz] kt pt] (.Tuple [a, b, c] k2 pt2) pos) (rdS X.K fa ca E (sPar3 i j l ms)) := PS_imp (ps_asg (pe_tup ha) (pg_tup (n := 3) hc (pgs_cons gi (pgs_cons gj (pgs_cons gl pgs_nil)))) hs hw) fun De σ H h => by
  obtain ⟨av, ga, s, rel, h⟩ := h
  refine ⟨av, ga, s, rel, aft_mono (aft_bd h) (fun rs s1 h1 fs vs ga1 H1 p1 => ?_) fun _ _ z => z⟩
  split at h1
  · rename_i r1 r2 r3 s2 e0
    obtain ⟨p2, np⟩ := p1.resL e0
    have hl := p2.rv.len
    match vs, hl with
    | [u, v, w], _ =>
      refine ⟨by show 3 ≤ sizeLine; decide, fun T hT => ?_⟩
      have m0 := p2.mid (H2 := upd H1 T (.tup [u, v, w])) fun a o h => by rw [upd_ne (ne_of_none h hT)]; exact h
      obtain ⟨s3, gs, e3, m3⟩ := m0.go (i := i) np
      obtain ⟨s4, hs, e4, m4⟩ := m3.go (i := j) fun q z => np q (List.mem_cons_of_mem _ z)
      obtain ⟨s5, hs, e5, m5⟩ := m4.go (i := l) fun q z => np q (List.mem_cons_of_mem _ (List.mem_cons_of_mem _ z))
      simp only [e3, e4, e5, bd] at h1
      exact ⟨T, _, rfl, .inl (.inl upd_same), rfl, _, _, rfl, _, _, rfl, _, _, rfl, rfl, h1 _ _ _ (m5.rel.sub fun a z => .inl z) m5.st⟩
  · exact h1.elim
end
end Ev
end
section
set_option Elab.async false
set_option linter.all false
set_option maxRecDepth 100000
set_option maxHeartbeats 4000000
/-! Ev24: [.. for k in d ..], d a slot's own dict: its keys; from then on it stays. -/
namespace Ev
open PySem PySem.Spec PyProof.Rows L2
def kD : Key → D
  | .inl n => .int n
  | .inr x => .str x
def iCon (ds : List D) : Ev Src := fun s => some (.ok (.con ds) s)
def eCompK (i : Nat) (ws : List Nat) (tg : D → Ev Unit) (tt : Ev Bool) (te : Ev R) : Ev R := fun s => match s.env[i]? with
  | some (.ow (.dK ks ds)) => eComp ws (iCon (ks.map kD)) tg tt te ⟨s.env.set i (.fz (.dK ks ds)), s.g⟩
  | _ => none
section
variable {K : PySem.W.Frag} {fa ca : Nat → Addr} {av av' M M' A A' : Addr → Prop} {ga ga' ga1 ga2 : Nat → Option Addr} {σ σ' : L2.St} {H H' H1 H2 : Hp} {s s' s1 s2 : S} {fs gs : List Addr} {vs : List V} {rs : List R} {E : XK} {v : V} {res : R}
/-- the record of p, that no slot's own object is, is told in another way -/
theorem Rel.swap {p : Addr} {o1 o2 : HO} (r : Rel K fa av ga σ H s) (hp : H p = some o1) (nl : ∀ xs, o1 ≠ .lst xs) (nt : ∀ o : TupO, o1 ≠ o.ho) (ntb : ∀ ps, o1 ≠ .tbl ps) (nc : ∀ c x, o1 ≠ LamX.CodeO c x) (hn : ¬ OwA σ s.env p) (hr : ∀ u, (∀ o w, u ≠ .frz o w) → Rd H p u → Rd (upd H p o2) p u) : Rel K fa av ga σ (upd H p o2) s ∧ ∀ A, Kp A A ga ga H (upd H p o2) := by
  have same : ∀ a, a ≠ p → upd H p o2 a = H a := fun a h => upd_ne h
  have kp : ∀ A, Kp A A ga ga H (upd H p o2) := fun A => ⟨fun a u n _ nf q => by
      by_cases e : a = p
      · subst e; exact hr u nf q
      · rcases q with q | ⟨o, q⟩
        · exact .inl ((same a e).trans q)
        · exact .inr ⟨o, (same a e).trans q⟩, fun a xs n q => (same a fun e => by rw [e, hp] at q; exact nl xs (Option.some.inj q)).trans q, fun a o n q => (same a fun e => by rw [e, hp] at q; exact nt o (Option.some.inj q)).trans q, fun a z => .inl z, fun _ _ e => e⟩
  refine ⟨⟨r.len, fun j e z => ?_, fun j e z => ?_, r.inj, ⟨fun k ds e => ?_, r.gl.inj, r.gl.few, r.gl.tb.write hp ntb nc same⟩, fun a z => ?_, r.sep⟩, kp⟩
  · obtain ⟨w, q1, q2⟩ := r.fz j e z
    exact ⟨w, q1, Rep.keep (kp _) q2⟩
  · obtain ⟨w, q1, q2, q3, q4⟩ := r.ow j e z
    exact ⟨w, q1, q2.keep (kp _) (same w fun h => hn ⟨j, e, z, by rw [← h]; exact q1⟩), q3, q4⟩
  · obtain ⟨a, us, h1, h2, h3⟩ := r.gl.at_ k ds e
    exact ⟨a, us, h1, (same a fun h => by rw [h, hp] at h2; exact nl us (Option.some.inj h2)).trans h2, RepL.keep (kp _) h3⟩
  · by_cases e : a = p
    · subst e; rw [upd_same]; simp
    · rw [same a e]; exact r.dom a z
theorem con_keys {p : Addr} {od : Obj} {kvs : List (Key × V)} (nA : ¬ A p) (hp : H p = some (.frz od (.dK kvs))) : ConOk K fa (Itk p od kvs) A ga H ((kvs.map (·.1)).map kD) := fun A' ga' H1 kp same dom => by
  have h1 := same p _ nA hp (fun _ z => nomatch z)
  refine ⟨⟨h1, by simp⟩, fun i d e => ?_⟩
  rw [List.getElem?_map, List.getElem?_map] at e
  cases q : kvs[i]? with
  | none => rw [q] at e; cases e
  | some kv =>
    rw [q] at e
    cases e
    refine ⟨⟨h1, (List.getElem?_eq_some_iff.mp q).1⟩, fun x H2 y => ?_⟩
    obtain ⟨rfl, k, v, e1, rfl⟩ := y
    rw [q] at e1
    cases e1
    refine ⟨fun _ _ h => h, ?_⟩
    cases k with
    | inl n => exact .int n
    | inr x => exact .str x
end
section
variable {X : Cx} {fa ca : Nat → Addr} {E : XK} {me : Ev R} {mt : Ev Bool} {md : D → Ev Unit} {tg elt : Expr} {ifs : List Expr} {pos p0 : Pos}
theorem xCompK {scope : Scope} {own : List (Str × Nat)} {i : Nat} {n : Str} (hc : X.calm = true) (hN : X.N.Nodup) (hi : PE X (.Name n p0) (tVar i)) (ok : BlkOk X.N X.env.scope scope own) (hn : (own.map (·.2)).Nodup)
    (hg : ∀ (s : Shared) (H : Hp) (C : Addr) (cl : List (Str × Addr)) (fp : List Addr), PG (X.blk s H scope (compEnvC scope cl C X.env) fp) tg (rdGc X.K fa ca E0 (own.map (·.2)) md)) (ht : ∀ (s : Shared) (H : Hp) (C : Addr) (cl : List (Str × Addr)) (fp : List Addr), PTs (X.blk s H scope (compEnvC scope cl C X.env) fp) ifs (rdT X.K fa ca E0 mt))
    (he : ∀ (s : Shared) (H : Hp) (C : Addr) (cl : List (Str × Addr)) (fp : List Addr), PE (X.blk s H scope (compEnvC scope cl C X.env) fp) elt (rdE X.K fa ca E0 me)) (hs : ∀ x, foldedSetIterable (.Name n p0) X.env x = pure x := by intro _; rfl) :
    PE X (.ListComp elt [⟨tg, .Name n p0, ifs, 0⟩] scope pos) (rdE X.K fa ca E (eCompK i (own.map (·.2)) md mt me)) :=
  PE_imp (pe_lock (pe_lc hc hN (pi_keys hi) ok hg ht he hs)) fun σ H Q h => by
    obtain ⟨av, ga, s, rel, h⟩ := h
    unfold eCompK at h
    split at h
    · rename_i ks ds e0
      obtain ⟨p, p1, p2, p3, p4⟩ := rel.ow i _ e0
      obtain ⟨kvs, h1, h2, h3⟩ := p2
      obtain ⟨relF, v0, f1, f2⟩ := rel.freeze e0
      rw [p1] at f1
      cases f1
      have hlt : i < s.env.length := (List.getElem?_eq_some_iff.mp e0).1
      have nA : ¬ AvA av ga σ (s.env.set i (.fz (.dK ks ds))) p := by cases f2 with | dK n _ _ _ => exact n
      have nM : ¬ MuA ga σ (s.env.set i (.fz (.dK ks ds))) p := fun z => nA (.inr z)
      have nO : ¬ OwA σ (s.env.set i (.fz (.dK ks ds))) p := fun z => nM (.inr z)
      have pM : MuA ga σ s.env p := .inr ⟨i, _, e0, p1⟩
      have mF : ∀ a, MuA ga σ (s.env.set i (.fz (.dK ks ds))) a → MuA ga σ s.env a := fun a z => MuA_set_fz z
      refine ⟨p, .dK kvs, h1, True.intro, fun od => ?_⟩
      have same1 : ∀ a, a ≠ p → upd H p (.frz od (.dK kvs)) a = H a := fun a h => upd_ne h
      obtain ⟨relL, _⟩ := relF.swap (o2 := .frz od (.dK kvs)) h1 (fun _ z => nomatch z) (fun o z => by cases o <;> cases z) (fun _ z => nomatch z) (fun _ _ z => by unfold LamX.CodeO at z; cases z) nO (fun u nf q => by
        rcases q with q | ⟨o, q⟩
        · rw [h1] at q
          cases q
          exact .inr ⟨od, upd_same⟩
        · rw [h1] at q; cases q)
      have st1 : Stp (MuA ga σ s.env) (MuA ga σ (s.env.set i (.fz (.dK ks ds)))) ga ga H (upd H p (.frz od (.dK kvs))) := ⟨fun a o n e t => (same1 a fun z => n (by rw [z]; exact pM)).trans e, fun a e => by
        by_cases z : a = p
        · rw [z, upd_same]; simp
        · rw [same1 a z]; exact e, fun a z => .inl (mF a z), fun _ _ e => e⟩
      refine comp_main' (own.map (·.2)) hn (fun _ _ _ _ z => z) (fun _ _ _ z => z) (fun _ _ _ z => z) relL (fun R q => ?_) (aft_mono h (fun r s' k fs v ga' H' pst => ?_) fun _ _ z => z.sub st1 fun _ y => y)
      · have q : ∀ ga' H' J, Rel X.K fa av ga' σ H' _ → Stp _ _ ga ga' _ H' → SrcOk X.K fa J σ (AvA av ga' σ _) ga' H' (.con (ks.map kD)) → R J H' := q
        refine ⟨.ref p, p1, p, od, rfl, .inl ⟨kvs, upd_same, q _ _ _ relL .refl ?_⟩⟩
        have z := con_keys (K := X.K) (fa := fa) (ga := ga) (A := AvA av ga σ (s.env.set i (.fz (.dK ks ds)))) (H := upd H p (.frz od (.dK kvs))) nA upd_same
        rw [h2] at z
        exact z
      · have hf : H' p = some (.frz od (.dK kvs)) := pst.st.st p _ nM upd_same (fun _ z => nomatch z)
        refine ⟨hf, ?_⟩
        have nO2 : ¬ OwA σ s'.env p := fun z => (pst.st.mm p (.inr z)).elim nM fun y => by rw [upd_same] at y; cases y
        obtain ⟨relU, kpU⟩ := pst.rel.swap (o2 := .dK kvs) hf (fun _ z => nomatch z) (fun o z => by cases o <;> cases z) (fun _ z => nomatch z) (fun _ _ z => by unfold LamX.CodeO at z; cases z) nO2 (fun u nf q => by
          rcases q with q | ⟨o, q⟩
          · rw [hf] at q
            exact absurd (Option.some.inj q).symm (nf _ _)
          · rw [hf] at q
            cases q
            exact .inl upd_same)
        have newp : ∀ q ∈ fs, q ≠ p := fun q hq z => by
          have := (pst.new q hq).1
          rw [z, upd_same] at this
          cases this
        refine k fs v ga' _ ⟨relU, pst.rv.keep (kpU _) fun q hq => upd_ne (newp q hq), fun q hq => ⟨?_, (pst.new q hq).2⟩, ⟨fun a o n e t => ?_, fun a e => ?_, fun a z => ?_, pst.st.gr⟩⟩
        · have := (pst.new q hq).1
          rwa [same1 q (newp q hq)] at this
        · have hne : a ≠ p := fun z => n (by rw [z]; exact pM)
          rw [upd_ne hne]
          exact pst.st.st a o (fun z => n (mF a z)) ((same1 a hne).trans e) t
        · by_cases z : a = p
          · rw [z, upd_same]; simp
          · rw [upd_ne z]
            exact pst.st.dm a (by rw [same1 a z]; exact e)
        · rcases pst.st.mm a z with y | y
          · exact .inl (mF a y)
          · by_cases w : a = p
            · rw [w, upd_same] at y; cases y
            · rw [same1 a w] at y; exact .inr y
    · exact h.elim
end
end Ev
end
section
set_option Elab.async false
set_option linter.all false
set_option maxRecDepth 100000
set_option maxHeartbeats 4000000
/-! Ev25: a def that answers nothing (the start of a recursion); a def's promise from a quicker plain function. -/
namespace Ev
open PySem PySem.Spec PyProof.Rows L2
theorem atD_nat (xs : List D) (a : Nat) : atD xs (Int.ofNat a) = xs[a]? := by unfold atD; rw [if_pos (show (0 : Int) ≤ Int.ofNat a from Int.natCast_nonneg a)]; rfl
theorem sub_lst {xs : List D} {i : Int} {d : D} (h : atD xs i = some d) : dSub_ [.lst xs, .int i] = some (.fz d) := by
  show (match atD xs i with | none => none | some d => some (R.fz d)) = _
  rw [h]
theorem sub_tup {xs : List D} {i : Int} {d : D} (h : atD xs i = some d) : dSub_ [.tup xs, .int i] = some (.fz d) := by
  show (match atD xs i with | none => none | some d => some (R.fz d)) = _
  rw [h]
section
variable {P : Program} {w : World} {K : PySem.W.Frag} {mg : Str → Option Value} {base : Heap} {fa ca : Nat → Addr}
theorem kn_none {lvl k : Nat} {n : Str} {st : Stmt} {fd : FuncData} {N ps : List Str} (F : Fun K n n st (fa k) fd) (hm : mg n = some (.ref (fa k))) (S : FnScope N ps (defScope st)) (hb : Binds K fd ps []) : Kn P w K mg base fa ca (lvl + 1) k n ps (fun _ _ => none) :=
  kn_raw F hm S hb fun cdv A outer s H vs Q E hr h => by
    obtain ⟨_, _, _, _, _, _, _, _, _, h⟩ := h
    exact h.elim
/-- p answers only what f answers -/
def Le (p f : Fn) : Prop := ∀ ds g x, p ds g = some x → f ds g = some x
theorem Kn.le {lvl k : Nat} {n : Str} {ps : List Str} {p f : Fn} (h : Kn P w K mg base fa ca lvl k n ps f) (l : Le p f) : Kn P w K mg base fa ca lvl k n ps p := by
  obtain ⟨⟨fd, h1, h2⟩, h3, h4⟩ := h
  refine ⟨⟨fd, h1.imp fun vs H Q E q => ?_, h2⟩, h3, h4⟩
  obtain ⟨e, av, ga, g, ds, q1, q2, q3, q4, q5⟩ := q
  refine ⟨e, av, ga, g, ds, q1, q2, q3, q4, ?_⟩
  split at q5
  · exact q5.elim
  · rename_i e1; rw [l _ _ _ e1]; exact q5
  · rename_i e1; rw [l _ _ _ e1]; exact q5
end
end Ev
end
section
set_option Elab.async false
set_option linter.all false
set_option maxRecDepth 100000
set_option maxHeartbeats 4000000
/-! Ev26: loops and comprehensions told by plain states (for quick plain forms). -/
namespace Ev
open PySem PySem.Spec PyProof.Rows L2
section
variable {α β : Type}
/-- turns of a while loop: none, stuck; some none, the test is false -/
def runW (step : α → Option (Option α)) : Nat → α → Option α
  | 0, _ => none
  | n + 1, a => match step a with
    | none => none
    | some none => some a
    | some (some a') => runW step n a'
theorem whC_sim {c : Ev Bool} {tb : Ev Ct} {step : α → Option (Option α)} (Re : α → S → Prop)
    (h0 : ∀ a s, Re a s → step a = some none → ∃ s', c s = some (.ok false s') ∧ Re a s')
    (h1 : ∀ a a' s, Re a s → step a = some (some a') → ∃ s1 s2, c s = some (.ok true s1) ∧ tb s1 = some (.ok .nx s2) ∧ Re a' s2) :
    ∀ (n m : Nat) (a b : α) (s : S), n ≤ m → Re a s → runW step n a = some b → ∃ s', whC c tb m s = some (.ok .nx s') ∧ Re b s' := by
  intro n
  induction n with
  | zero => intro m a b s _ _ h; cases h
  | succ n ih =>
    intro m a b s hm r h
    match m, hm with
    | m + 1, hm =>
      simp only [runW] at h
      split at h
      · cases h
      · rename_i e
        cases h
        obtain ⟨s', q1, q2⟩ := h0 _ _ r e
        exact ⟨s', by simp [whC, q1, bd], q2⟩
      · rename_i a' e
        obtain ⟨s1, s2, q1, q2, q3⟩ := h1 _ _ _ r e
        obtain ⟨s', q4, q5⟩ := ih m a' b s2 (by omega) q3 h
        exact ⟨s', by simp only [whC, q1, bd, if_true, q2]; exact q4, q5⟩
def runF (step : β → α → Option α) : List β → α → Option α
  | [], a => some a
  | b :: bs, a => match step b a with
    | none => none
    | some a' => runF step bs a'
theorem forC_sim {tg : D → Ev Unit} {tb : Ev Ct} {step : β → α → Option α} {item : β → D} (Re : α → S → Prop)
    (h : ∀ b a a' s, Re a s → step b a = some a' → ∃ s1 s2, tg (item b) s = some (.ok () s1) ∧ tb s1 = some (.ok .nx s2) ∧ Re a' s2) :
    ∀ (bs : List β) (a a' : α) (s : S), Re a s → runF step bs a = some a' → ∃ s', forC tg tb (bs.map item) s = some (.ok .nx s') ∧ Re a' s' := by
  intro bs
  induction bs with
  | nil => intro a a' s r e; cases e; exact ⟨s, rfl, r⟩
  | cons b bs ih =>
    intro a a' s r e
    simp only [runF] at e
    split at e
    · cases e
    · rename_i a1 e1
      obtain ⟨s1, s2, q1, q2, q3⟩ := h _ _ _ _ r e1
      obtain ⟨s', q4, q5⟩ := ih _ _ _ q3 e
      exact ⟨s', by simp only [List.map_cons, forC, q1, bd, q2]; exact q4, q5⟩
/-- a comprehension over items; the state stays the same (env e0 behind each turn) -/
theorem compC_sim {vs : List Nat} {tg : D → Ev Unit} {tt : Ev Bool} {te : Ev R} {item : β → D} {keep : β → Bool} {val : β → D} {s0 : S}
    (h : ∀ b, ∃ s1 s2, tg (item b) s0 = some (.ok () s1) ∧ tt s1 = some (.ok (keep b) s2) ∧ (keep b = false → wipeS vs s2 = s0) ∧ (keep b = true → ∃ r s3 s4, te s2 = some (.ok r s3) ∧ esc r s3 = some (val b, s4) ∧ wipeS vs s4 = s0)) :
    ∀ (bs : List β) (k : Nat) (acc : List D), bs.length + k ≤ szL → compC vs tg tt te (bs.map item) k acc s0 = some (.ok (((bs.filter keep).map val).reverse ++ acc) s0) := by
  intro bs
  induction bs with
  | nil => intro k acc _; rfl
  | cons b bs ih =>
    intro k acc hk
    simp only [List.length_cons] at hk
    obtain ⟨s1, s2, q1, q2, q3, q4⟩ := h b
    cases e : keep b with
    | false =>
      rw [e] at q2
      simp only [List.map_cons, compC, q1, nxt, q2, Bool.false_eq_true, if_false, q3 e, List.filter_cons, e]
      exact ih _ _ (by omega)
    | true =>
      rw [e] at q2
      obtain ⟨r, s3, s4, q5, q6, q7⟩ := q4 e
      simp only [List.map_cons, compC, q1, nxt, q2, if_true, q5, q6, q7, List.filter_cons, e]
      rw [if_pos (by omega), ih _ _ (by omega)]
      simp
end
end Ev
end
section
set_option Elab.async false
set_option linter.all false
set_option maxRecDepth 100000
set_option maxHeartbeats 4000000
namespace W71
open PySem PySem.Spec PyProof.Rows L2 Ev
def top (i : Nat) : Stmt := PySem.Challenge.pw_cordscrossed_k71_whole_torus_cords.main.body.getD i (.Pass ⟨0, 0, 0, 0⟩)
/-- what the names of the module hold -/
structure Blt (K : PySem.W.Frag) (mg : Str → Option Value) (fa ca : Nat → Addr) : Prop where
  n_all : mg "all" = none
  n_bool : mg "bool" = none
  n_dict : mg "dict" = none
  n_enumerate : mg "enumerate" = none
  n_gcd : mg "gcd" = some (.builtin "math.gcd")
  n_int : mg "int" = none
  n_isinstance : mg "isinstance" = none
  n_len : mg "len" = none
  n_list : mg "list" = none
  n_max : mg "max" = none
  n_min : mg "min" = none
  n_range : mg "range" = none
  n_set : mg "set" = none
  n_sorted : mg "sorted" = none
  n_str : mg "str" = none
  n_sum : mg "sum" = none
  n_tuple : mg "tuple" = none
  n_zip : mg "zip" = none
  c_CROSSINGS : ∃ t, mg "CROSSINGS" = some (.int 40 t)
  c_GREAT : ∃ t, mg "GREAT" = some (.int 1000000000000000000000000000000000000000000000000000000000000 t)
  c_LONG : ∃ t, mg "LONG" = some (.int 400 t)
  c_POWER : ∃ t, mg "POWER" = some (.int 1000 t)
  c_RINGS : ∃ t, mg "RINGS" = some (.int 20 t)
  c_ROUNDS : ∃ t, mg "ROUNDS" = some (.int 40 t)
  c_STRANDS : ∃ t, mg "STRANDS" = some (.int 8 t)
  m_InvalidNumber : mg "InvalidNumber" = some (.ref (ca 1))
  k_InvalidNumber : PySem.W.keepIn K (.ref (ca 1)) = true
  q_InvalidNumber : PySem.W.excIn K (ca 1) [.type "ValueError", .type "Exception", .type "BaseException", .type "object"] "ValueError.__new__" = true
  s_InvalidNumber : PySem.W.subIn K (.ref (ca 1)) (.type "BaseException") = some true
  t_InvalidNumber : PySem.W.typeIn K (.ref (ca 1)) = some (.type "type")
  m_InvalidPicture : mg "InvalidPicture" = some (.ref (ca 3))
  k_InvalidPicture : PySem.W.keepIn K (.ref (ca 3)) = true
  q_InvalidPicture : PySem.W.excIn K (ca 3) [.type "ValueError", .type "Exception", .type "BaseException", .type "object"] "ValueError.__new__" = true
  s_InvalidPicture : PySem.W.subIn K (.ref (ca 3)) (.type "BaseException") = some true
  t_InvalidPicture : PySem.W.typeIn K (.ref (ca 3)) = some (.type "type")
  m_InvalidRow : mg "InvalidRow" = some (.ref (ca 4))
  k_InvalidRow : PySem.W.keepIn K (.ref (ca 4)) = true
  q_InvalidRow : PySem.W.excIn K (ca 4) [.type "ValueError", .type "Exception", .type "BaseException", .type "object"] "ValueError.__new__" = true
  s_InvalidRow : PySem.W.subIn K (.ref (ca 4)) (.type "BaseException") = some true
  t_InvalidRow : PySem.W.typeIn K (.ref (ca 4)) = some (.type "type")
  m_InvalidSum : mg "InvalidSum" = some (.ref (ca 2))
  k_InvalidSum : PySem.W.keepIn K (.ref (ca 2)) = true
  q_InvalidSum : PySem.W.excIn K (ca 2) [.type "ValueError", .type "Exception", .type "BaseException", .type "object"] "ValueError.__new__" = true
  s_InvalidSum : PySem.W.subIn K (.ref (ca 2)) (.type "BaseException") = some true
  t_InvalidSum : PySem.W.typeIn K (.ref (ca 2)) = some (.type "type")
  m_NotFound : mg "NotFound" = some (.ref (ca 5))
  k_NotFound : PySem.W.keepIn K (.ref (ca 5)) = true
  q_NotFound : PySem.W.excIn K (ca 5) [.type "ValueError", .type "Exception", .type "BaseException", .type "object"] "ValueError.__new__" = true
  s_NotFound : PySem.W.subIn K (.ref (ca 5)) (.type "BaseException") = some true
  t_NotFound : PySem.W.typeIn K (.ref (ca 5)) = some (.type "type")
  m_NotNow : mg "NotNow" = some (.ref (ca 6))
  k_NotNow : PySem.W.keepIn K (.ref (ca 6)) = true
  q_NotNow : PySem.W.excIn K (ca 6) [.type "ValueError", .type "Exception", .type "BaseException", .type "object"] "ValueError.__new__" = true
  s_NotNow : PySem.W.subIn K (.ref (ca 6)) (.type "BaseException") = some true
  t_NotNow : PySem.W.typeIn K (.ref (ca 6)) = some (.type "type")
section
variable {P : Program} {w : World} {K : PySem.W.Frag} {mg : Str → Option Value} {base : Heap} {fa ca : Nat → Addr}
/-! ### is_whole -/
def b_is_whole : Ev Ct := (sRet (eAnd (eOp1 (dIsi "int") (eVar 0)) (eAnd (eNot (eOp1 (dIsi "bool") (eVar 0))) (eChain dLe dLe (eVar 1) (eVar 0) (eVar 2)))))
def f_is_whole : Fn := runB 3 b_is_whole
theorem sc_is_whole : FnScope (["value", "low", "high"] : List Str) ["value", "low", "high"] (defScope (top 10)) := ⟨rfl, rfl, rfl, by decide +kernel, rfl, by decide +kernel, by decide +kernel⟩
theorem ok_is_whole {fd : FuncData} (B : Blt K mg fa ca) (F : Fun K "is_whole" "is_whole" (top 10) (fa 0) fd) (hm : mg "is_whole" = some (.ref (fa 0))) (hb : Binds K fd ["value", "low", "high"] [])  : Kn P w K mg base fa ca 1 0 "is_whole" ["value", "low", "high"] f_is_whole :=
  kn_of (lvl := 0) (N := ["value", "low", "high"]) (b := b_is_whole) F hm sc_is_whole hb fun cdv A outer s H E hr => by
    have S := sc_is_whole
    have hu := hr.units
    have tk : L2N.Takes (cxOf (L2N.CX P w) P w K mg base ["value", "low", "high"] "is_whole" (defScope (top 10)) (fa 0) cdv A outer s H E) (fun cls d _ H => E cls d H) := L2N.takes_of rfl rfl rfl rfl
    have hx : Passes (L2N.CX P w) (cxOf (L2N.CX P w) P w K mg base ["value", "low", "high"] "is_whole" (defScope (top 10)) (fa 0) cdv A outer s H E) E := L2N.passes_call tk fun _ _ _ _ h => h
    have hp : PassesOwn (model P w) (cxOf (L2N.CX P w) P w K mg base ["value", "low", "high"] "is_whole" (defScope (top 10)) (fa 0) cdv A outer s H E).A (cxOf (L2N.CX P w) P w K mg base ["value", "low", "high"] "is_whole" (defScope (top 10)) (fa 0) cdv A outer s H E).env (cxOf (L2N.CX P w) P w K mg base ["value", "low", "high"] "is_whole" (defScope (top 10)) (fa 0) cdv A outer s H E).xe := passes_of rfl
    exact (xLast (xRet (xAnd (xIsi (T := "int") (by decide) PyProof.Rows.boot_int (by rfl) B.n_isinstance (by rfl) B.n_int (xVar 0)) (xAnd (xNot (xIsi (T := "bool") (by decide) PyProof.Rows.boot_bool (by rfl) B.n_isinstance (by rfl) B.n_bool (xVar 0))) (xOne (xChain op_le op_le ok_le ok_le (xVar 1) (xVar 0) (xVar 2)))))))
/-! ### need_whole -/
def b_need_whole : Ev Ct := (sIf (tNotM (tTru (eCall 3 f_is_whole (aCons (eVar 0) (aCons (eVar 1) (aCons (eVar 2) aNil)))))) (sRaise 1) sNil)
def f_need_whole : Fn := runB 3 b_need_whole
theorem sc_need_whole : FnScope (["value", "low", "high"] : List Str) ["value", "low", "high"] (defScope (top 11)) := ⟨rfl, rfl, rfl, by decide +kernel, rfl, by decide +kernel, by decide +kernel⟩
theorem ok_need_whole {fd : FuncData} (B : Blt K mg fa ca) (F : Fun K "need_whole" "need_whole" (top 11) (fa 1) fd) (hm : mg "need_whole" = some (.ref (fa 1))) (hb : Binds K fd ["value", "low", "high"] []) (K_is_whole : Kn P w K mg base fa ca 1 0 "is_whole" ["value", "low", "high"] f_is_whole) : Kn P w K mg base fa ca 2 1 "need_whole" ["value", "low", "high"] f_need_whole :=
  kn_of (lvl := 1) (N := ["value", "low", "high"]) (b := b_need_whole) F hm sc_need_whole hb fun cdv A outer s H E hr => by
    have S := sc_need_whole
    have hu := hr.units
    have tk : L2N.Takes (cxOf (L2N.CX P w) P w K mg base ["value", "low", "high"] "need_whole" (defScope (top 11)) (fa 1) cdv A outer s H E) (fun cls d _ H => E cls d H) := L2N.takes_of rfl rfl rfl rfl
    have hx : Passes (L2N.CX P w) (cxOf (L2N.CX P w) P w K mg base ["value", "low", "high"] "need_whole" (defScope (top 11)) (fa 1) cdv A outer s H E) E := L2N.passes_call tk fun _ _ _ _ h => h
    have hp : PassesOwn (model P w) (cxOf (L2N.CX P w) P w K mg base ["value", "low", "high"] "need_whole" (defScope (top 11)) (fa 1) cdv A outer s H E).A (cxOf (L2N.CX P w) P w K mg base ["value", "low", "high"] "need_whole" (defScope (top 11)) (fa 1) cdv A outer s H E).env (cxOf (L2N.CX P w) P w K mg base ["value", "low", "high"] "need_whole" (defScope (top 11)) (fa 1) cdv A outer s H E).xe := passes_of rfl
    exact (xLast (xSIf (xtNot (xtTru (xCallK (ps := [("value" : Str), ("low" : Str), ("high" : Str)]) K_is_whole (hr.mono (by decide)) hx (xaCons (xVar 0) (xaCons (xVar 1) (xaCons (xVar 2) xaNil)))))) (xLast (xRaise rfl tk PySem.F.excBase_ValueError B.q_InvalidNumber B.m_InvalidNumber B.k_InvalidNumber (raises_own B.s_InvalidNumber B.t_InvalidNumber) rfl)) xNil))
/-! ### is_tuple_of -/
def b_is_tuple_of : Ev Ct := (sRet (eAnd (eOp1 (dIsi "tuple") (eVar 0)) (eChain dLe dLe (eVar 1) (eOpL dLenA (aCons (eVar 0) aNil)) (eVar 2))))
def f_is_tuple_of : Fn := runB 3 b_is_tuple_of
theorem sc_is_tuple_of : FnScope (["value", "low", "high"] : List Str) ["value", "low", "high"] (defScope (top 12)) := ⟨rfl, rfl, rfl, by decide +kernel, rfl, by decide +kernel, by decide +kernel⟩
theorem ok_is_tuple_of {fd : FuncData} (B : Blt K mg fa ca) (F : Fun K "is_tuple_of" "is_tuple_of" (top 12) (fa 2) fd) (hm : mg "is_tuple_of" = some (.ref (fa 2))) (hb : Binds K fd ["value", "low", "high"] [])  : Kn P w K mg base fa ca 1 2 "is_tuple_of" ["value", "low", "high"] f_is_tuple_of :=
  kn_of (lvl := 0) (N := ["value", "low", "high"]) (b := b_is_tuple_of) F hm sc_is_tuple_of hb fun cdv A outer s H E hr => by
    have S := sc_is_tuple_of
    have hu := hr.units
    have tk : L2N.Takes (cxOf (L2N.CX P w) P w K mg base ["value", "low", "high"] "is_tuple_of" (defScope (top 12)) (fa 2) cdv A outer s H E) (fun cls d _ H => E cls d H) := L2N.takes_of rfl rfl rfl rfl
    have hx : Passes (L2N.CX P w) (cxOf (L2N.CX P w) P w K mg base ["value", "low", "high"] "is_tuple_of" (defScope (top 12)) (fa 2) cdv A outer s H E) E := L2N.passes_call tk fun _ _ _ _ h => h
    have hp : PassesOwn (model P w) (cxOf (L2N.CX P w) P w K mg base ["value", "low", "high"] "is_tuple_of" (defScope (top 12)) (fa 2) cdv A outer s H E).A (cxOf (L2N.CX P w) P w K mg base ["value", "low", "high"] "is_tuple_of" (defScope (top 12)) (fa 2) cdv A outer s H E).env (cxOf (L2N.CX P w) P w K mg base ["value", "low", "high"] "is_tuple_of" (defScope (top 12)) (fa 2) cdv A outer s H E).xe := passes_of rfl
    exact (xLast (xRet (xAnd (xIsi (T := "tuple") (by decide) PyProof.Rows.boot_tuple (by rfl) B.n_isinstance (by rfl) B.n_tuple (xVar 0)) (xOne (xChain op_le op_le ok_le ok_le (xVar 1) (xB call_lenA ok_lenA (by rfl) B.n_len PySem.boot_len (xaCons (xVar 0) xaNil)) (xVar 2))))))
/-! ### is_crossing_of -/
def b_is_crossing_of : Ev Ct := (sRet (eAnd (eCall 3 f_is_tuple_of (aCons (eVar 0) (aCons (eVal (.int 4)) (aCons (eVal (.int 4)) aNil)))) (eOpL dAll (aCons (eComp [2] (iSeq (eVar 0)) (stD 2) tYesM (eCall 3 f_is_whole (aCons (eVar 2) (aCons (eVal (.int 0)) (aCons (eOp2 dSub (eVar 1) (eVal (.int 1))) aNil))))) aNil))))
def f_is_crossing_of : Fn := runB 3 b_is_crossing_of
theorem sc_is_crossing_of : FnScope (["value", "edges", "edge"] : List Str) ["value", "edges"] (defScope (top 16)) := ⟨rfl, rfl, rfl, by decide +kernel, rfl, by decide +kernel, by decide +kernel⟩
theorem ok_is_crossing_of {fd : FuncData} (B : Blt K mg fa ca) (F : Fun K "is_crossing_of" "is_crossing_of" (top 16) (fa 3) fd) (hm : mg "is_crossing_of" = some (.ref (fa 3))) (hb : Binds K fd ["value", "edges"] []) (K_is_tuple_of : Kn P w K mg base fa ca 1 2 "is_tuple_of" ["value", "low", "high"] f_is_tuple_of) (K_is_whole : Kn P w K mg base fa ca 1 0 "is_whole" ["value", "low", "high"] f_is_whole) : Kn P w K mg base fa ca 2 3 "is_crossing_of" ["value", "edges"] f_is_crossing_of :=
  kn_of (lvl := 1) (N := ["value", "edges", "edge"]) (b := b_is_crossing_of) F hm sc_is_crossing_of hb fun cdv A outer s H E hr => by
    have S := sc_is_crossing_of
    have hu := hr.units
    have tk : L2N.Takes (cxOf (L2N.CX P w) P w K mg base ["value", "edges", "edge"] "is_crossing_of" (defScope (top 16)) (fa 3) cdv A outer s H E) (fun cls d _ H => E cls d H) := L2N.takes_of rfl rfl rfl rfl
    have hx : Passes (L2N.CX P w) (cxOf (L2N.CX P w) P w K mg base ["value", "edges", "edge"] "is_crossing_of" (defScope (top 16)) (fa 3) cdv A outer s H E) E := L2N.passes_call tk fun _ _ _ _ h => h
    have hp : PassesOwn (model P w) (cxOf (L2N.CX P w) P w K mg base ["value", "edges", "edge"] "is_crossing_of" (defScope (top 16)) (fa 3) cdv A outer s H E).A (cxOf (L2N.CX P w) P w K mg base ["value", "edges", "edge"] "is_crossing_of" (defScope (top 16)) (fa 3) cdv A outer s H E).env (cxOf (L2N.CX P w) P w K mg base ["value", "edges", "edge"] "is_crossing_of" (defScope (top 16)) (fa 3) cdv A outer s H E).xe := passes_of rfl
    exact (xLast (xRet (xAnd (xCallK (ps := [("value" : Str), ("low" : Str), ("high" : Str)]) K_is_tuple_of (hr.mono (by decide)) hx (xaCons (xVar 0) (xaCons xInt (xaCons xInt xaNil)))) (xOne (xB (cr_all rfl) ok_all (by rfl) B.n_all boot_all (xaCons (xComp (own := [(("edge" : Str), 2)]) rfl S.nd (xiSeq (xVar 0)) (blkOk_by (N := [("value" : Str), ("edges" : Str), ("edge" : Str)]) (sc := defScope (top 16)) (by decide +kernel)) (by decide) (fun _ _ _ _ _ => (xcName (pg_name (i := 2) S.nd rfl (by first | exact Or.inl rfl | exact Or.inr rfl)) (by decide))) (fun _ _ _ _ _ => xpNil) (fun _ _ _ _ _ => (xCallK (ps := [("value" : Str), ("low" : Str), ("high" : Str)]) K_is_whole (hr.mono (by decide)) passN (xaCons (xVar 2) (xaCons xInt (xaCons (xBin op_sub ok_sub (xVar 1) xInt) xaNil)))))) xaNil))))))
/-! ### ends_of -/
def f_ends_of : Fn := f_ends
theorem sc_ends_of : FnScope (["crossings", "found", "edge", "at", "crossing", "corner"] : List Str) ["crossings"] (defScope (top 17)) := ⟨rfl, rfl, rfl, by decide +kernel, rfl, by decide +kernel, by decide +kernel⟩
theorem ok_ends_of {fd : FuncData} (B : Blt K mg fa ca) (F : Fun K "ends_of" "ends_of" (top 17) (fa 4) fd) (hm : mg "ends_of" = some (.ref (fa 4))) (hb : Binds K fd ["crossings"] []) : Kn P w K mg base fa ca 1 4 "ends_of" ["crossings"] f_ends_of :=
  kn_raw (lvl := 0) (N := ["crossings", "found", "edge", "at", "crossing", "corner"]) F hm sc_ends_of hb fun cdv A outer s H vs Q E hr h => by
    have S := sc_ends_of
    have hp : PassesOwn (model P w) (cxOf (L2N.CX P w) P w K mg base ["crossings", "found", "edge", "at", "crossing", "corner"] "ends_of" (defScope (top 17)) (fa 4) cdv A outer s H E).A (cxOf (L2N.CX P w) P w K mg base ["crossings", "found", "edge", "at", "crossing", "corner"] "ends_of" (defScope (top 17)) (fa 4) cdv A outer s H E).env (cxOf (L2N.CX P w) P w K mg base ["crossings", "found", "edge", "at", "crossing", "corner"] "ends_of" (defScope (top 17)) (fa 4) cdv A outer s H E).xe := passes_of rfl
    refine ⟨tEnds K, pss_cons (ps_setLc (own := [(("edge" : Str), 2)]) rfl S.nd (i := 1) rfl rfl (sw_true rfl rfl rfl rfl) (pi_range1 rfl B.n_range (pa_cons (pe_op op_mul pe_int (pe_callB call_len rfl B.n_len PySem.boot_len (pa_cons (pv 0) pa_nil))) pa_nil)) (blkOk_by (N := ["crossings", "found", "edge", "at", "crossing", "corner"]) (sc := defScope (top 17)) (by decide +kernel)) (fun _ _ _ _ _ => (pg_name (i := 2) S.nd rfl (by first | exact Or.inl rfl | exact Or.inr rfl))) (fun _ _ _ _ _ => pts_nil) (fun _ _ _ _ _ => pe_lst pa_nil))
      (pss_cons (ps_for hp rfl (pi_enumA rfl B.n_enumerate (pa_cons (pv 0) pa_nil)) (pg_tup rfl (pgs_cons (pg_name (i := 3) S.nd rfl (by first | exact Or.inl rfl | exact Or.inr rfl)) (pgs_cons (pg_name (i := 4) S.nd rfl (by first | exact Or.inl rfl | exact Or.inr rfl)) pgs_nil))) (pss_one (ps_for hp rfl (pi_enumA rfl B.n_enumerate (pa_cons (pv 4) pa_nil)) (pg_tup rfl (pgs_cons (pg_name (i := 5) S.nd rfl (by first | exact Or.inl rfl | exact Or.inr rfl)) (pgs_cons (pg_name (i := 2) S.nd rfl (by first | exact Or.inl rfl | exact Or.inr rfl)) pgs_nil))) (pss_one (ps_expr (pe_bm PySem.F.plainAttrs_list PySem.F.slot_list_append PySem.F.type_list_append mt_append (pe_ix ix_list (pv 1) (pv 2) (by exact fun _ _ => rfl)) (pa_cons (pe_tup (pa_cons (pv 3) (pa_cons (pv 5) pa_nil))) pa_nil)))))))
      (pss_one (ps_ret (pv 1)))), ends_reads rfl h⟩
/-! ### other_end -/
def b_other_end : Ev Ct := (sSeq (sAsg (eOp2 dSub_ (eVar 0) (eOp2 dSub_ (eOp2 dSub_ (eVar 1) (eOp2 dSub_ (eVar 2) (eVal (.int 0)))) (eOp2 dSub_ (eVar 2) (eVal (.int 1))))) (stR 3))
  (sRet (eIf (tBool (eOp2 dEq (eOp2 dSub_ (eVar 3) (eVal (.int 0))) (eVar 2))) (eOp2 dSub_ (eVar 3) (eVal (.int 1))) (eOp2 dSub_ (eVar 3) (eVal (.int 0))))))
def f_other_end : Fn := runB 4 b_other_end
theorem sc_other_end : FnScope (["ends", "crossings", "end", "pair"] : List Str) ["ends", "crossings", "end"] (defScope (top 18)) := ⟨rfl, rfl, rfl, by decide +kernel, rfl, by decide +kernel, by decide +kernel⟩
theorem ok_other_end {fd : FuncData} (B : Blt K mg fa ca) (F : Fun K "other_end" "other_end" (top 18) (fa 5) fd) (hm : mg "other_end" = some (.ref (fa 5))) (hb : Binds K fd ["ends", "crossings", "end"] [])  : Kn P w K mg base fa ca 1 5 "other_end" ["ends", "crossings", "end"] f_other_end :=
  kn_of (lvl := 0) (N := ["ends", "crossings", "end", "pair"]) (b := b_other_end) F hm sc_other_end hb fun cdv A outer s H E hr => by
    have S := sc_other_end
    have hu := hr.units
    have tk : L2N.Takes (cxOf (L2N.CX P w) P w K mg base ["ends", "crossings", "end", "pair"] "other_end" (defScope (top 18)) (fa 5) cdv A outer s H E) (fun cls d _ H => E cls d H) := L2N.takes_of rfl rfl rfl rfl
    have hx : Passes (L2N.CX P w) (cxOf (L2N.CX P w) P w K mg base ["ends", "crossings", "end", "pair"] "other_end" (defScope (top 18)) (fa 5) cdv A outer s H E) E := L2N.passes_call tk fun _ _ _ _ h => h
    have hp : PassesOwn (model P w) (cxOf (L2N.CX P w) P w K mg base ["ends", "crossings", "end", "pair"] "other_end" (defScope (top 18)) (fa 5) cdv A outer s H E).A (cxOf (L2N.CX P w) P w K mg base ["ends", "crossings", "end", "pair"] "other_end" (defScope (top 18)) (fa 5) cdv A outer s H E).env (cxOf (L2N.CX P w) P w K mg base ["ends", "crossings", "end", "pair"] "other_end" (defScope (top 18)) (fa 5) cdv A outer s H E).xe := passes_of rfl
    exact (xCons (xAsg (xIx hu (xVar 0) (xIx hu (xIx hu (xVar 1) (xIx hu (xVar 2) xInt)) (xIx hu (xVar 2) xInt))) (xgName (pg_name (i := 3) S.nd rfl (by first | exact Or.inl rfl | exact Or.inr rfl))))
  (xLast (xRet (xIf (xtCmp (op_eqP hu) ok_eq (xIx hu (xVar 3) xInt) (xVar 2) rfl) (xIx hu (xVar 3) xInt) (xIx hu (xVar 3) xInt)))))
/-! ### face_list -/
def b_face_list : Ev Ct := (sSeq (sPar3 1 2 3 (aCons (eCall 1 f_ends_of (aCons (eVar 0) aNil)) (aCons (eNew (.dT [] [])) (aCons (eLst aNil) aNil))))
  (sSeq (sFor (iRng1 (aCons (eOpL dLenA (aCons (eVar 0) aNil)) aNil)) (stD 4) (sFor (iRng1 (aCons (eVal (.int 4)) aNil)) (stD 5) (sIf (tBool (eOp2 (dIn true) (eTup (aCons (eVar 4) (aCons (eVar 5) aNil))) (eVar 2))) (sSeq (sPar2 6 7 (aCons (eLst aNil) (aCons (eTup (aCons (eVar 4) (aCons (eVar 5) aNil))) aNil)))
  (sSeq (sWh 100000 (tBool (eOp2 (dIn true) (eVar 7) (eVar 2))) (sSeq (sAsg (eVal (.bl true)) (tgD (tgS 2 (eVar 7))))
  (sSeq (sExpr (eMet true 6 mAppend (aCons (eVar 7) aNil)))
  (sSeq (sAsg (eCall 3 f_other_end (aCons (eVar 1) (aCons (eVar 0) (aCons (eVar 7) aNil)))) (stR 8))
  (sAsg (eTup (aCons (eOp2 dSub_ (eVar 8) (eVal (.int 0))) (aCons (eOp2 dMod (eOp2 dAdd (eOp2 dSub_ (eVar 8) (eVal (.int 1))) (eVal (.int 3))) (eVal (.int 4))) aNil))) (stR 7))))))
  (sExpr (eMet true 3 mAppend (aCons (eVar 6) aNil))))) sNil)))
  (sRet (eVar 3))))
def f_face_list : Fn := runB 9 b_face_list
theorem sc_face_list : FnScope (["crossings", "ends", "seen", "found", "at", "corner", "face", "here", "come"] : List Str) ["crossings"] (defScope (top 19)) := ⟨rfl, rfl, rfl, by decide +kernel, rfl, by decide +kernel, by decide +kernel⟩
theorem ok_face_list {fd : FuncData} (B : Blt K mg fa ca) (F : Fun K "face_list" "face_list" (top 19) (fa 6) fd) (hm : mg "face_list" = some (.ref (fa 6))) (hb : Binds K fd ["crossings"] []) (K_ends_of : Kn P w K mg base fa ca 1 4 "ends_of" ["crossings"] f_ends_of) (K_other_end : Kn P w K mg base fa ca 1 5 "other_end" ["ends", "crossings", "end"] f_other_end) : Kn P w K mg base fa ca 2 6 "face_list" ["crossings"] f_face_list :=
  kn_of (lvl := 1) (N := ["crossings", "ends", "seen", "found", "at", "corner", "face", "here", "come"]) (b := b_face_list) F hm sc_face_list hb fun cdv A outer s H E hr => by
    have S := sc_face_list
    have hu := hr.units
    have tk : L2N.Takes (cxOf (L2N.CX P w) P w K mg base ["crossings", "ends", "seen", "found", "at", "corner", "face", "here", "come"] "face_list" (defScope (top 19)) (fa 6) cdv A outer s H E) (fun cls d _ H => E cls d H) := L2N.takes_of rfl rfl rfl rfl
    have hx : Passes (L2N.CX P w) (cxOf (L2N.CX P w) P w K mg base ["crossings", "ends", "seen", "found", "at", "corner", "face", "here", "come"] "face_list" (defScope (top 19)) (fa 6) cdv A outer s H E) E := L2N.passes_call tk fun _ _ _ _ h => h
    have hp : PassesOwn (model P w) (cxOf (L2N.CX P w) P w K mg base ["crossings", "ends", "seen", "found", "at", "corner", "face", "here", "come"] "face_list" (defScope (top 19)) (fa 6) cdv A outer s H E).A (cxOf (L2N.CX P w) P w K mg base ["crossings", "ends", "seen", "found", "at", "corner", "face", "here", "come"] "face_list" (defScope (top 19)) (fa 6) cdv A outer s H E).env (cxOf (L2N.CX P w) P w K mg base ["crossings", "ends", "seen", "found", "at", "corner", "face", "here", "come"] "face_list" (defScope (top 19)) (fa 6) cdv A outer s H E).xe := passes_of rfl
    exact (xCons (xPar3 rfl S.nd (i := 1) (j := 2) (l := 3) rfl rfl rfl (by decide) (by decide) (by decide) rfl rfl rfl (xaCons (xCallK (ps := [("crossings" : Str)]) K_ends_of (hr.mono (by decide)) hx (xaCons (xVar 0) xaNil)) (xaCons xDT (xaCons (xLst xaNil) xaNil))) rfl)
  (xCons (xFor hp rfl (xiRng1 (by rfl) B.n_range (xaCons (xB call_lenA ok_lenA (by rfl) B.n_len PySem.boot_len (xaCons (xVar 0) xaNil)) xaNil)) (xdName (pg_name (i := 4) S.nd rfl (by first | exact Or.inl rfl | exact Or.inr rfl))) (xLast (xFor hp rfl (xiRng1 (by rfl) B.n_range (xaCons xInt xaNil)) (xdName (pg_name (i := 5) S.nd rfl (by first | exact Or.inl rfl | exact Or.inr rfl))) (xLast (xSIf (xtCmp (op_ninP hu) ok_in (xTup (xaCons (xVar 4) (xaCons (xVar 5) xaNil))) (xVar 2) rfl) (xCons (xPar2 rfl S.nd (i := 6) (j := 7) rfl rfl (by decide) rfl rfl (xaCons (xLst xaNil) (xaCons (xTup (xaCons (xVar 4) (xaCons (xVar 5) xaNil))) xaNil)) rfl)
  (xCons (xWh 100000 hp (xtCmp (op_ninP hu) ok_in (xVar 7) (xVar 2) rfl) (xCons (xAsg xBl (xgD (xdSub hu (xVar 2) (xVar 7))))
  (xCons (xExpr (xMet (isL := true) PySem.F.plainAttrs_list PySem.F.slot_list_append PySem.F.type_list_append mt_append mo_append (xVar 6) (xaCons (xVar 7) xaNil)))
  (xCons (xAsg (xCallK (ps := [("ends" : Str), ("crossings" : Str), ("end" : Str)]) K_other_end (hr.mono (by decide)) hx (xaCons (xVar 1) (xaCons (xVar 0) (xaCons (xVar 7) xaNil)))) (xgName (pg_name (i := 8) S.nd rfl (by first | exact Or.inl rfl | exact Or.inr rfl))))
  (xLast (xAsg (xTup (xaCons (xIx hu (xVar 8) xInt) (xaCons (xBin op_modN ok_mod (xBin op_add' ok_add (xIx hu (xVar 8) xInt) xInt) xInt) xaNil))) (xgName (pg_name (i := 7) S.nd rfl (by first | exact Or.inl rfl | exact Or.inr rfl)))))))))
  (xLast (xExpr (xMet (isL := true) PySem.F.plainAttrs_list PySem.F.slot_list_append PySem.F.type_list_append mt_append mo_append (xVar 3) (xaCons (xVar 6) xaNil)))))) xNil)))))
  (xLast (xRet (xVar 3)))))
/-! ### piece_list -/
def b_piece_list : Ev Ct := (sSeq (sPar3 1 2 3 (aCons (eCall 1 f_ends_of (aCons (eVar 0) aNil)) (aCons (eLst aNil) (aCons (eNew (.dK [] [])) aNil))))
  (sSeq (sFor (iRng1 (aCons (eOpL dLenA (aCons (eVar 0) aNil)) aNil)) (stD 4) (sIf (tBool (eOp2 (dIn true) (eVar 4) (eVar 3))) (sSeq (sPar2 5 6 (aCons (eLst (aCons (eVar 4) aNil)) (aCons (eVal (.int 0)) aNil)))
  (sSeq (sAsg (eVal (.bl true)) (tgD (tgS 3 (eVar 4))))
  (sSeq (sWh 100000 (tBool (eOp2 dLt (eVar 6) (eOpL dLenA (aCons (eVar 5) aNil)))) (sSeq (sFor (iRng1 (aCons (eVal (.int 4)) aNil)) (stD 7) (sSeq (sAsg (eOp2 dSub_ (eCall 3 f_other_end (aCons (eVar 1) (aCons (eVar 0) (aCons (eTup (aCons (eOp2 dSub_ (eVar 5) (eVar 6)) (aCons (eVar 7) aNil))) aNil)))) (eVal (.int 0))) (stR 8))
  (sIf (tBool (eOp2 (dIn true) (eVar 8) (eVar 3))) (sSeq (sAsg (eVal (.bl true)) (tgD (tgS 3 (eVar 8))))
  (sExpr (eMet true 5 mAppend (aCons (eVar 8) aNil)))) sNil)))
  (sAsg (eOp2 dAdd (eVar 6) (eVal (.int 1))) (stR 6))))
  (sExpr (eMet true 2 mAppend (aCons (eOpL dSortA (aCons (eVar 5) aNil)) aNil)))))) sNil))
  (sRet (eVar 2))))
def f_piece_list : Fn := runB 9 b_piece_list
theorem sc_piece_list : FnScope (["crossings", "ends", "found", "seen", "at", "piece", "place", "corner", "other"] : List Str) ["crossings"] (defScope (top 20)) := ⟨rfl, rfl, rfl, by decide +kernel, rfl, by decide +kernel, by decide +kernel⟩
theorem ok_piece_list {fd : FuncData} (B : Blt K mg fa ca) (F : Fun K "piece_list" "piece_list" (top 20) (fa 7) fd) (hm : mg "piece_list" = some (.ref (fa 7))) (hb : Binds K fd ["crossings"] []) (K_ends_of : Kn P w K mg base fa ca 1 4 "ends_of" ["crossings"] f_ends_of) (K_other_end : Kn P w K mg base fa ca 1 5 "other_end" ["ends", "crossings", "end"] f_other_end) : Kn P w K mg base fa ca 2 7 "piece_list" ["crossings"] f_piece_list :=
  kn_of (lvl := 1) (N := ["crossings", "ends", "found", "seen", "at", "piece", "place", "corner", "other"]) (b := b_piece_list) F hm sc_piece_list hb fun cdv A outer s H E hr => by
    have S := sc_piece_list
    have hu := hr.units
    have tk : L2N.Takes (cxOf (L2N.CX P w) P w K mg base ["crossings", "ends", "found", "seen", "at", "piece", "place", "corner", "other"] "piece_list" (defScope (top 20)) (fa 7) cdv A outer s H E) (fun cls d _ H => E cls d H) := L2N.takes_of rfl rfl rfl rfl
    have hx : Passes (L2N.CX P w) (cxOf (L2N.CX P w) P w K mg base ["crossings", "ends", "found", "seen", "at", "piece", "place", "corner", "other"] "piece_list" (defScope (top 20)) (fa 7) cdv A outer s H E) E := L2N.passes_call tk fun _ _ _ _ h => h
    have hp : PassesOwn (model P w) (cxOf (L2N.CX P w) P w K mg base ["crossings", "ends", "found", "seen", "at", "piece", "place", "corner", "other"] "piece_list" (defScope (top 20)) (fa 7) cdv A outer s H E).A (cxOf (L2N.CX P w) P w K mg base ["crossings", "ends", "found", "seen", "at", "piece", "place", "corner", "other"] "piece_list" (defScope (top 20)) (fa 7) cdv A outer s H E).env (cxOf (L2N.CX P w) P w K mg base ["crossings", "ends", "found", "seen", "at", "piece", "place", "corner", "other"] "piece_list" (defScope (top 20)) (fa 7) cdv A outer s H E).xe := passes_of rfl
    exact (xCons (xPar3 rfl S.nd (i := 1) (j := 2) (l := 3) rfl rfl rfl (by decide) (by decide) (by decide) rfl rfl rfl (xaCons (xCallK (ps := [("crossings" : Str)]) K_ends_of (hr.mono (by decide)) hx (xaCons (xVar 0) xaNil)) (xaCons (xLst xaNil) (xaCons xDK xaNil))) rfl)
  (xCons (xFor hp rfl (xiRng1 (by rfl) B.n_range (xaCons (xB call_lenA ok_lenA (by rfl) B.n_len PySem.boot_len (xaCons (xVar 0) xaNil)) xaNil)) (xdName (pg_name (i := 4) S.nd rfl (by first | exact Or.inl rfl | exact Or.inr rfl))) (xLast (xSIf (xtCmp (op_ninP hu) ok_in (xVar 4) (xVar 3) rfl) (xCons (xPar2 rfl S.nd (i := 5) (j := 6) rfl rfl (by decide) rfl rfl (xaCons (xLst (xaCons (xVar 4) xaNil)) (xaCons xInt xaNil)) rfl)
  (xCons (xAsg xBl (xgD (xdSub hu (xVar 3) (xVar 4))))
  (xCons (xWh 100000 hp (xtCmp op_lt ok_lt (xVar 6) (xB call_lenA ok_lenA (by rfl) B.n_len PySem.boot_len (xaCons (xVar 5) xaNil)) rfl) (xCons (xFor hp rfl (xiRng1 (by rfl) B.n_range (xaCons xInt xaNil)) (xdName (pg_name (i := 7) S.nd rfl (by first | exact Or.inl rfl | exact Or.inr rfl))) (xCons (xAsg (xIx hu (xCallK (ps := [("ends" : Str), ("crossings" : Str), ("end" : Str)]) K_other_end (hr.mono (by decide)) hx (xaCons (xVar 1) (xaCons (xVar 0) (xaCons (xTup (xaCons (xIx hu (xVar 5) (xVar 6)) (xaCons (xVar 7) xaNil))) xaNil)))) xInt) (xgName (pg_name (i := 8) S.nd rfl (by first | exact Or.inl rfl | exact Or.inr rfl))))
  (xLast (xSIf (xtCmp (op_ninP hu) ok_in (xVar 8) (xVar 3) rfl) (xCons (xAsg xBl (xgD (xdSub hu (xVar 3) (xVar 8))))
  (xLast (xExpr (xMet (isL := true) PySem.F.plainAttrs_list PySem.F.slot_list_append PySem.F.type_list_append mt_append mo_append (xVar 5) (xaCons (xVar 8) xaNil))))) xNil))))
  (xLast (xAsg (xBin op_add' ok_add (xVar 6) xInt) (xgName (pg_name (i := 6) S.nd rfl (by first | exact Or.inl rfl | exact Or.inr rfl)))))))
  (xLast (xExpr (xMet (isL := true) PySem.F.plainAttrs_list PySem.F.slot_list_append PySem.F.type_list_append mt_append mo_append (xVar 2) (xaCons (xB (cr_sortA rfl) ok_sortA (by rfl) B.n_sorted PyProof.Rows.boot_sorted (xaCons (xVar 5) xaNil)) xaNil))))))) xNil)))
  (xLast (xRet (xVar 2)))))
/-! ### is_picture -/
def b_is_picture : Ev Ct := (sSeq (sIf (tOrM (tNotM (tTru (eCall 3 f_is_tuple_of (aCons (eVar 0) (aCons (eVal (.int 2)) (aCons (eVal (.int 2)) aNil)))))) (tOrM (tNotM (tTru (eCall 3 f_is_tuple_of (aCons (eOp2 dSub_ (eVar 0) (eVal (.int 0))) (aCons (eVal (.int 0)) (aCons (eVal (.int 40)) aNil)))))) (tNotM (tTru (eCall 3 f_is_whole (aCons (eOp2 dSub_ (eVar 0) (eVal (.int 1))) (aCons (eVal (.int 0)) (aCons (eVal (.int 20)) aNil)))))))) (sRet (eVal (.bl false))) sNil)
  (sSeq (sAsg (eOp2 dSub_ (eVar 0) (eVal (.int 0))) (stR 1))
  (sSeq (sIf (tNotM (tTru (eOpL dAll (aCons (eComp [2] (iSeq (eVar 1)) (stD 2) tYesM (eCall 2 f_is_crossing_of (aCons (eVar 2) (aCons (eOp2 dMul (eVal (.int 2)) (eOpL dLenA (aCons (eVar 1) aNil))) aNil)))) aNil)))) (sRet (eVal (.bl false))) sNil)
  (sSeq (sIf (tNotM (tTru (eOpL dAll (aCons (eComp [3] (iSeq (eCall 1 f_ends_of (aCons (eVar 1) aNil))) (stD 3) tYesM (eOp2 dEq (eOpL dLenA (aCons (eVar 3) aNil)) (eVal (.int 2)))) aNil)))) (sRet (eVal (.bl false))) sNil)
  (sRet (eOp2 dEq (eOpL dLenA (aCons (eCall 1 f_face_list (aCons (eVar 1) aNil)) aNil)) (eOp2 dAdd (eOpL dLenA (aCons (eVar 1) aNil)) (eOp2 dMul (eVal (.int 2)) (eOpL dLenA (aCons (eCall 1 f_piece_list (aCons (eVar 1) aNil)) aNil))))))))))
def f_is_picture : Fn := runB 4 b_is_picture
theorem sc_is_picture : FnScope (["value", "crossings", "crossing", "pair"] : List Str) ["value"] (defScope (top 21)) := ⟨rfl, rfl, rfl, by decide +kernel, rfl, by decide +kernel, by decide +kernel⟩
theorem ok_is_picture {fd : FuncData} (B : Blt K mg fa ca) (F : Fun K "is_picture" "is_picture" (top 21) (fa 8) fd) (hm : mg "is_picture" = some (.ref (fa 8))) (hb : Binds K fd ["value"] []) (K_is_tuple_of : Kn P w K mg base fa ca 1 2 "is_tuple_of" ["value", "low", "high"] f_is_tuple_of) (K_is_whole : Kn P w K mg base fa ca 1 0 "is_whole" ["value", "low", "high"] f_is_whole) (K_is_crossing_of : Kn P w K mg base fa ca 2 3 "is_crossing_of" ["value", "edges"] f_is_crossing_of) (K_ends_of : Kn P w K mg base fa ca 1 4 "ends_of" ["crossings"] f_ends_of) (K_face_list : Kn P w K mg base fa ca 2 6 "face_list" ["crossings"] f_face_list) (K_piece_list : Kn P w K mg base fa ca 2 7 "piece_list" ["crossings"] f_piece_list) : Kn P w K mg base fa ca 3 8 "is_picture" ["value"] f_is_picture :=
  kn_of (lvl := 2) (N := ["value", "crossings", "crossing", "pair"]) (b := b_is_picture) F hm sc_is_picture hb fun cdv A outer s H E hr => by
    have S := sc_is_picture
    have hu := hr.units
    have tk : L2N.Takes (cxOf (L2N.CX P w) P w K mg base ["value", "crossings", "crossing", "pair"] "is_picture" (defScope (top 21)) (fa 8) cdv A outer s H E) (fun cls d _ H => E cls d H) := L2N.takes_of rfl rfl rfl rfl
    have hx : Passes (L2N.CX P w) (cxOf (L2N.CX P w) P w K mg base ["value", "crossings", "crossing", "pair"] "is_picture" (defScope (top 21)) (fa 8) cdv A outer s H E) E := L2N.passes_call tk fun _ _ _ _ h => h
    have hp : PassesOwn (model P w) (cxOf (L2N.CX P w) P w K mg base ["value", "crossings", "crossing", "pair"] "is_picture" (defScope (top 21)) (fa 8) cdv A outer s H E).A (cxOf (L2N.CX P w) P w K mg base ["value", "crossings", "crossing", "pair"] "is_picture" (defScope (top 21)) (fa 8) cdv A outer s H E).env (cxOf (L2N.CX P w) P w K mg base ["value", "crossings", "crossing", "pair"] "is_picture" (defScope (top 21)) (fa 8) cdv A outer s H E).xe := passes_of rfl
    exact (xCons (xSIf (xwOr (xtNot (xtTru (xCallK (ps := [("value" : Str), ("low" : Str), ("high" : Str)]) K_is_tuple_of (hr.mono (by decide)) hx (xaCons (xVar 0) (xaCons xInt (xaCons xInt xaNil)))))) (xwOr (xtNot (xtTru (xCallK (ps := [("value" : Str), ("low" : Str), ("high" : Str)]) K_is_tuple_of (hr.mono (by decide)) hx (xaCons (xIx hu (xVar 0) xInt) (xaCons xInt (xaCons (xGint (n := ("CROSSINGS" : Str)) (by rfl) B.c_CROSSINGS) xaNil)))))) (xwOne (xtNot (xtTru (xCallK (ps := [("value" : Str), ("low" : Str), ("high" : Str)]) K_is_whole (hr.mono (by decide)) hx (xaCons (xIx hu (xVar 0) xInt) (xaCons xInt (xaCons (xGint (n := ("RINGS" : Str)) (by rfl) B.c_RINGS) xaNil)))))) (by first | exact Or.inl rfl | exact Or.inr rfl)))).pt (xLast (xRet xBl)) xNil)
  (xCons (xAsg (xIx hu (xVar 0) xInt) (xgName (pg_name (i := 1) S.nd rfl (by first | exact Or.inl rfl | exact Or.inr rfl))))
  (xCons (xSIf (xtNot (xtTru (xB (cr_all rfl) ok_all (by rfl) B.n_all boot_all (xaCons (xComp (own := [(("crossing" : Str), 2)]) rfl S.nd (xiSeq (xVar 1)) (blkOk_by (N := [("value" : Str), ("crossings" : Str), ("crossing" : Str), ("pair" : Str)]) (sc := defScope (top 21)) (by decide +kernel)) (by decide) (fun _ _ _ _ _ => (xcName (pg_name (i := 2) S.nd rfl (by first | exact Or.inl rfl | exact Or.inr rfl)) (by decide))) (fun _ _ _ _ _ => xpNil) (fun _ _ _ _ _ => (xCallK (ps := [("value" : Str), ("edges" : Str)]) K_is_crossing_of (hr.mono (by decide)) passN (xaCons (xVar 2) (xaCons (xBin op_mul' ok_mul xInt (xB call_lenA ok_lenA (by rfl) B.n_len PySem.boot_len (xaCons (xVar 1) xaNil))) xaNil))))) xaNil)))) (xLast (xRet xBl)) xNil)
  (xCons (xSIf (xtNot (xtTru (xB (cr_all rfl) ok_all (by rfl) B.n_all boot_all (xaCons (xComp (own := [(("pair" : Str), 3)]) rfl S.nd (xiSeq (xCallK (ps := [("crossings" : Str)]) K_ends_of (hr.mono (by decide)) hx (xaCons (xVar 1) xaNil))) (blkOk_by (N := [("value" : Str), ("crossings" : Str), ("crossing" : Str), ("pair" : Str)]) (sc := defScope (top 21)) (by decide +kernel)) (by decide) (fun _ _ _ _ _ => (xcName (pg_name (i := 3) S.nd rfl (by first | exact Or.inl rfl | exact Or.inr rfl)) (by decide))) (fun _ _ _ _ _ => xpNil) (fun _ _ _ _ _ => (xCmp (op_eqP hu) ok_eq (xB call_lenA ok_lenA (by rfl) B.n_len PySem.boot_len (xaCons (xVar 3) xaNil)) xInt rfl))) xaNil)))) (xLast (xRet xBl)) xNil)
  (xLast (xRet (xCmp (op_eqP hu) ok_eq (xB call_lenA ok_lenA (by rfl) B.n_len PySem.boot_len (xaCons (xCallK (ps := [("crossings" : Str)]) K_face_list (hr.mono (by decide)) hx (xaCons (xVar 1) xaNil)) xaNil)) (xBin op_add' ok_add (xB call_lenA ok_lenA (by rfl) B.n_len PySem.boot_len (xaCons (xVar 1) xaNil)) (xBin op_mul' ok_mul xInt (xB call_lenA ok_lenA (by rfl) B.n_len PySem.boot_len (xaCons (xCallK (ps := [("crossings" : Str)]) K_piece_list (hr.mono (by decide)) hx (xaCons (xVar 1) xaNil)) xaNil)))) rfl)))))))
/-! ### need_picture -/
def b_need_picture : Ev Ct := (sIf (tNotM (tTru (eCall 1 f_is_picture (aCons (eVar 0) aNil)))) (sRaise 3) sNil)
def f_need_picture : Fn := runB 1 b_need_picture
theorem sc_need_picture : FnScope (["value"] : List Str) ["value"] (defScope (top 22)) := ⟨rfl, rfl, rfl, by decide +kernel, rfl, by decide +kernel, by decide +kernel⟩
theorem ok_need_picture {fd : FuncData} (B : Blt K mg fa ca) (F : Fun K "need_picture" "need_picture" (top 22) (fa 9) fd) (hm : mg "need_picture" = some (.ref (fa 9))) (hb : Binds K fd ["value"] []) (K_is_picture : Kn P w K mg base fa ca 3 8 "is_picture" ["value"] f_is_picture) : Kn P w K mg base fa ca 4 9 "need_picture" ["value"] f_need_picture :=
  kn_of (lvl := 3) (N := ["value"]) (b := b_need_picture) F hm sc_need_picture hb fun cdv A outer s H E hr => by
    have S := sc_need_picture
    have hu := hr.units
    have tk : L2N.Takes (cxOf (L2N.CX P w) P w K mg base ["value"] "need_picture" (defScope (top 22)) (fa 9) cdv A outer s H E) (fun cls d _ H => E cls d H) := L2N.takes_of rfl rfl rfl rfl
    have hx : Passes (L2N.CX P w) (cxOf (L2N.CX P w) P w K mg base ["value"] "need_picture" (defScope (top 22)) (fa 9) cdv A outer s H E) E := L2N.passes_call tk fun _ _ _ _ h => h
    have hp : PassesOwn (model P w) (cxOf (L2N.CX P w) P w K mg base ["value"] "need_picture" (defScope (top 22)) (fa 9) cdv A outer s H E).A (cxOf (L2N.CX P w) P w K mg base ["value"] "need_picture" (defScope (top 22)) (fa 9) cdv A outer s H E).env (cxOf (L2N.CX P w) P w K mg base ["value"] "need_picture" (defScope (top 22)) (fa 9) cdv A outer s H E).xe := passes_of rfl
    exact (xLast (xSIf (xtNot (xtTru (xCallK (ps := [("value" : Str)]) K_is_picture (hr.mono (by decide)) hx (xaCons (xVar 0) xaNil)))) (xLast (xRaise rfl tk PySem.F.excBase_ValueError B.q_InvalidPicture B.m_InvalidPicture B.k_InvalidPicture (raises_own B.s_InvalidPicture B.t_InvalidPicture) rfl)) xNil))
/-! ### cord_from -/
def b_cord_from : Ev Ct := (sSeq (sPar2 4 5 (aCons (eLst (aCons (eVar 2) aNil)) (aCons (eOp2 dSub_ (eOp2 dSub_ (eVar 0) (eVar 2)) (eVar 3)) aNil)))
  (sSeq (sWh 100000 (tBool (eOp2 dLe (eOpL dLenA (aCons (eVar 4) aNil)) (eOp2 dMul (eVal (.int 2)) (eOpL dLenA (aCons (eVar 1) aNil))))) (sSeq (sAsg (eTup (aCons (eOp2 dSub_ (eVar 5) (eVal (.int 0))) (aCons (eOp2 dMod (eOp2 dAdd (eOp2 dSub_ (eVar 5) (eVal (.int 1))) (eVal (.int 2))) (eVal (.int 4))) aNil))) (stR 6))
  (sSeq (sAsg (eOp2 dSub_ (eOp2 dSub_ (eVar 1) (eOp2 dSub_ (eVar 6) (eVal (.int 0)))) (eOp2 dSub_ (eVar 6) (eVal (.int 1)))) (stR 7))
  (sSeq (sIf (tAndM (tBool (eOp2 dEq (eVar 7) (eVar 2))) (tBool (eOp2 dEq (eCall 3 f_other_end (aCons (eVar 0) (aCons (eVar 1) (aCons (eVar 6) aNil)))) (eOp2 dSub_ (eOp2 dSub_ (eVar 0) (eVar 2)) (eVar 3))))) (sRet (eVar 4)) sNil)
  (sSeq (sExpr (eMet true 4 mAppend (aCons (eVar 7) aNil)))
  (sAsg (eCall 3 f_other_end (aCons (eVar 0) (aCons (eVar 1) (aCons (eVar 6) aNil)))) (stR 5)))))))
  (sRet (eVar 4))))
def f_cord_from : Fn := runB 8 b_cord_from
theorem sc_cord_from : FnScope (["ends", "crossings", "edge", "first", "found", "come", "here", "further"] : List Str) ["ends", "crossings", "edge", "first"] (defScope (top 23)) := ⟨rfl, rfl, rfl, by decide +kernel, rfl, by decide +kernel, by decide +kernel⟩
theorem ok_cord_from {fd : FuncData} (B : Blt K mg fa ca) (F : Fun K "cord_from" "cord_from" (top 23) (fa 10) fd) (hm : mg "cord_from" = some (.ref (fa 10))) (hb : Binds K fd ["ends", "crossings", "edge", "first"] []) (K_other_end : Kn P w K mg base fa ca 1 5 "other_end" ["ends", "crossings", "end"] f_other_end) : Kn P w K mg base fa ca 2 10 "cord_from" ["ends", "crossings", "edge", "first"] f_cord_from :=
  kn_of (lvl := 1) (N := ["ends", "crossings", "edge", "first", "found", "come", "here", "further"]) (b := b_cord_from) F hm sc_cord_from hb fun cdv A outer s H E hr => by
    have S := sc_cord_from
    have hu := hr.units
    have tk : L2N.Takes (cxOf (L2N.CX P w) P w K mg base ["ends", "crossings", "edge", "first", "found", "come", "here", "further"] "cord_from" (defScope (top 23)) (fa 10) cdv A outer s H E) (fun cls d _ H => E cls d H) := L2N.takes_of rfl rfl rfl rfl
    have hx : Passes (L2N.CX P w) (cxOf (L2N.CX P w) P w K mg base ["ends", "crossings", "edge", "first", "found", "come", "here", "further"] "cord_from" (defScope (top 23)) (fa 10) cdv A outer s H E) E := L2N.passes_call tk fun _ _ _ _ h => h
    have hp : PassesOwn (model P w) (cxOf (L2N.CX P w) P w K mg base ["ends", "crossings", "edge", "first", "found", "come", "here", "further"] "cord_from" (defScope (top 23)) (fa 10) cdv A outer s H E).A (cxOf (L2N.CX P w) P w K mg base ["ends", "crossings", "edge", "first", "found", "come", "here", "further"] "cord_from" (defScope (top 23)) (fa 10) cdv A outer s H E).env (cxOf (L2N.CX P w) P w K mg base ["ends", "crossings", "edge", "first", "found", "come", "here", "further"] "cord_from" (defScope (top 23)) (fa 10) cdv A outer s H E).xe := passes_of rfl
    exact (xCons (xPar2 rfl S.nd (i := 4) (j := 5) rfl rfl (by decide) rfl rfl (xaCons (xLst (xaCons (xVar 2) xaNil)) (xaCons (xIx hu (xIx hu (xVar 0) (xVar 2)) (xVar 3)) xaNil)) rfl)
  (xCons (xWh 100000 hp (xtCmp op_le ok_le (xB call_lenA ok_lenA (by rfl) B.n_len PySem.boot_len (xaCons (xVar 4) xaNil)) (xBin op_mul' ok_mul xInt (xB call_lenA ok_lenA (by rfl) B.n_len PySem.boot_len (xaCons (xVar 1) xaNil))) rfl) (xCons (xAsg (xTup (xaCons (xIx hu (xVar 5) xInt) (xaCons (xBin op_modN ok_mod (xBin op_add' ok_add (xIx hu (xVar 5) xInt) xInt) xInt) xaNil))) (xgName (pg_name (i := 6) S.nd rfl (by first | exact Or.inl rfl | exact Or.inr rfl))))
  (xCons (xAsg (xIx hu (xIx hu (xVar 1) (xIx hu (xVar 6) xInt)) (xIx hu (xVar 6) xInt)) (xgName (pg_name (i := 7) S.nd rfl (by first | exact Or.inl rfl | exact Or.inr rfl))))
  (xCons (xSIf (xwAnd (xtCmp (op_eqP hu) ok_eq (xVar 7) (xVar 2) rfl) (xwOne (xtCmp (op_eqP hu) ok_eq (xCallK (ps := [("ends" : Str), ("crossings" : Str), ("end" : Str)]) K_other_end (hr.mono (by decide)) hx (xaCons (xVar 0) (xaCons (xVar 1) (xaCons (xVar 6) xaNil)))) (xIx hu (xIx hu (xVar 0) (xVar 2)) (xVar 3)) rfl) (by first | exact Or.inl rfl | exact Or.inr rfl))).pt (xLast (xRet (xVar 4))) xNil)
  (xCons (xExpr (xMet (isL := true) PySem.F.plainAttrs_list PySem.F.slot_list_append PySem.F.type_list_append mt_append mo_append (xVar 4) (xaCons (xVar 7) xaNil)))
  (xLast (xAsg (xCallK (ps := [("ends" : Str), ("crossings" : Str), ("end" : Str)]) K_other_end (hr.mono (by decide)) hx (xaCons (xVar 0) (xaCons (xVar 1) (xaCons (xVar 6) xaNil)))) (xgName (pg_name (i := 5) S.nd rfl (by first | exact Or.inl rfl | exact Or.inr rfl))))))))))
  (xLast (xRet (xVar 4)))))
/-! ### cord_list -/
def b_cord_list : Ev Ct := (sSeq (sPar3 1 2 3 (aCons (eCall 1 f_ends_of (aCons (eVar 0) aNil)) (aCons (eLst aNil) (aCons (eNew (.dK [] [])) aNil))))
  (sSeq (sFor (iRng1 (aCons (eOp2 dMul (eVal (.int 2)) (eOpL dLenA (aCons (eVar 0) aNil))) aNil)) (stD 4) (sIf (tBool (eOp2 (dIn true) (eVar 4) (eVar 3))) (sSeq (sAsg (eComp [6] (iRng1 (aCons (eVal (.int 2)) aNil)) (stD 6) tYesM (eCall 4 f_cord_from (aCons (eVar 1) (aCons (eVar 0) (aCons (eVar 4) (aCons (eVar 6) aNil)))))) (stR 5))
  (sSeq (sExpr (eMet false 3 mUpd (aCons (eComp [7] (iSeq (eOp2 dSub_ (eVar 5) (eVal (.int 0)))) (stD 7) tYesM (eTup (aCons (eVar 7) (aCons (eVal (.bl true)) aNil)))) aNil)))
  (sExpr (eMet true 2 mAppend (aCons (eOpL dTuple (aCons (eOpL dMinA (aCons (eVar 5) aNil)) aNil)) aNil))))) sNil))
  (sRet (eVar 2))))
def f_cord_list : Fn := runB 8 b_cord_list
theorem sc_cord_list : FnScope (["crossings", "ends", "found", "seen", "edge", "both", "first", "one"] : List Str) ["crossings"] (defScope (top 24)) := ⟨rfl, rfl, rfl, by decide +kernel, rfl, by decide +kernel, by decide +kernel⟩
theorem ok_cord_list {fd : FuncData} (B : Blt K mg fa ca) (F : Fun K "cord_list" "cord_list" (top 24) (fa 11) fd) (hm : mg "cord_list" = some (.ref (fa 11))) (hb : Binds K fd ["crossings"] []) (K_ends_of : Kn P w K mg base fa ca 1 4 "ends_of" ["crossings"] f_ends_of) (K_cord_from : Kn P w K mg base fa ca 2 10 "cord_from" ["ends", "crossings", "edge", "first"] f_cord_from) : Kn P w K mg base fa ca 3 11 "cord_list" ["crossings"] f_cord_list :=
  kn_of (lvl := 2) (N := ["crossings", "ends", "found", "seen", "edge", "both", "first", "one"]) (b := b_cord_list) F hm sc_cord_list hb fun cdv A outer s H E hr => by
    have S := sc_cord_list
    have hu := hr.units
    have tk : L2N.Takes (cxOf (L2N.CX P w) P w K mg base ["crossings", "ends", "found", "seen", "edge", "both", "first", "one"] "cord_list" (defScope (top 24)) (fa 11) cdv A outer s H E) (fun cls d _ H => E cls d H) := L2N.takes_of rfl rfl rfl rfl
    have hx : Passes (L2N.CX P w) (cxOf (L2N.CX P w) P w K mg base ["crossings", "ends", "found", "seen", "edge", "both", "first", "one"] "cord_list" (defScope (top 24)) (fa 11) cdv A outer s H E) E := L2N.passes_call tk fun _ _ _ _ h => h
    have hp : PassesOwn (model P w) (cxOf (L2N.CX P w) P w K mg base ["crossings", "ends", "found", "seen", "edge", "both", "first", "one"] "cord_list" (defScope (top 24)) (fa 11) cdv A outer s H E).A (cxOf (L2N.CX P w) P w K mg base ["crossings", "ends", "found", "seen", "edge", "both", "first", "one"] "cord_list" (defScope (top 24)) (fa 11) cdv A outer s H E).env (cxOf (L2N.CX P w) P w K mg base ["crossings", "ends", "found", "seen", "edge", "both", "first", "one"] "cord_list" (defScope (top 24)) (fa 11) cdv A outer s H E).xe := passes_of rfl
    exact (xCons (xParT3 rfl (pg_name (i := 1) S.nd rfl (by first | exact Or.inl rfl | exact Or.inr rfl)) (pg_name (i := 2) S.nd rfl (by first | exact Or.inl rfl | exact Or.inr rfl)) (pg_name (i := 3) S.nd rfl (by first | exact Or.inl rfl | exact Or.inr rfl)) (xaCons (xCallK (ps := [("crossings" : Str)]) K_ends_of (hr.mono (by decide)) hx (xaCons (xVar 0) xaNil)) (xaCons (xLst xaNil) (xaCons xDK xaNil))))
  (xCons (xFor hp rfl (xiRng1 (by rfl) B.n_range (xaCons (xBin op_mul' ok_mul xInt (xB call_lenA ok_lenA (by rfl) B.n_len PySem.boot_len (xaCons (xVar 0) xaNil))) xaNil)) (xdName (pg_name (i := 4) S.nd rfl (by first | exact Or.inl rfl | exact Or.inr rfl))) (xLast (xSIf (xtCmp (op_ninP hu) ok_in (xVar 4) (xVar 3) rfl) (xCons (xAsgLc (own := [(("first" : Str), 6)]) rfl S.nd (i := 5) rfl rfl (sw_true rfl rfl rfl rfl) (xiRng1 (by rfl) B.n_range (xaCons xInt xaNil)) (blkOk_by (N := [("crossings" : Str), ("ends" : Str), ("found" : Str), ("seen" : Str), ("edge" : Str), ("both" : Str), ("first" : Str), ("one" : Str)]) (sc := defScope (top 24)) (by decide +kernel)) (by decide) (fun _ _ _ _ _ => (xcName (pg_name (i := 6) S.nd rfl (by first | exact Or.inl rfl | exact Or.inr rfl)) (by decide))) (fun _ _ _ _ _ => xpNil) (fun _ _ _ _ _ => (xCallK (ps := [("ends" : Str), ("crossings" : Str), ("edge" : Str), ("first" : Str)]) K_cord_from (hr.mono (by decide)) passN (xaCons (xVar 1) (xaCons (xVar 0) (xaCons (xVar 4) (xaCons (xVar 6) xaNil)))))) (by intro _; rfl) (pg_name (i := 5) S.nd rfl (by first | exact Or.inl rfl | exact Or.inr rfl)))
  (xCons (xExpr (xMet (isL := false) PySem.F.plainAttrs_dict PySem.F.slot_dict_update PySem.F.type_dict_update (mt_upd rfl) mo_upd (xVar 3) (xaCons (xComp (own := [(("one" : Str), 7)]) rfl S.nd (xiSeq (xIx hu (xVar 5) xInt)) (blkOk_by (N := [("crossings" : Str), ("ends" : Str), ("found" : Str), ("seen" : Str), ("edge" : Str), ("both" : Str), ("first" : Str), ("one" : Str)]) (sc := defScope (top 24)) (by decide +kernel)) (by decide) (fun _ _ _ _ _ => (xcName (pg_name (i := 7) S.nd rfl (by first | exact Or.inl rfl | exact Or.inr rfl)) (by decide))) (fun _ _ _ _ _ => xpNil) (fun _ _ _ _ _ => (xTup (xaCons (xVar 7) (xaCons xBl xaNil))))) xaNil)))
  (xLast (xExpr (xMet (isL := true) PySem.F.plainAttrs_list PySem.F.slot_list_append PySem.F.type_list_append mt_append mo_append (xVar 2) (xaCons (xTy call_tuple_of ok_tuple (by rfl) B.n_tuple PyProof.Rows.boot_tuple (xaCons (xB (cr_minB rfl hu) ok_minA (by rfl) B.n_min boot_min (xaCons (xVar 5) xaNil)) xaNil)) xaNil)))))) xNil)))
  (xLast (xRet (xVar 2)))))
/-! ### count_cords -/
def b_count_cords : Ev Ct := (sSeq (sExpr (eCall 1 f_need_picture (aCons (eVar 0) aNil)))
  (sRet (eOp2 dAdd (eOpL dLenA (aCons (eCall 1 f_cord_list (aCons (eOp2 dSub_ (eVar 0) (eVal (.int 0))) aNil)) aNil)) (eOp2 dSub_ (eVar 0) (eVal (.int 1))))))
def f_count_cords : Fn := runB 1 b_count_cords
theorem sc_count_cords : FnScope (["picture"] : List Str) ["picture"] (defScope (top 25)) := ⟨rfl, rfl, rfl, by decide +kernel, rfl, by decide +kernel, by decide +kernel⟩
theorem ok_count_cords {fd : FuncData} (B : Blt K mg fa ca) (F : Fun K "count_cords" "count_cords" (top 25) (fa 12) fd) (hm : mg "count_cords" = some (.ref (fa 12))) (hb : Binds K fd ["picture"] []) (K_need_picture : Kn P w K mg base fa ca 4 9 "need_picture" ["value"] f_need_picture) (K_cord_list : Kn P w K mg base fa ca 3 11 "cord_list" ["crossings"] f_cord_list) : Kn P w K mg base fa ca 5 12 "count_cords" ["picture"] f_count_cords :=
  kn_of (lvl := 4) (N := ["picture"]) (b := b_count_cords) F hm sc_count_cords hb fun cdv A outer s H E hr => by
    have S := sc_count_cords
    have hu := hr.units
    have tk : L2N.Takes (cxOf (L2N.CX P w) P w K mg base ["picture"] "count_cords" (defScope (top 25)) (fa 12) cdv A outer s H E) (fun cls d _ H => E cls d H) := L2N.takes_of rfl rfl rfl rfl
    have hx : Passes (L2N.CX P w) (cxOf (L2N.CX P w) P w K mg base ["picture"] "count_cords" (defScope (top 25)) (fa 12) cdv A outer s H E) E := L2N.passes_call tk fun _ _ _ _ h => h
    have hp : PassesOwn (model P w) (cxOf (L2N.CX P w) P w K mg base ["picture"] "count_cords" (defScope (top 25)) (fa 12) cdv A outer s H E).A (cxOf (L2N.CX P w) P w K mg base ["picture"] "count_cords" (defScope (top 25)) (fa 12) cdv A outer s H E).env (cxOf (L2N.CX P w) P w K mg base ["picture"] "count_cords" (defScope (top 25)) (fa 12) cdv A outer s H E).xe := passes_of rfl
    exact (xCons (xExpr (xCallK (ps := [("value" : Str)]) K_need_picture (hr.mono (by decide)) hx (xaCons (xVar 0) xaNil)))
  (xLast (xRet (xBin op_add' ok_add (xB call_lenA ok_lenA (by rfl) B.n_len PySem.boot_len (xaCons (xCallK (ps := [("crossings" : Str)]) K_cord_list (hr.mono (by decide)) hx (xaCons (xIx hu (xVar 0) xInt) xaNil)) xaNil)) (xIx hu (xVar 0) xInt)))))
/-! ### is_sum -/
def b_is_sum : Ev Ct := (sSeq (sIf (tOrM (tNotM (tTru (eCall 3 f_is_tuple_of (aCons (eVar 0) (aCons (eVal (.int 0)) (aCons (eVal (.int 400)) aNil)))))) (tNotM (tTru (eOpL dAll (aCons (eComp [1] (iSeq (eVar 0)) (stD 1) tYesM (eCall 3 f_is_tuple_of (aCons (eVar 1) (aCons (eVal (.int 2)) (aCons (eVal (.int 2)) aNil))))) aNil))))) (sRet (eVal (.bl false))) sNil)
  (sSeq (sIf (tNotM (tTru (eOpL dAll (aCons (eComp [2, 3] (iSeq (eVar 0)) (tgT [(stD 2), (stD 3)]) tYesM (eAnd (eCall 3 f_is_whole (aCons (eVar 2) (aCons (eOp1 dNeg (eVal (.int 1000))) (aCons (eVal (.int 1000)) aNil)))) (eCall 3 f_is_whole (aCons (eVar 3) (aCons (eOp1 dNeg (eVal (.int 1000000000000000000000000000000000000000000000000000000000000))) (aCons (eVal (.int 1000000000000000000000000000000000000000000000000000000000000)) aNil)))))) aNil)))) (sRet (eVal (.bl false))) sNil)
  (sSeq (sIf (tNotM (tTru (eOpL dAll (aCons (eComp [2, 3] (iSeq (eVar 0)) (tgT [(stD 2), (stD 3)]) tYesM (eOp2 dNe (eVar 3) (eVal (.int 0)))) aNil)))) (sRet (eVal (.bl false))) sNil)
  (sRet (eOpL dAll (aCons (eComp [4, 5] (iZp (aCons (eVar 0) (aCons (eOp1 dTail (eVar 0)) aNil))) (tgT [(stD 4), (stD 5)]) tYesM (eOp2 dLt (eOp2 dSub_ (eVar 4) (eVal (.int 0))) (eOp2 dSub_ (eVar 5) (eVal (.int 0))))) aNil))))))
def f_is_sum : Fn := runB 6 b_is_sum
theorem sc_is_sum : FnScope (["value", "pair", "power", "number", "one", "other"] : List Str) ["value"] (defScope (top 30)) := ⟨rfl, rfl, rfl, by decide +kernel, rfl, by decide +kernel, by decide +kernel⟩
theorem ok_is_sum {fd : FuncData} (B : Blt K mg fa ca) (F : Fun K "is_sum" "is_sum" (top 30) (fa 13) fd) (hm : mg "is_sum" = some (.ref (fa 13))) (hb : Binds K fd ["value"] []) (K_is_tuple_of : Kn P w K mg base fa ca 1 2 "is_tuple_of" ["value", "low", "high"] f_is_tuple_of) (K_is_whole : Kn P w K mg base fa ca 1 0 "is_whole" ["value", "low", "high"] f_is_whole) : Kn P w K mg base fa ca 2 13 "is_sum" ["value"] f_is_sum :=
  kn_of (lvl := 1) (N := ["value", "pair", "power", "number", "one", "other"]) (b := b_is_sum) F hm sc_is_sum hb fun cdv A outer s H E hr => by
    have S := sc_is_sum
    have hu := hr.units
    have tk : L2N.Takes (cxOf (L2N.CX P w) P w K mg base ["value", "pair", "power", "number", "one", "other"] "is_sum" (defScope (top 30)) (fa 13) cdv A outer s H E) (fun cls d _ H => E cls d H) := L2N.takes_of rfl rfl rfl rfl
    have hx : Passes (L2N.CX P w) (cxOf (L2N.CX P w) P w K mg base ["value", "pair", "power", "number", "one", "other"] "is_sum" (defScope (top 30)) (fa 13) cdv A outer s H E) E := L2N.passes_call tk fun _ _ _ _ h => h
    have hp : PassesOwn (model P w) (cxOf (L2N.CX P w) P w K mg base ["value", "pair", "power", "number", "one", "other"] "is_sum" (defScope (top 30)) (fa 13) cdv A outer s H E).A (cxOf (L2N.CX P w) P w K mg base ["value", "pair", "power", "number", "one", "other"] "is_sum" (defScope (top 30)) (fa 13) cdv A outer s H E).env (cxOf (L2N.CX P w) P w K mg base ["value", "pair", "power", "number", "one", "other"] "is_sum" (defScope (top 30)) (fa 13) cdv A outer s H E).xe := passes_of rfl
    exact (xCons (xSIf (xwOr (xtNot (xtTru (xCallK (ps := [("value" : Str), ("low" : Str), ("high" : Str)]) K_is_tuple_of (hr.mono (by decide)) hx (xaCons (xVar 0) (xaCons xInt (xaCons (xGint (n := ("LONG" : Str)) (by rfl) B.c_LONG) xaNil)))))) (xwOne (xtNot (xtTru (xB (cr_all rfl) ok_all (by rfl) B.n_all boot_all (xaCons (xComp (own := [(("pair" : Str), 1)]) rfl S.nd (xiSeq (xVar 0)) (blkOk_by (N := [("value" : Str), ("pair" : Str), ("power" : Str), ("number" : Str), ("one" : Str), ("other" : Str)]) (sc := defScope (top 30)) (by decide +kernel)) (by decide) (fun _ _ _ _ _ => (xcName (pg_name (i := 1) S.nd rfl (by first | exact Or.inl rfl | exact Or.inr rfl)) (by decide))) (fun _ _ _ _ _ => xpNil) (fun _ _ _ _ _ => (xCallK (ps := [("value" : Str), ("low" : Str), ("high" : Str)]) K_is_tuple_of (hr.mono (by decide)) passN (xaCons (xVar 1) (xaCons xInt (xaCons xInt xaNil)))))) xaNil)))) (by first | exact Or.inl rfl | exact Or.inr rfl))).pt (xLast (xRet xBl)) xNil)
  (xCons (xSIf (xtNot (xtTru (xB (cr_all rfl) ok_all (by rfl) B.n_all boot_all (xaCons (xComp (own := [(("power" : Str), 2), (("number" : Str), 3)]) rfl S.nd (xiSeq (xVar 0)) (blkOk_by (N := [("value" : Str), ("pair" : Str), ("power" : Str), ("number" : Str), ("one" : Str), ("other" : Str)]) (sc := defScope (top 30)) (by decide +kernel)) (by decide) (fun _ _ _ _ _ => (xcTup rfl (xcCons (xcName (pg_name (i := 2) S.nd rfl (by first | exact Or.inl rfl | exact Or.inr rfl)) (by decide)) (xcCons (xcName (pg_name (i := 3) S.nd rfl (by first | exact Or.inl rfl | exact Or.inr rfl)) (by decide)) xcNil)))) (fun _ _ _ _ _ => xpNil) (fun _ _ _ _ _ => (xAnd (xCallK (ps := [("value" : Str), ("low" : Str), ("high" : Str)]) K_is_whole (hr.mono (by decide)) passN (xaCons (xVar 2) (xaCons (xUn un_neg ok_neg (xGint (n := ("POWER" : Str)) (by rfl) B.c_POWER)) (xaCons (xGint (n := ("POWER" : Str)) (by rfl) B.c_POWER) xaNil)))) (xOne (xCallK (ps := [("value" : Str), ("low" : Str), ("high" : Str)]) K_is_whole (hr.mono (by decide)) passN (xaCons (xVar 3) (xaCons (xUn un_neg ok_neg (xGint (n := ("GREAT" : Str)) (by rfl) B.c_GREAT)) (xaCons (xGint (n := ("GREAT" : Str)) (by rfl) B.c_GREAT) xaNil)))))))) xaNil)))) (xLast (xRet xBl)) xNil)
  (xCons (xSIf (xtNot (xtTru (xB (cr_all rfl) ok_all (by rfl) B.n_all boot_all (xaCons (xComp (own := [(("power" : Str), 2), (("number" : Str), 3)]) rfl S.nd (xiSeq (xVar 0)) (blkOk_by (N := [("value" : Str), ("pair" : Str), ("power" : Str), ("number" : Str), ("one" : Str), ("other" : Str)]) (sc := defScope (top 30)) (by decide +kernel)) (by decide) (fun _ _ _ _ _ => (xcTup rfl (xcCons (xcName (pg_name (i := 2) S.nd rfl (by first | exact Or.inl rfl | exact Or.inr rfl)) (by decide)) (xcCons (xcName (pg_name (i := 3) S.nd rfl (by first | exact Or.inl rfl | exact Or.inr rfl)) (by decide)) xcNil)))) (fun _ _ _ _ _ => xpNil) (fun _ _ _ _ _ => (xCmp (op_neP hu) ok_ne (xVar 3) xInt rfl))) xaNil)))) (xLast (xRet xBl)) xNil)
  (xLast (xRet (xB (cr_all rfl) ok_all (by rfl) B.n_all boot_all (xaCons (xComp (own := [(("one" : Str), 4), (("other" : Str), 5)]) rfl S.nd (xiZp (by rfl) B.n_zip (xaCons (xVar 0) (xaCons (xTail (xVar 0)) xaNil))) (blkOk_by (N := [("value" : Str), ("pair" : Str), ("power" : Str), ("number" : Str), ("one" : Str), ("other" : Str)]) (sc := defScope (top 30)) (by decide +kernel)) (by decide) (fun _ _ _ _ _ => (xcTup rfl (xcCons (xcName (pg_name (i := 4) S.nd rfl (by first | exact Or.inl rfl | exact Or.inr rfl)) (by decide)) (xcCons (xcName (pg_name (i := 5) S.nd rfl (by first | exact Or.inl rfl | exact Or.inr rfl)) (by decide)) xcNil)))) (fun _ _ _ _ _ => xpNil) (fun _ _ _ _ _ => (xCmp op_lt ok_lt (xIx hu (xVar 4) xInt) (xIx hu (xVar 5) xInt) rfl))) xaNil)))))))
/-! ### need_sum -/
def b_need_sum : Ev Ct := (sIf (tNotM (tTru (eCall 1 f_is_sum (aCons (eVar 0) aNil)))) (sRaise 2) sNil)
def f_need_sum : Fn := runB 1 b_need_sum
theorem sc_need_sum : FnScope (["value"] : List Str) ["value"] (defScope (top 31)) := ⟨rfl, rfl, rfl, by decide +kernel, rfl, by decide +kernel, by decide +kernel⟩
theorem ok_need_sum {fd : FuncData} (B : Blt K mg fa ca) (F : Fun K "need_sum" "need_sum" (top 31) (fa 14) fd) (hm : mg "need_sum" = some (.ref (fa 14))) (hb : Binds K fd ["value"] []) (K_is_sum : Kn P w K mg base fa ca 2 13 "is_sum" ["value"] f_is_sum) : Kn P w K mg base fa ca 3 14 "need_sum" ["value"] f_need_sum :=
  kn_of (lvl := 2) (N := ["value"]) (b := b_need_sum) F hm sc_need_sum hb fun cdv A outer s H E hr => by
    have S := sc_need_sum
    have hu := hr.units
    have tk : L2N.Takes (cxOf (L2N.CX P w) P w K mg base ["value"] "need_sum" (defScope (top 31)) (fa 14) cdv A outer s H E) (fun cls d _ H => E cls d H) := L2N.takes_of rfl rfl rfl rfl
    have hx : Passes (L2N.CX P w) (cxOf (L2N.CX P w) P w K mg base ["value"] "need_sum" (defScope (top 31)) (fa 14) cdv A outer s H E) E := L2N.passes_call tk fun _ _ _ _ h => h
    have hp : PassesOwn (model P w) (cxOf (L2N.CX P w) P w K mg base ["value"] "need_sum" (defScope (top 31)) (fa 14) cdv A outer s H E).A (cxOf (L2N.CX P w) P w K mg base ["value"] "need_sum" (defScope (top 31)) (fa 14) cdv A outer s H E).env (cxOf (L2N.CX P w) P w K mg base ["value"] "need_sum" (defScope (top 31)) (fa 14) cdv A outer s H E).xe := passes_of rfl
    exact (xLast (xSIf (xtNot (xtTru (xCallK (ps := [("value" : Str)]) K_is_sum (hr.mono (by decide)) hx (xaCons (xVar 0) xaNil)))) (xLast (xRaise rfl tk PySem.F.excBase_ValueError B.q_InvalidSum B.m_InvalidSum B.k_InvalidSum (raises_own B.s_InvalidSum B.t_InvalidSum) rfl)) xNil))
/-! ### from_dict -/
def b_from_dict : Ev Ct := (sRet (eOpL dTupX (aCons (eComp [1] (iSeq (eOpL dSortA (aCons (eVar 0) aNil))) (stD 1) (tBool (eOp2 dNe (eOp2 dSub_ (eVar 0) (eVar 1)) (eVal (.int 0)))) (eTup (aCons (eVar 1) (aCons (eOp2 dSub_ (eVar 0) (eVar 1)) aNil)))) aNil)))
def f_from_dict : Fn := runB 2 b_from_dict
theorem sc_from_dict : FnScope (["found", "power"] : List Str) ["found"] (defScope (top 32)) := ⟨rfl, rfl, rfl, by decide +kernel, rfl, by decide +kernel, by decide +kernel⟩
theorem ok_from_dict {fd : FuncData} (B : Blt K mg fa ca) (F : Fun K "from_dict" "from_dict" (top 32) (fa 15) fd) (hm : mg "from_dict" = some (.ref (fa 15))) (hb : Binds K fd ["found"] [])  : Kn P w K mg base fa ca 1 15 "from_dict" ["found"] f_from_dict :=
  kn_of (lvl := 0) (N := ["found", "power"]) (b := b_from_dict) F hm sc_from_dict hb fun cdv A outer s H E hr => by
    have S := sc_from_dict
    have hu := hr.units
    have tk : L2N.Takes (cxOf (L2N.CX P w) P w K mg base ["found", "power"] "from_dict" (defScope (top 32)) (fa 15) cdv A outer s H E) (fun cls d _ H => E cls d H) := L2N.takes_of rfl rfl rfl rfl
    have hx : Passes (L2N.CX P w) (cxOf (L2N.CX P w) P w K mg base ["found", "power"] "from_dict" (defScope (top 32)) (fa 15) cdv A outer s H E) E := L2N.passes_call tk fun _ _ _ _ h => h
    have hp : PassesOwn (model P w) (cxOf (L2N.CX P w) P w K mg base ["found", "power"] "from_dict" (defScope (top 32)) (fa 15) cdv A outer s H E).A (cxOf (L2N.CX P w) P w K mg base ["found", "power"] "from_dict" (defScope (top 32)) (fa 15) cdv A outer s H E).env (cxOf (L2N.CX P w) P w K mg base ["found", "power"] "from_dict" (defScope (top 32)) (fa 15) cdv A outer s H E).xe := passes_of rfl
    exact (xLast (xRet (xTy call_tupX ok_tupX (by rfl) B.n_tuple PyProof.Rows.boot_tuple (xaCons (xComp (own := [(("power" : Str), 1)]) rfl S.nd (xiSeq (xB (cr_sortA rfl) ok_sortA (by rfl) B.n_sorted PyProof.Rows.boot_sorted (xaCons (xVar 0) xaNil))) (blkOk_by (N := [("found" : Str), ("power" : Str)]) (sc := defScope (top 32)) (by decide +kernel)) (by decide) (fun _ _ _ _ _ => (xcName (pg_name (i := 1) S.nd rfl (by first | exact Or.inl rfl | exact Or.inr rfl)) (by decide))) (fun _ _ _ _ _ => (xpOne (xtCmp (op_neP hu) ok_ne (xIx hu (xVar 0) (xVar 1)) xInt rfl))) (fun _ _ _ _ _ => (xTup (xaCons (xVar 1) (xaCons (xIx hu (xVar 0) (xVar 1)) xaNil))))) xaNil))))
/-! ### times -/
def b_times : Ev Ct := (sSeq (sAsg (eNew (.dK [] [])) (stR 2))
  (sSeq (sFor (iSeq (eVar 0)) (tgT [(stD 3), (stD 4)]) (sFor (iSeq (eVar 1)) (tgT [(stD 5), (stD 6)]) (sAsg (eOp2 dAdd (eGet2 (eVar 2) (eOp2 dAdd (eVar 3) (eVar 5)) (eVal (.int 0))) (eOp2 dMul (eVar 4) (eVar 6))) (tgD (tgS 2 (eOp2 dAdd (eVar 3) (eVar 5)))))))
  (sRet (eCall 1 f_from_dict (aCons (eVar 2) aNil)))))
def f_times : Fn := runB 7 b_times
theorem sc_times : FnScope (["one", "other", "found", "power", "number", "further", "times_of"] : List Str) ["one", "other"] (defScope (top 33)) := ⟨rfl, rfl, rfl, by decide +kernel, rfl, by decide +kernel, by decide +kernel⟩
theorem ok_times {fd : FuncData} (B : Blt K mg fa ca) (F : Fun K "times" "times" (top 33) (fa 16) fd) (hm : mg "times" = some (.ref (fa 16))) (hb : Binds K fd ["one", "other"] []) (K_from_dict : Kn P w K mg base fa ca 1 15 "from_dict" ["found"] f_from_dict) : Kn P w K mg base fa ca 2 16 "times" ["one", "other"] f_times :=
  kn_of (lvl := 1) (N := ["one", "other", "found", "power", "number", "further", "times_of"]) (b := b_times) F hm sc_times hb fun cdv A outer s H E hr => by
    have S := sc_times
    have hu := hr.units
    have tk : L2N.Takes (cxOf (L2N.CX P w) P w K mg base ["one", "other", "found", "power", "number", "further", "times_of"] "times" (defScope (top 33)) (fa 16) cdv A outer s H E) (fun cls d _ H => E cls d H) := L2N.takes_of rfl rfl rfl rfl
    have hx : Passes (L2N.CX P w) (cxOf (L2N.CX P w) P w K mg base ["one", "other", "found", "power", "number", "further", "times_of"] "times" (defScope (top 33)) (fa 16) cdv A outer s H E) E := L2N.passes_call tk fun _ _ _ _ h => h
    have hp : PassesOwn (model P w) (cxOf (L2N.CX P w) P w K mg base ["one", "other", "found", "power", "number", "further", "times_of"] "times" (defScope (top 33)) (fa 16) cdv A outer s H E).A (cxOf (L2N.CX P w) P w K mg base ["one", "other", "found", "power", "number", "further", "times_of"] "times" (defScope (top 33)) (fa 16) cdv A outer s H E).env (cxOf (L2N.CX P w) P w K mg base ["one", "other", "found", "power", "number", "further", "times_of"] "times" (defScope (top 33)) (fa 16) cdv A outer s H E).xe := passes_of rfl
    exact (xCons (xAsg xDK (xgName (pg_name (i := 2) S.nd rfl (by first | exact Or.inl rfl | exact Or.inr rfl))))
  (xCons (xFor hp rfl (xiSeq (xVar 0)) (xdTup rfl (xsConsG (xdName (pg_name (i := 3) S.nd rfl (by first | exact Or.inl rfl | exact Or.inr rfl))) (xsConsG (xdName (pg_name (i := 4) S.nd rfl (by first | exact Or.inl rfl | exact Or.inr rfl))) xsNilG))) (xLast (xFor hp rfl (xiSeq (xVar 1)) (xdTup rfl (xsConsG (xdName (pg_name (i := 5) S.nd rfl (by first | exact Or.inl rfl | exact Or.inr rfl))) (xsConsG (xdName (pg_name (i := 6) S.nd rfl (by first | exact Or.inl rfl | exact Or.inr rfl))) xsNilG))) (xLast (xAsg (xBin op_add' ok_add (xGet2 hu (xVar 2) (xBin op_add' ok_add (xVar 3) (xVar 5)) xInt) (xBin op_mul' ok_mul (xVar 4) (xVar 6))) (xgD (xdSub hu (xVar 2) (xBin op_add' ok_add (xVar 3) (xVar 5)))))))))
  (xLast (xRet (xCallK (ps := [("found" : Str)]) K_from_dict (hr.mono (by decide)) hx (xaCons (xVar 2) xaNil))))))
/-! ### product -/
def b_product : Ev Ct := (sSeq (sExpr (eCall 1 f_need_sum (aCons (eVar 0) aNil)))
  (sSeq (sExpr (eCall 1 f_need_sum (aCons (eVar 1) aNil)))
  (sRet (eCall 2 f_times (aCons (eVar 0) (aCons (eVar 1) aNil))))))
def f_product : Fn := runB 2 b_product
theorem sc_product : FnScope (["one", "other"] : List Str) ["one", "other"] (defScope (top 34)) := ⟨rfl, rfl, rfl, by decide +kernel, rfl, by decide +kernel, by decide +kernel⟩
theorem ok_product {fd : FuncData} (B : Blt K mg fa ca) (F : Fun K "product" "product" (top 34) (fa 17) fd) (hm : mg "product" = some (.ref (fa 17))) (hb : Binds K fd ["one", "other"] []) (K_need_sum : Kn P w K mg base fa ca 3 14 "need_sum" ["value"] f_need_sum) (K_times : Kn P w K mg base fa ca 2 16 "times" ["one", "other"] f_times) : Kn P w K mg base fa ca 4 17 "product" ["one", "other"] f_product :=
  kn_of (lvl := 3) (N := ["one", "other"]) (b := b_product) F hm sc_product hb fun cdv A outer s H E hr => by
    have S := sc_product
    have hu := hr.units
    have tk : L2N.Takes (cxOf (L2N.CX P w) P w K mg base ["one", "other"] "product" (defScope (top 34)) (fa 17) cdv A outer s H E) (fun cls d _ H => E cls d H) := L2N.takes_of rfl rfl rfl rfl
    have hx : Passes (L2N.CX P w) (cxOf (L2N.CX P w) P w K mg base ["one", "other"] "product" (defScope (top 34)) (fa 17) cdv A outer s H E) E := L2N.passes_call tk fun _ _ _ _ h => h
    have hp : PassesOwn (model P w) (cxOf (L2N.CX P w) P w K mg base ["one", "other"] "product" (defScope (top 34)) (fa 17) cdv A outer s H E).A (cxOf (L2N.CX P w) P w K mg base ["one", "other"] "product" (defScope (top 34)) (fa 17) cdv A outer s H E).env (cxOf (L2N.CX P w) P w K mg base ["one", "other"] "product" (defScope (top 34)) (fa 17) cdv A outer s H E).xe := passes_of rfl
    exact (xCons (xExpr (xCallK (ps := [("value" : Str)]) K_need_sum (hr.mono (by decide)) hx (xaCons (xVar 0) xaNil)))
  (xCons (xExpr (xCallK (ps := [("value" : Str)]) K_need_sum (hr.mono (by decide)) hx (xaCons (xVar 1) xaNil)))
  (xLast (xRet (xCallK (ps := [("one" : Str), ("other" : Str)]) K_times (hr.mono (by decide)) hx (xaCons (xVar 0) (xaCons (xVar 1) xaNil)))))))
/-! ### turned -/
def b_turned : Ev Ct := (sSeq (sExpr (eCall 1 f_need_sum (aCons (eVar 0) aNil)))
  (sRet (eOpL dTuple (aCons (eComp [1, 2] (iSeq (eOp1 dRev (eVar 0))) (tgT [(stD 1), (stD 2)]) tYesM (eTup (aCons (eOp1 dNeg (eVar 1)) (aCons (eVar 2) aNil)))) aNil))))
def f_turned : Fn := runB 3 b_turned
theorem sc_turned : FnScope (["one", "power", "number"] : List Str) ["one"] (defScope (top 35)) := ⟨rfl, rfl, rfl, by decide +kernel, rfl, by decide +kernel, by decide +kernel⟩
theorem ok_turned {fd : FuncData} (B : Blt K mg fa ca) (F : Fun K "turned" "turned" (top 35) (fa 18) fd) (hm : mg "turned" = some (.ref (fa 18))) (hb : Binds K fd ["one"] []) (K_need_sum : Kn P w K mg base fa ca 3 14 "need_sum" ["value"] f_need_sum) : Kn P w K mg base fa ca 4 18 "turned" ["one"] f_turned :=
  kn_of (lvl := 3) (N := ["one", "power", "number"]) (b := b_turned) F hm sc_turned hb fun cdv A outer s H E hr => by
    have S := sc_turned
    have hu := hr.units
    have tk : L2N.Takes (cxOf (L2N.CX P w) P w K mg base ["one", "power", "number"] "turned" (defScope (top 35)) (fa 18) cdv A outer s H E) (fun cls d _ H => E cls d H) := L2N.takes_of rfl rfl rfl rfl
    have hx : Passes (L2N.CX P w) (cxOf (L2N.CX P w) P w K mg base ["one", "power", "number"] "turned" (defScope (top 35)) (fa 18) cdv A outer s H E) E := L2N.passes_call tk fun _ _ _ _ h => h
    have hp : PassesOwn (model P w) (cxOf (L2N.CX P w) P w K mg base ["one", "power", "number"] "turned" (defScope (top 35)) (fa 18) cdv A outer s H E).A (cxOf (L2N.CX P w) P w K mg base ["one", "power", "number"] "turned" (defScope (top 35)) (fa 18) cdv A outer s H E).env (cxOf (L2N.CX P w) P w K mg base ["one", "power", "number"] "turned" (defScope (top 35)) (fa 18) cdv A outer s H E).xe := passes_of rfl
    exact (xCons (xExpr (xCallK (ps := [("value" : Str)]) K_need_sum (hr.mono (by decide)) hx (xaCons (xVar 0) xaNil)))
  (xLast (xRet (xTy call_tuple_of ok_tuple (by rfl) B.n_tuple PyProof.Rows.boot_tuple (xaCons (xComp (own := [(("power" : Str), 1), (("number" : Str), 2)]) rfl S.nd (xiSeq (xRev (xVar 0))) (blkOk_by (N := [("one" : Str), ("power" : Str), ("number" : Str)]) (sc := defScope (top 35)) (by decide +kernel)) (by decide) (fun _ _ _ _ _ => (xcTup rfl (xcCons (xcName (pg_name (i := 1) S.nd rfl (by first | exact Or.inl rfl | exact Or.inr rfl)) (by decide)) (xcCons (xcName (pg_name (i := 2) S.nd rfl (by first | exact Or.inl rfl | exact Or.inr rfl)) (by decide)) xcNil)))) (fun _ _ _ _ _ => xpNil) (fun _ _ _ _ _ => (xTup (xaCons (xUn un_neg ok_neg (xVar 1)) (xaCons (xVar 2) xaNil))))) xaNil)))))
/-! ### value_at -/
def b_value_at : Ev Ct := (sSeq (sExpr (eCall 1 f_need_sum (aCons (eVar 0) aNil)))
  (sSeq (sIf (tOrM (tNotM (tTru (eCall 3 f_is_whole (aCons (eVar 1) (aCons (eOp1 dNeg (eVal (.int 1))) (aCons (eVal (.int 1)) aNil)))))) (tBool (eOp2 dEq (eVar 1) (eVal (.int 0))))) (sRaise 1) sNil)
  (sRet (eOpL dSum (aCons (eComp [2, 3] (iSeq (eVar 0)) (tgT [(stD 2), (stD 3)]) tYesM (eIf (tOrM (tBool (eOp2 dEq (eVar 1) (eVal (.int 1)))) (tBool (eOp2 dEq (eOp2 dMod (eVar 2) (eVal (.int 2))) (eVal (.int 0))))) (eVar 3) (eOp1 dNeg (eVar 3)))) aNil)))))
def f_value_at : Fn := runB 4 b_value_at
theorem sc_value_at : FnScope (["one", "sign", "power", "number"] : List Str) ["one", "sign"] (defScope (top 36)) := ⟨rfl, rfl, rfl, by decide +kernel, rfl, by decide +kernel, by decide +kernel⟩
theorem ok_value_at {fd : FuncData} (B : Blt K mg fa ca) (F : Fun K "value_at" "value_at" (top 36) (fa 19) fd) (hm : mg "value_at" = some (.ref (fa 19))) (hb : Binds K fd ["one", "sign"] []) (K_need_sum : Kn P w K mg base fa ca 3 14 "need_sum" ["value"] f_need_sum) (K_is_whole : Kn P w K mg base fa ca 1 0 "is_whole" ["value", "low", "high"] f_is_whole) : Kn P w K mg base fa ca 4 19 "value_at" ["one", "sign"] f_value_at :=
  kn_of (lvl := 3) (N := ["one", "sign", "power", "number"]) (b := b_value_at) F hm sc_value_at hb fun cdv A outer s H E hr => by
    have S := sc_value_at
    have hu := hr.units
    have tk : L2N.Takes (cxOf (L2N.CX P w) P w K mg base ["one", "sign", "power", "number"] "value_at" (defScope (top 36)) (fa 19) cdv A outer s H E) (fun cls d _ H => E cls d H) := L2N.takes_of rfl rfl rfl rfl
    have hx : Passes (L2N.CX P w) (cxOf (L2N.CX P w) P w K mg base ["one", "sign", "power", "number"] "value_at" (defScope (top 36)) (fa 19) cdv A outer s H E) E := L2N.passes_call tk fun _ _ _ _ h => h
    have hp : PassesOwn (model P w) (cxOf (L2N.CX P w) P w K mg base ["one", "sign", "power", "number"] "value_at" (defScope (top 36)) (fa 19) cdv A outer s H E).A (cxOf (L2N.CX P w) P w K mg base ["one", "sign", "power", "number"] "value_at" (defScope (top 36)) (fa 19) cdv A outer s H E).env (cxOf (L2N.CX P w) P w K mg base ["one", "sign", "power", "number"] "value_at" (defScope (top 36)) (fa 19) cdv A outer s H E).xe := passes_of rfl
    exact (xCons (xExpr (xCallK (ps := [("value" : Str)]) K_need_sum (hr.mono (by decide)) hx (xaCons (xVar 0) xaNil)))
  (xCons (xSIf (xwOr (xtNot (xtTru (xCallK (ps := [("value" : Str), ("low" : Str), ("high" : Str)]) K_is_whole (hr.mono (by decide)) hx (xaCons (xVar 1) (xaCons (xUn un_neg ok_neg xInt) (xaCons xInt xaNil)))))) (xwOne (xtCmp (op_eqP hu) ok_eq (xVar 1) xInt rfl) (by first | exact Or.inl rfl | exact Or.inr rfl))).pt (xLast (xRaise rfl tk PySem.F.excBase_ValueError B.q_InvalidNumber B.m_InvalidNumber B.k_InvalidNumber (raises_own B.s_InvalidNumber B.t_InvalidNumber) rfl)) xNil)
  (xLast (xRet (xB (cr_sum rfl) ok_sum (by rfl) B.n_sum boot_sum (xaCons (xComp (own := [(("power" : Str), 2), (("number" : Str), 3)]) rfl S.nd (xiSeq (xVar 0)) (blkOk_by (N := [("one" : Str), ("sign" : Str), ("power" : Str), ("number" : Str)]) (sc := defScope (top 36)) (by decide +kernel)) (by decide) (fun _ _ _ _ _ => (xcTup rfl (xcCons (xcName (pg_name (i := 2) S.nd rfl (by first | exact Or.inl rfl | exact Or.inr rfl)) (by decide)) (xcCons (xcName (pg_name (i := 3) S.nd rfl (by first | exact Or.inl rfl | exact Or.inr rfl)) (by decide)) xcNil)))) (fun _ _ _ _ _ => xpNil) (fun _ _ _ _ _ => (xIf (xwOr (xtCmp (op_eqP hu) ok_eq (xVar 1) xInt rfl) (xwOne (xtCmp (op_eqP hu) ok_eq (xBin op_modN ok_mod (xVar 2) xInt) xInt rfl) (by first | exact Or.inl rfl | exact Or.inr rfl))).pt (xVar 3) (xUn un_neg ok_neg (xVar 3))))) xaNil))))))
/-! ### quotient -/
def b_quotient : Ev Ct := (sSeq (sExpr (eCall 1 f_need_sum (aCons (eVar 0) aNil)))
  (sSeq (sExpr (eCall 1 f_need_sum (aCons (eVar 1) aNil)))
  (sSeq (sIf (tBool (eOp2 dEq (eVar 1) (eTup aNil))) (sRaise 5) sNil)
  (sSeq (sPar2 2 3 (aCons (eOpL dDict (aCons (eVar 0) aNil)) (aCons (eNew (.dK [] [])) aNil)))
  (sSeq (sAsg (eOp2 dSub_ (eVar 1) (eVal (.int 0))) (tgD (tgT [(stD 4), (stD 5)])))
  (sSeq (sWh 100000 (tBool (eOp2 dGt (eOpL dLenA (aCons (eVar 2) aNil)) (eVal (.int 0)))) (sSeq (sAsg (eOpL dMinA (aCons (eVar 2) aNil)) (stR 6))
  (sSeq (sIf (tOrM (tBool (eOp2 dNe (eOp2 dMod (eOp2 dSub_ (eVar 2) (eVar 6)) (eVar 5)) (eVal (.int 0)))) (tBool (eOp2 dGt (eOp2 dSub (eVar 6) (eVar 4)) (eOp2 dMul (eVal (.int 1000)) (eVal (.int 3)))))) (sRaise 5) sNil)
  (sSeq (sPar2 7 8 (aCons (eOp2 dSub (eVar 6) (eVar 4)) (aCons (eOp2 dFdiv (eOp2 dSub_ (eVar 2) (eVar 6)) (eVar 5)) aNil)))
  (sSeq (sIf (tBool (eOp2 dLt (eOp2 dSub (eOpL dMaxA (aCons (eVar 2) aNil)) (eVar 7)) (eOp2 dSub_ (eOp2 dSub_ (eVar 1) (eOp1 dNeg (eVal (.int 1)))) (eVal (.int 0))))) (sRaise 5) sNil)
  (sSeq (sAsg (eVar 8) (tgD (tgS 3 (eVar 7))))
  (sSeq (sFor (iSeq (eVar 1)) (tgT [(stD 9), (stD 10)]) (sSeq (sAsg (eOp2 dSub (eGet2 (eVar 2) (eOp2 dAdd (eVar 9) (eVar 7)) (eVal (.int 0))) (eOp2 dMul (eVar 8) (eVar 10))) (stR 11))
  (sAsg (eVar 11) (tgD (tgS 2 (eOp2 dAdd (eVar 9) (eVar 7)))))))
  (sAsg (eOpL dDict (aCons (eCompK 2 [12] (stD 12) (tBool (eOp2 dNe (eOp2 dSub_ (eVar 2) (eVar 12)) (eVal (.int 0)))) (eTup (aCons (eVar 12) (aCons (eOp2 dSub_ (eVar 2) (eVar 12)) aNil)))) aNil)) (stR 2)))))))))
  (sRet (eCall 1 f_from_dict (aCons (eVar 3) aNil)))))))))
def f_quotient : Fn := runB 13 b_quotient
theorem sc_quotient : FnScope (["one", "other", "left", "found", "low", "first", "power", "by", "number", "further", "times_of", "here", "at"] : List Str) ["one", "other"] (defScope (top 37)) := ⟨rfl, rfl, rfl, by decide +kernel, rfl, by decide +kernel, by decide +kernel⟩
theorem ok_quotient {fd : FuncData} (B : Blt K mg fa ca) (F : Fun K "quotient" "quotient" (top 37) (fa 20) fd) (hm : mg "quotient" = some (.ref (fa 20))) (hb : Binds K fd ["one", "other"] []) (K_need_sum : Kn P w K mg base fa ca 3 14 "need_sum" ["value"] f_need_sum) (K_from_dict : Kn P w K mg base fa ca 1 15 "from_dict" ["found"] f_from_dict) : Kn P w K mg base fa ca 4 20 "quotient" ["one", "other"] f_quotient :=
  kn_of (lvl := 3) (N := ["one", "other", "left", "found", "low", "first", "power", "by", "number", "further", "times_of", "here", "at"]) (b := b_quotient) F hm sc_quotient hb fun cdv A outer s H E hr => by
    have S := sc_quotient
    have hu := hr.units
    have tk : L2N.Takes (cxOf (L2N.CX P w) P w K mg base ["one", "other", "left", "found", "low", "first", "power", "by", "number", "further", "times_of", "here", "at"] "quotient" (defScope (top 37)) (fa 20) cdv A outer s H E) (fun cls d _ H => E cls d H) := L2N.takes_of rfl rfl rfl rfl
    have hx : Passes (L2N.CX P w) (cxOf (L2N.CX P w) P w K mg base ["one", "other", "left", "found", "low", "first", "power", "by", "number", "further", "times_of", "here", "at"] "quotient" (defScope (top 37)) (fa 20) cdv A outer s H E) E := L2N.passes_call tk fun _ _ _ _ h => h
    have hp : PassesOwn (model P w) (cxOf (L2N.CX P w) P w K mg base ["one", "other", "left", "found", "low", "first", "power", "by", "number", "further", "times_of", "here", "at"] "quotient" (defScope (top 37)) (fa 20) cdv A outer s H E).A (cxOf (L2N.CX P w) P w K mg base ["one", "other", "left", "found", "low", "first", "power", "by", "number", "further", "times_of", "here", "at"] "quotient" (defScope (top 37)) (fa 20) cdv A outer s H E).env (cxOf (L2N.CX P w) P w K mg base ["one", "other", "left", "found", "low", "first", "power", "by", "number", "further", "times_of", "here", "at"] "quotient" (defScope (top 37)) (fa 20) cdv A outer s H E).xe := passes_of rfl
    exact (xCons (xExpr (xCallK (ps := [("value" : Str)]) K_need_sum (hr.mono (by decide)) hx (xaCons (xVar 0) xaNil)))
  (xCons (xExpr (xCallK (ps := [("value" : Str)]) K_need_sum (hr.mono (by decide)) hx (xaCons (xVar 1) xaNil)))
  (xCons (xSIf (xtCmp (op_eqP hu) ok_eq (xVar 1) (xTup xaNil) rfl) (xLast (xRaise rfl tk PySem.F.excBase_ValueError B.q_NotFound B.m_NotFound B.k_NotFound (raises_own B.s_NotFound B.t_NotFound) rfl)) xNil)
  (xCons (xParT2 rfl (pg_name (i := 2) S.nd rfl (by first | exact Or.inl rfl | exact Or.inr rfl)) (pg_name (i := 3) S.nd rfl (by first | exact Or.inl rfl | exact Or.inr rfl)) (xaCons (xTy (call_dictA rfl) ok_dict (by rfl) B.n_dict PyProof.Rows.boot_dict (xaCons (xVar 0) xaNil)) (xaCons xDK xaNil)))
  (xCons (xAsg (xIx hu (xVar 1) xInt) (xgD (xdTup rfl (xsConsG (xdName (pg_name (i := 4) S.nd rfl (by first | exact Or.inl rfl | exact Or.inr rfl))) (xsConsG (xdName (pg_name (i := 5) S.nd rfl (by first | exact Or.inl rfl | exact Or.inr rfl))) xsNilG)))))
  (xCons (xWh 100000 hp (xtCmp op_gt ok_gt (xB call_lenA ok_lenA (by rfl) B.n_len PySem.boot_len (xaCons (xVar 2) xaNil)) xInt rfl) (xCons (xAsg (xB (cr_minB rfl hu) ok_minA (by rfl) B.n_min boot_min (xaCons (xVar 2) xaNil)) (xgName (pg_name (i := 6) S.nd rfl (by first | exact Or.inl rfl | exact Or.inr rfl))))
  (xCons (xSIf (xwOr (xtCmp (op_neP hu) ok_ne (xBin op_modN ok_mod (xIx hu (xVar 2) (xVar 6)) (xVar 5)) xInt rfl) (xwOne (xtCmp op_gt ok_gt (xBin op_sub ok_sub (xVar 6) (xVar 4)) (xBin op_mul' ok_mul (xGint (n := ("POWER" : Str)) (by rfl) B.c_POWER) xInt) rfl) (by first | exact Or.inl rfl | exact Or.inr rfl))).pt (xLast (xRaise rfl tk PySem.F.excBase_ValueError B.q_NotFound B.m_NotFound B.k_NotFound (raises_own B.s_NotFound B.t_NotFound) rfl)) xNil)
  (xCons (xPar2 rfl S.nd (i := 7) (j := 8) rfl rfl (by decide) rfl rfl (xaCons (xBin op_sub ok_sub (xVar 6) (xVar 4)) (xaCons (xBin op_fdivN ok_fdiv (xIx hu (xVar 2) (xVar 6)) (xVar 5)) xaNil)) rfl)
  (xCons (xSIf (xtCmp op_lt ok_lt (xBin op_sub ok_sub (xB (cr_maxA rfl) ok_maxA (by rfl) B.n_max boot_max (xaCons (xVar 2) xaNil)) (xVar 7)) (xIx hu (xIx hu (xVar 1) (xUn un_neg ok_neg xInt)) xInt) rfl) (xLast (xRaise rfl tk PySem.F.excBase_ValueError B.q_NotFound B.m_NotFound B.k_NotFound (raises_own B.s_NotFound B.t_NotFound) rfl)) xNil)
  (xCons (xAsg (xVar 8) (xgD (xdSub hu (xVar 3) (xVar 7))))
  (xCons (xFor hp rfl (xiSeq (xVar 1)) (xdTup rfl (xsConsG (xdName (pg_name (i := 9) S.nd rfl (by first | exact Or.inl rfl | exact Or.inr rfl))) (xsConsG (xdName (pg_name (i := 10) S.nd rfl (by first | exact Or.inl rfl | exact Or.inr rfl))) xsNilG))) (xCons (xAsg (xBin op_sub ok_sub (xGet2 hu (xVar 2) (xBin op_add' ok_add (xVar 9) (xVar 7)) xInt) (xBin op_mul' ok_mul (xVar 8) (xVar 10))) (xgName (pg_name (i := 11) S.nd rfl (by first | exact Or.inl rfl | exact Or.inr rfl))))
  (xLast (xAsg (xVar 11) (xgD (xdSub hu (xVar 2) (xBin op_add' ok_add (xVar 9) (xVar 7))))))))
  (xLast (xAsg (xTy (call_dictA rfl) ok_dict (by rfl) B.n_dict PyProof.Rows.boot_dict (xaCons (xCompK (own := [(("at" : Str), 12)]) (i := 2) rfl S.nd (pv 2) (blkOk_by (N := [("one" : Str), ("other" : Str), ("left" : Str), ("found" : Str), ("low" : Str), ("first" : Str), ("power" : Str), ("by" : Str), ("number" : Str), ("further" : Str), ("times_of" : Str), ("here" : Str), ("at" : Str)]) (sc := defScope (top 37)) (by decide +kernel)) (by decide) (fun _ _ _ _ _ => (xcName (pg_name (i := 12) S.nd rfl (by first | exact Or.inl rfl | exact Or.inr rfl)) (by decide))) (fun _ _ _ _ _ => (xpOne (xtCmp (op_neP hu) ok_ne (xIx hu (xVar 2) (xVar 12)) xInt rfl))) (fun _ _ _ _ _ => (xTup (xaCons (xVar 12) (xaCons (xIx hu (xVar 2) (xVar 12)) xaNil)))) (by intro _; rfl)) xaNil)) (xgName (pg_name (i := 2) S.nd rfl (by first | exact Or.inl rfl | exact Or.inr rfl))))))))))))
  (xLast (xRet (xCallK (ps := [("found" : Str)]) K_from_dict (hr.mono (by decide)) hx (xaCons (xVar 3) xaNil))))))))))
/-! ### need_torus -/
def b_need_torus : Ev Ct := (sSeq (sExpr (eCall 3 f_need_whole (aCons (eVar 0) (aCons (eVal (.int 2)) (aCons (eVal (.int 8)) aNil)))))
  (sSeq (sExpr (eCall 3 f_need_whole (aCons (eVar 1) (aCons (eVal (.int 1)) (aCons (eVal (.int 40)) aNil)))))
  (sIf (tBool (eOp2 dGt (eOp2 dMul (eOp2 dSub (eVar 0) (eVal (.int 1))) (eVar 1)) (eVal (.int 40)))) (sRaise 1) sNil)))
def f_need_torus : Fn := runB 2 b_need_torus
theorem sc_need_torus : FnScope (["p", "q"] : List Str) ["p", "q"] (defScope (top 41)) := ⟨rfl, rfl, rfl, by decide +kernel, rfl, by decide +kernel, by decide +kernel⟩
theorem ok_need_torus {fd : FuncData} (B : Blt K mg fa ca) (F : Fun K "need_torus" "need_torus" (top 41) (fa 21) fd) (hm : mg "need_torus" = some (.ref (fa 21))) (hb : Binds K fd ["p", "q"] []) (K_need_whole : Kn P w K mg base fa ca 2 1 "need_whole" ["value", "low", "high"] f_need_whole) : Kn P w K mg base fa ca 3 21 "need_torus" ["p", "q"] f_need_torus :=
  kn_of (lvl := 2) (N := ["p", "q"]) (b := b_need_torus) F hm sc_need_torus hb fun cdv A outer s H E hr => by
    have S := sc_need_torus
    have hu := hr.units
    have tk : L2N.Takes (cxOf (L2N.CX P w) P w K mg base ["p", "q"] "need_torus" (defScope (top 41)) (fa 21) cdv A outer s H E) (fun cls d _ H => E cls d H) := L2N.takes_of rfl rfl rfl rfl
    have hx : Passes (L2N.CX P w) (cxOf (L2N.CX P w) P w K mg base ["p", "q"] "need_torus" (defScope (top 41)) (fa 21) cdv A outer s H E) E := L2N.passes_call tk fun _ _ _ _ h => h
    have hp : PassesOwn (model P w) (cxOf (L2N.CX P w) P w K mg base ["p", "q"] "need_torus" (defScope (top 41)) (fa 21) cdv A outer s H E).A (cxOf (L2N.CX P w) P w K mg base ["p", "q"] "need_torus" (defScope (top 41)) (fa 21) cdv A outer s H E).env (cxOf (L2N.CX P w) P w K mg base ["p", "q"] "need_torus" (defScope (top 41)) (fa 21) cdv A outer s H E).xe := passes_of rfl
    exact (xCons (xExpr (xCallK (ps := [("value" : Str), ("low" : Str), ("high" : Str)]) K_need_whole (hr.mono (by decide)) hx (xaCons (xVar 0) (xaCons xInt (xaCons (xGint (n := ("STRANDS" : Str)) (by rfl) B.c_STRANDS) xaNil)))))
  (xCons (xExpr (xCallK (ps := [("value" : Str), ("low" : Str), ("high" : Str)]) K_need_whole (hr.mono (by decide)) hx (xaCons (xVar 1) (xaCons xInt (xaCons (xGint (n := ("ROUNDS" : Str)) (by rfl) B.c_ROUNDS) xaNil)))))
  (xLast (xSIf (xtCmp op_gt ok_gt (xBin op_mul' ok_mul (xBin op_sub ok_sub (xVar 0) xInt) (xVar 1)) (xGint (n := ("CROSSINGS" : Str)) (by rfl) B.c_CROSSINGS) rfl) (xLast (xRaise rfl tk PySem.F.excBase_ValueError B.q_InvalidNumber B.m_InvalidNumber B.k_InvalidNumber (raises_own B.s_InvalidNumber B.t_InvalidNumber) rfl)) xNil))))
/-! ### need_single -/
def b_need_single : Ev Ct := (sSeq (sExpr (eCall 2 f_need_torus (aCons (eVar 0) (aCons (eVar 1) aNil))))
  (sIf (tBool (eOp2 dGt (eOpL dGcd (aCons (eVar 0) (aCons (eVar 1) aNil))) (eVal (.int 1)))) (sRaise 6) sNil))
def f_need_single : Fn := runB 2 b_need_single
theorem sc_need_single : FnScope (["p", "q"] : List Str) ["p", "q"] (defScope (top 42)) := ⟨rfl, rfl, rfl, by decide +kernel, rfl, by decide +kernel, by decide +kernel⟩
theorem ok_need_single {fd : FuncData} (B : Blt K mg fa ca) (F : Fun K "need_single" "need_single" (top 42) (fa 22) fd) (hm : mg "need_single" = some (.ref (fa 22))) (hb : Binds K fd ["p", "q"] []) (K_need_torus : Kn P w K mg base fa ca 3 21 "need_torus" ["p", "q"] f_need_torus) : Kn P w K mg base fa ca 4 22 "need_single" ["p", "q"] f_need_single :=
  kn_of (lvl := 3) (N := ["p", "q"]) (b := b_need_single) F hm sc_need_single hb fun cdv A outer s H E hr => by
    have S := sc_need_single
    have hu := hr.units
    have tk : L2N.Takes (cxOf (L2N.CX P w) P w K mg base ["p", "q"] "need_single" (defScope (top 42)) (fa 22) cdv A outer s H E) (fun cls d _ H => E cls d H) := L2N.takes_of rfl rfl rfl rfl
    have hx : Passes (L2N.CX P w) (cxOf (L2N.CX P w) P w K mg base ["p", "q"] "need_single" (defScope (top 42)) (fa 22) cdv A outer s H E) E := L2N.passes_call tk fun _ _ _ _ h => h
    have hp : PassesOwn (model P w) (cxOf (L2N.CX P w) P w K mg base ["p", "q"] "need_single" (defScope (top 42)) (fa 22) cdv A outer s H E).A (cxOf (L2N.CX P w) P w K mg base ["p", "q"] "need_single" (defScope (top 42)) (fa 22) cdv A outer s H E).env (cxOf (L2N.CX P w) P w K mg base ["p", "q"] "need_single" (defScope (top 42)) (fa 22) cdv A outer s H E).xe := passes_of rfl
    exact (xCons (xExpr (xCallK (ps := [("p" : Str), ("q" : Str)]) K_need_torus (hr.mono (by decide)) hx (xaCons (xVar 0) (xaCons (xVar 1) xaNil))))
  (xLast (xSIf (xtCmp op_gt ok_gt (xBfun cr_gcd ok_gcd (by rfl) B.n_gcd (xaCons (xVar 0) (xaCons (xVar 1) xaNil))) xInt rfl) (xLast (xRaise rfl tk PySem.F.excBase_ValueError B.q_NotNow B.m_NotNow B.k_NotNow (raises_own B.s_NotNow B.t_NotNow) rfl)) xNil)))
/-! ### less_one -/
def b_less_one : Ev Ct := (sRet (eTup (aCons (eTup (aCons (eVal (.int 0)) (aCons (eOp1 dNeg (eVal (.int 1))) aNil))) (aCons (eTup (aCons (eVar 0) (aCons (eVal (.int 1)) aNil))) aNil))))
def f_less_one : Fn := runB 1 b_less_one
theorem sc_less_one : FnScope (["power"] : List Str) ["power"] (defScope (top 43)) := ⟨rfl, rfl, rfl, by decide +kernel, rfl, by decide +kernel, by decide +kernel⟩
theorem ok_less_one {fd : FuncData} (B : Blt K mg fa ca) (F : Fun K "less_one" "less_one" (top 43) (fa 23) fd) (hm : mg "less_one" = some (.ref (fa 23))) (hb : Binds K fd ["power"] [])  : Kn P w K mg base fa ca 1 23 "less_one" ["power"] f_less_one :=
  kn_of (lvl := 0) (N := ["power"]) (b := b_less_one) F hm sc_less_one hb fun cdv A outer s H E hr => by
    have S := sc_less_one
    have hu := hr.units
    have tk : L2N.Takes (cxOf (L2N.CX P w) P w K mg base ["power"] "less_one" (defScope (top 43)) (fa 23) cdv A outer s H E) (fun cls d _ H => E cls d H) := L2N.takes_of rfl rfl rfl rfl
    have hx : Passes (L2N.CX P w) (cxOf (L2N.CX P w) P w K mg base ["power"] "less_one" (defScope (top 43)) (fa 23) cdv A outer s H E) E := L2N.passes_call tk fun _ _ _ _ h => h
    have hp : PassesOwn (model P w) (cxOf (L2N.CX P w) P w K mg base ["power"] "less_one" (defScope (top 43)) (fa 23) cdv A outer s H E).A (cxOf (L2N.CX P w) P w K mg base ["power"] "less_one" (defScope (top 43)) (fa 23) cdv A outer s H E).env (cxOf (L2N.CX P w) P w K mg base ["power"] "less_one" (defScope (top 43)) (fa 23) cdv A outer s H E).xe := passes_of rfl
    exact (xLast (xRet (xTup (xaCons (xTup (xaCons xInt (xaCons (xUn un_neg ok_neg xInt) xaNil))) (xaCons (xTup (xaCons (xVar 0) (xaCons xInt xaNil))) xaNil)))))
/-! ### crossings_from -/
def b_crossings_from : Ev Ct := (sSeq (sPar2 2 3 (aCons (eOpL dList (aCons (eVar 2) aNil)) (aCons (eLst aNil) aNil)))
  (sSeq (sFor (iRng1 (aCons (eOp2 dMul (eOp2 dSub (eVar 0) (eVal (.int 1))) (eVar 1)) aNil)) (stD 4) (sSeq (sAsg (eOp2 dMod (eVar 4) (eOp2 dSub (eVar 0) (eVal (.int 1)))) (stR 5))
  (sSeq (sExpr (eMet true 3 mAppend (aCons (eTup (aCons (eOp2 dSub_ (eVar 2) (eOp2 dAdd (eVar 5) (eVal (.int 1)))) (aCons (eOp2 dAdd (eOp2 dMul (eVal (.int 2)) (eVar 4)) (eVal (.int 1))) (aCons (eOp2 dMul (eVal (.int 2)) (eVar 4)) (aCons (eOp2 dSub_ (eVar 2) (eVar 5)) aNil))))) aNil)))
  (sAsg (eTup (aCons (eOp2 dMul (eVal (.int 2)) (eVar 4)) (aCons (eOp2 dAdd (eOp2 dMul (eVal (.int 2)) (eVar 4)) (eVal (.int 1))) aNil))) (tgD (tgT [(tgS 2 (eVar 5)), (tgS 2 (eOp2 dAdd (eVar 5) (eVal (.int 1))))]))))))
  (sRet (eTup (aCons (eVar 3) (aCons (eVar 2) aNil))))))
def f_crossings_from : Fn := runB 6 b_crossings_from
theorem sc_crossings_from : FnScope (["p", "q", "edges", "found", "at", "place"] : List Str) ["p", "q", "edges"] (defScope (top 44)) := ⟨rfl, rfl, rfl, by decide +kernel, rfl, by decide +kernel, by decide +kernel⟩
theorem ok_crossings_from {fd : FuncData} (B : Blt K mg fa ca) (F : Fun K "crossings_from" "crossings_from" (top 44) (fa 24) fd) (hm : mg "crossings_from" = some (.ref (fa 24))) (hb : Binds K fd ["p", "q", "edges"] [])  : Kn P w K mg base fa ca 1 24 "crossings_from" ["p", "q", "edges"] f_crossings_from :=
  kn_of (lvl := 0) (N := ["p", "q", "edges", "found", "at", "place"]) (b := b_crossings_from) F hm sc_crossings_from hb fun cdv A outer s H E hr => by
    have S := sc_crossings_from
    have hu := hr.units
    have tk : L2N.Takes (cxOf (L2N.CX P w) P w K mg base ["p", "q", "edges", "found", "at", "place"] "crossings_from" (defScope (top 44)) (fa 24) cdv A outer s H E) (fun cls d _ H => E cls d H) := L2N.takes_of rfl rfl rfl rfl
    have hx : Passes (L2N.CX P w) (cxOf (L2N.CX P w) P w K mg base ["p", "q", "edges", "found", "at", "place"] "crossings_from" (defScope (top 44)) (fa 24) cdv A outer s H E) E := L2N.passes_call tk fun _ _ _ _ h => h
    have hp : PassesOwn (model P w) (cxOf (L2N.CX P w) P w K mg base ["p", "q", "edges", "found", "at", "place"] "crossings_from" (defScope (top 44)) (fa 24) cdv A outer s H E).A (cxOf (L2N.CX P w) P w K mg base ["p", "q", "edges", "found", "at", "place"] "crossings_from" (defScope (top 44)) (fa 24) cdv A outer s H E).env (cxOf (L2N.CX P w) P w K mg base ["p", "q", "edges", "found", "at", "place"] "crossings_from" (defScope (top 44)) (fa 24) cdv A outer s H E).xe := passes_of rfl
    exact (xCons (xPar2 rfl S.nd (i := 2) (j := 3) rfl rfl (by decide) rfl rfl (xaCons (xTy call_list_of ok_list (by rfl) B.n_list PyProof.Rows.boot_list (xaCons (xVar 2) xaNil)) (xaCons (xLst xaNil) xaNil)) rfl)
  (xCons (xFor hp rfl (xiRng1 (by rfl) B.n_range (xaCons (xBin op_mul' ok_mul (xBin op_sub ok_sub (xVar 0) xInt) (xVar 1)) xaNil)) (xdName (pg_name (i := 4) S.nd rfl (by first | exact Or.inl rfl | exact Or.inr rfl))) (xCons (xAsg (xBin op_modN ok_mod (xVar 4) (xBin op_sub ok_sub (xVar 0) xInt)) (xgName (pg_name (i := 5) S.nd rfl (by first | exact Or.inl rfl | exact Or.inr rfl))))
  (xCons (xExpr (xMet (isL := true) PySem.F.plainAttrs_list PySem.F.slot_list_append PySem.F.type_list_append mt_append mo_append (xVar 3) (xaCons (xTup (xaCons (xIx hu (xVar 2) (xBin op_add' ok_add (xVar 5) xInt)) (xaCons (xBin op_add' ok_add (xBin op_mul' ok_mul xInt (xVar 4)) xInt) (xaCons (xBin op_mul' ok_mul xInt (xVar 4)) (xaCons (xIx hu (xVar 2) (xVar 5)) xaNil))))) xaNil)))
  (xLast (xAsg (xTup (xaCons (xBin op_mul' ok_mul xInt (xVar 4)) (xaCons (xBin op_add' ok_add (xBin op_mul' ok_mul xInt (xVar 4)) xInt) xaNil))) (xgD (xdTup rfl (xsConsG (xdSub hu (xVar 2) (xVar 5)) (xsConsG (xdSub hu (xVar 2) (xBin op_add' ok_add (xVar 5) xInt)) xsNilG)))))))))
  (xLast (xRet (xTup (xaCons (xVar 3) (xaCons (xVar 2) xaNil)))))))
/-! ### torus_picture -/
def b_torus_picture : Ev Ct := (sSeq (sExpr (eCall 2 f_need_torus (aCons (eVar 0) (aCons (eVar 1) aNil))))
  (sSeq (sAsg (eOp2 dSub_ (eCall 3 f_crossings_from (aCons (eVar 0) (aCons (eVar 1) (aCons (eOp2 dMul (eLst (aCons (eVal (.int 0)) aNil)) (eVar 0)) aNil)))) (eVal (.int 1))) (stR 2))
  (sRet (eTup (aCons (eOpL dTuple (aCons (eOp2 dSub_ (eCall 3 f_crossings_from (aCons (eVar 0) (aCons (eVar 1) (aCons (eVar 2) aNil)))) (eVal (.int 0))) aNil)) (aCons (eVal (.int 0)) aNil))))))
def f_torus_picture : Fn := runB 3 b_torus_picture
theorem sc_torus_picture : FnScope (["p", "q", "last"] : List Str) ["p", "q"] (defScope (top 45)) := ⟨rfl, rfl, rfl, by decide +kernel, rfl, by decide +kernel, by decide +kernel⟩
theorem ok_torus_picture {fd : FuncData} (B : Blt K mg fa ca) (F : Fun K "torus_picture" "torus_picture" (top 45) (fa 25) fd) (hm : mg "torus_picture" = some (.ref (fa 25))) (hb : Binds K fd ["p", "q"] []) (K_need_torus : Kn P w K mg base fa ca 3 21 "need_torus" ["p", "q"] f_need_torus) (K_crossings_from : Kn P w K mg base fa ca 1 24 "crossings_from" ["p", "q", "edges"] f_crossings_from) : Kn P w K mg base fa ca 4 25 "torus_picture" ["p", "q"] f_torus_picture :=
  kn_of (lvl := 3) (N := ["p", "q", "last"]) (b := b_torus_picture) F hm sc_torus_picture hb fun cdv A outer s H E hr => by
    have S := sc_torus_picture
    have hu := hr.units
    have tk : L2N.Takes (cxOf (L2N.CX P w) P w K mg base ["p", "q", "last"] "torus_picture" (defScope (top 45)) (fa 25) cdv A outer s H E) (fun cls d _ H => E cls d H) := L2N.takes_of rfl rfl rfl rfl
    have hx : Passes (L2N.CX P w) (cxOf (L2N.CX P w) P w K mg base ["p", "q", "last"] "torus_picture" (defScope (top 45)) (fa 25) cdv A outer s H E) E := L2N.passes_call tk fun _ _ _ _ h => h
    have hp : PassesOwn (model P w) (cxOf (L2N.CX P w) P w K mg base ["p", "q", "last"] "torus_picture" (defScope (top 45)) (fa 25) cdv A outer s H E).A (cxOf (L2N.CX P w) P w K mg base ["p", "q", "last"] "torus_picture" (defScope (top 45)) (fa 25) cdv A outer s H E).env (cxOf (L2N.CX P w) P w K mg base ["p", "q", "last"] "torus_picture" (defScope (top 45)) (fa 25) cdv A outer s H E).xe := passes_of rfl
    exact (xCons (xExpr (xCallK (ps := [("p" : Str), ("q" : Str)]) K_need_torus (hr.mono (by decide)) hx (xaCons (xVar 0) (xaCons (xVar 1) xaNil))))
  (xCons (xAsg (xIx hu (xCallK (ps := [("p" : Str), ("q" : Str), ("edges" : Str)]) K_crossings_from (hr.mono (by decide)) hx (xaCons (xVar 0) (xaCons (xVar 1) (xaCons (xBin op_mul' ok_mul (xLst (xaCons xInt xaNil)) (xVar 0)) xaNil)))) xInt) (xgName (pg_name (i := 2) S.nd rfl (by first | exact Or.inl rfl | exact Or.inr rfl))))
  (xLast (xRet (xTup (xaCons (xTy call_tuple_of ok_tuple (by rfl) B.n_tuple PyProof.Rows.boot_tuple (xaCons (xIx hu (xCallK (ps := [("p" : Str), ("q" : Str), ("edges" : Str)]) K_crossings_from (hr.mono (by decide)) hx (xaCons (xVar 0) (xaCons (xVar 1) (xaCons (xVar 2) xaNil)))) xInt) xaNil)) (xaCons xInt xaNil)))))))
/-! ### torus_pieces -/
def b_torus_pieces : Ev Ct := (sSeq (sExpr (eCall 2 f_need_torus (aCons (eVar 0) (aCons (eVar 1) aNil))))
  (sRet (eOpL dGcd (aCons (eVar 0) (aCons (eVar 1) aNil)))))
def f_torus_pieces : Fn := runB 2 b_torus_pieces
theorem sc_torus_pieces : FnScope (["p", "q"] : List Str) ["p", "q"] (defScope (top 46)) := ⟨rfl, rfl, rfl, by decide +kernel, rfl, by decide +kernel, by decide +kernel⟩
theorem ok_torus_pieces {fd : FuncData} (B : Blt K mg fa ca) (F : Fun K "torus_pieces" "torus_pieces" (top 46) (fa 26) fd) (hm : mg "torus_pieces" = some (.ref (fa 26))) (hb : Binds K fd ["p", "q"] []) (K_need_torus : Kn P w K mg base fa ca 3 21 "need_torus" ["p", "q"] f_need_torus) : Kn P w K mg base fa ca 4 26 "torus_pieces" ["p", "q"] f_torus_pieces :=
  kn_of (lvl := 3) (N := ["p", "q"]) (b := b_torus_pieces) F hm sc_torus_pieces hb fun cdv A outer s H E hr => by
    have S := sc_torus_pieces
    have hu := hr.units
    have tk : L2N.Takes (cxOf (L2N.CX P w) P w K mg base ["p", "q"] "torus_pieces" (defScope (top 46)) (fa 26) cdv A outer s H E) (fun cls d _ H => E cls d H) := L2N.takes_of rfl rfl rfl rfl
    have hx : Passes (L2N.CX P w) (cxOf (L2N.CX P w) P w K mg base ["p", "q"] "torus_pieces" (defScope (top 46)) (fa 26) cdv A outer s H E) E := L2N.passes_call tk fun _ _ _ _ h => h
    have hp : PassesOwn (model P w) (cxOf (L2N.CX P w) P w K mg base ["p", "q"] "torus_pieces" (defScope (top 46)) (fa 26) cdv A outer s H E).A (cxOf (L2N.CX P w) P w K mg base ["p", "q"] "torus_pieces" (defScope (top 46)) (fa 26) cdv A outer s H E).env (cxOf (L2N.CX P w) P w K mg base ["p", "q"] "torus_pieces" (defScope (top 46)) (fa 26) cdv A outer s H E).xe := passes_of rfl
    exact (xCons (xExpr (xCallK (ps := [("p" : Str), ("q" : Str)]) K_need_torus (hr.mono (by decide)) hx (xaCons (xVar 0) (xaCons (xVar 1) xaNil))))
  (xLast (xRet (xBfun cr_gcd ok_gcd (by rfl) B.n_gcd (xaCons (xVar 0) (xaCons (xVar 1) xaNil))))))
/-! ### torus_sum -/
def b_torus_sum : Ev Ct := (sSeq (sExpr (eCall 2 f_need_single (aCons (eVar 0) (aCons (eVar 1) aNil))))
  (sRet (eCall 2 f_quotient (aCons (eCall 2 f_times (aCons (eCall 1 f_less_one (aCons (eOp2 dMul (eVar 0) (eVar 1)) aNil)) (aCons (eCall 1 f_less_one (aCons (eVal (.int 1)) aNil)) aNil))) (aCons (eCall 2 f_times (aCons (eCall 1 f_less_one (aCons (eVar 0) aNil)) (aCons (eCall 1 f_less_one (aCons (eVar 1) aNil)) aNil))) aNil)))))
def f_torus_sum : Fn := runB 2 b_torus_sum
theorem sc_torus_sum : FnScope (["p", "q"] : List Str) ["p", "q"] (defScope (top 47)) := ⟨rfl, rfl, rfl, by decide +kernel, rfl, by decide +kernel, by decide +kernel⟩
theorem ok_torus_sum {fd : FuncData} (B : Blt K mg fa ca) (F : Fun K "torus_sum" "torus_sum" (top 47) (fa 27) fd) (hm : mg "torus_sum" = some (.ref (fa 27))) (hb : Binds K fd ["p", "q"] []) (K_need_single : Kn P w K mg base fa ca 4 22 "need_single" ["p", "q"] f_need_single) (K_quotient : Kn P w K mg base fa ca 4 20 "quotient" ["one", "other"] f_quotient) (K_times : Kn P w K mg base fa ca 2 16 "times" ["one", "other"] f_times) (K_less_one : Kn P w K mg base fa ca 1 23 "less_one" ["power"] f_less_one) : Kn P w K mg base fa ca 5 27 "torus_sum" ["p", "q"] f_torus_sum :=
  kn_of (lvl := 4) (N := ["p", "q"]) (b := b_torus_sum) F hm sc_torus_sum hb fun cdv A outer s H E hr => by
    have S := sc_torus_sum
    have hu := hr.units
    have tk : L2N.Takes (cxOf (L2N.CX P w) P w K mg base ["p", "q"] "torus_sum" (defScope (top 47)) (fa 27) cdv A outer s H E) (fun cls d _ H => E cls d H) := L2N.takes_of rfl rfl rfl rfl
    have hx : Passes (L2N.CX P w) (cxOf (L2N.CX P w) P w K mg base ["p", "q"] "torus_sum" (defScope (top 47)) (fa 27) cdv A outer s H E) E := L2N.passes_call tk fun _ _ _ _ h => h
    have hp : PassesOwn (model P w) (cxOf (L2N.CX P w) P w K mg base ["p", "q"] "torus_sum" (defScope (top 47)) (fa 27) cdv A outer s H E).A (cxOf (L2N.CX P w) P w K mg base ["p", "q"] "torus_sum" (defScope (top 47)) (fa 27) cdv A outer s H E).env (cxOf (L2N.CX P w) P w K mg base ["p", "q"] "torus_sum" (defScope (top 47)) (fa 27) cdv A outer s H E).xe := passes_of rfl
    exact (xCons (xExpr (xCallK (ps := [("p" : Str), ("q" : Str)]) K_need_single (hr.mono (by decide)) hx (xaCons (xVar 0) (xaCons (xVar 1) xaNil))))
  (xLast (xRet (xCallK (ps := [("one" : Str), ("other" : Str)]) K_quotient (hr.mono (by decide)) hx (xaCons (xCallK (ps := [("one" : Str), ("other" : Str)]) K_times (hr.mono (by decide)) hx (xaCons (xCallK (ps := [("power" : Str)]) K_less_one (hr.mono (by decide)) hx (xaCons (xBin op_mul' ok_mul (xVar 0) (xVar 1)) xaNil)) (xaCons (xCallK (ps := [("power" : Str)]) K_less_one (hr.mono (by decide)) hx (xaCons xInt xaNil)) xaNil))) (xaCons (xCallK (ps := [("one" : Str), ("other" : Str)]) K_times (hr.mono (by decide)) hx (xaCons (xCallK (ps := [("power" : Str)]) K_less_one (hr.mono (by decide)) hx (xaCons (xVar 0) xaNil)) (xaCons (xCallK (ps := [("power" : Str)]) K_less_one (hr.mono (by decide)) hx (xaCons (xVar 1) xaNil)) xaNil))) xaNil))))))
/-! ### torus_mark -/
def b_torus_mark : Ev Ct := (sSeq (sExpr (eCall 2 f_need_single (aCons (eVar 0) (aCons (eVar 1) aNil))))
  (sSeq (sIf (tAndM (tBool (eOp2 dEq (eOp2 dMod (eVar 0) (eVal (.int 2))) (eVal (.int 1)))) (tBool (eOp2 dEq (eOp2 dMod (eVar 1) (eVal (.int 2))) (eVal (.int 1))))) (sRet (eVal (.int 1))) sNil)
  (sRet (eIf (tBool (eOp2 dEq (eOp2 dMod (eVar 0) (eVal (.int 2))) (eVal (.int 1)))) (eVar 0) (eVar 1)))))
def f_torus_mark : Fn := runB 2 b_torus_mark
theorem sc_torus_mark : FnScope (["p", "q"] : List Str) ["p", "q"] (defScope (top 48)) := ⟨rfl, rfl, rfl, by decide +kernel, rfl, by decide +kernel, by decide +kernel⟩
theorem ok_torus_mark {fd : FuncData} (B : Blt K mg fa ca) (F : Fun K "torus_mark" "torus_mark" (top 48) (fa 28) fd) (hm : mg "torus_mark" = some (.ref (fa 28))) (hb : Binds K fd ["p", "q"] []) (K_need_single : Kn P w K mg base fa ca 4 22 "need_single" ["p", "q"] f_need_single) : Kn P w K mg base fa ca 5 28 "torus_mark" ["p", "q"] f_torus_mark :=
  kn_of (lvl := 4) (N := ["p", "q"]) (b := b_torus_mark) F hm sc_torus_mark hb fun cdv A outer s H E hr => by
    have S := sc_torus_mark
    have hu := hr.units
    have tk : L2N.Takes (cxOf (L2N.CX P w) P w K mg base ["p", "q"] "torus_mark" (defScope (top 48)) (fa 28) cdv A outer s H E) (fun cls d _ H => E cls d H) := L2N.takes_of rfl rfl rfl rfl
    have hx : Passes (L2N.CX P w) (cxOf (L2N.CX P w) P w K mg base ["p", "q"] "torus_mark" (defScope (top 48)) (fa 28) cdv A outer s H E) E := L2N.passes_call tk fun _ _ _ _ h => h
    have hp : PassesOwn (model P w) (cxOf (L2N.CX P w) P w K mg base ["p", "q"] "torus_mark" (defScope (top 48)) (fa 28) cdv A outer s H E).A (cxOf (L2N.CX P w) P w K mg base ["p", "q"] "torus_mark" (defScope (top 48)) (fa 28) cdv A outer s H E).env (cxOf (L2N.CX P w) P w K mg base ["p", "q"] "torus_mark" (defScope (top 48)) (fa 28) cdv A outer s H E).xe := passes_of rfl
    exact (xCons (xExpr (xCallK (ps := [("p" : Str), ("q" : Str)]) K_need_single (hr.mono (by decide)) hx (xaCons (xVar 0) (xaCons (xVar 1) xaNil))))
  (xCons (xSIf (xwAnd (xtCmp (op_eqP hu) ok_eq (xBin op_modN ok_mod (xVar 0) xInt) xInt rfl) (xwOne (xtCmp (op_eqP hu) ok_eq (xBin op_modN ok_mod (xVar 1) xInt) xInt rfl) (by first | exact Or.inl rfl | exact Or.inr rfl))).pt (xLast (xRet xInt)) xNil)
  (xLast (xRet (xIf (xtCmp (op_eqP hu) ok_eq (xBin op_modN ok_mod (xVar 0) xInt) xInt rfl) (xVar 0) (xVar 1))))))
/-! ### torus_round -/
def b_torus_round : Ev Ct := (sSeq (sExpr (eCall 2 f_need_torus (aCons (eVar 0) (aCons (eVar 1) aNil))))
  (sSeq (sAsg (eOpL dGcd (aCons (eVar 0) (aCons (eVar 1) aNil))) (stR 2))
  (sSeq (sIf (tBool (eOp2 dEq (eVar 2) (eVal (.int 1)))) (sRaise 6) sNil)
  (sRet (eOp2 dFdiv (eOp2 dMul (eVar 0) (eVar 1)) (eOp2 dMul (eVar 2) (eVar 2)))))))
def f_torus_round : Fn := runB 3 b_torus_round
theorem sc_torus_round : FnScope (["p", "q", "many"] : List Str) ["p", "q"] (defScope (top 49)) := ⟨rfl, rfl, rfl, by decide +kernel, rfl, by decide +kernel, by decide +kernel⟩
theorem ok_torus_round {fd : FuncData} (B : Blt K mg fa ca) (F : Fun K "torus_round" "torus_round" (top 49) (fa 29) fd) (hm : mg "torus_round" = some (.ref (fa 29))) (hb : Binds K fd ["p", "q"] []) (K_need_torus : Kn P w K mg base fa ca 3 21 "need_torus" ["p", "q"] f_need_torus) : Kn P w K mg base fa ca 4 29 "torus_round" ["p", "q"] f_torus_round :=
  kn_of (lvl := 3) (N := ["p", "q", "many"]) (b := b_torus_round) F hm sc_torus_round hb fun cdv A outer s H E hr => by
    have S := sc_torus_round
    have hu := hr.units
    have tk : L2N.Takes (cxOf (L2N.CX P w) P w K mg base ["p", "q", "many"] "torus_round" (defScope (top 49)) (fa 29) cdv A outer s H E) (fun cls d _ H => E cls d H) := L2N.takes_of rfl rfl rfl rfl
    have hx : Passes (L2N.CX P w) (cxOf (L2N.CX P w) P w K mg base ["p", "q", "many"] "torus_round" (defScope (top 49)) (fa 29) cdv A outer s H E) E := L2N.passes_call tk fun _ _ _ _ h => h
    have hp : PassesOwn (model P w) (cxOf (L2N.CX P w) P w K mg base ["p", "q", "many"] "torus_round" (defScope (top 49)) (fa 29) cdv A outer s H E).A (cxOf (L2N.CX P w) P w K mg base ["p", "q", "many"] "torus_round" (defScope (top 49)) (fa 29) cdv A outer s H E).env (cxOf (L2N.CX P w) P w K mg base ["p", "q", "many"] "torus_round" (defScope (top 49)) (fa 29) cdv A outer s H E).xe := passes_of rfl
    exact (xCons (xExpr (xCallK (ps := [("p" : Str), ("q" : Str)]) K_need_torus (hr.mono (by decide)) hx (xaCons (xVar 0) (xaCons (xVar 1) xaNil))))
  (xCons (xAsg (xBfun cr_gcd ok_gcd (by rfl) B.n_gcd (xaCons (xVar 0) (xaCons (xVar 1) xaNil))) (xgName (pg_name (i := 2) S.nd rfl (by first | exact Or.inl rfl | exact Or.inr rfl))))
  (xCons (xSIf (xtCmp (op_eqP hu) ok_eq (xVar 2) xInt rfl) (xLast (xRaise rfl tk PySem.F.excBase_ValueError B.q_NotNow B.m_NotNow B.k_NotNow (raises_own B.s_NotNow B.t_NotNow) rfl)) xNil)
  (xLast (xRet (xBin op_fdivN ok_fdiv (xBin op_mul' ok_mul (xVar 0) (xVar 1)) (xBin op_mul' ok_mul (xVar 2) (xVar 2))))))))
/-! ### met_from -/
def b_met_from : Ev Ct := (sSeq (sAsg (eCall 1 f_ends_of (aCons (eVar 0) aNil)) (stR 3))
  (sSeq (sPar2 4 5 (aCons (eOp2 dSub_ (eOp2 dSub_ (eVar 3) (eVar 1)) (eVar 2)) (aCons (eLst aNil) aNil)))
  (sSeq (sAsg (eVar 4) (stR 6))
  (sSeq (sWh 100000 (tBool (eOp2 dLe (eOpL dLenA (aCons (eVar 5) aNil)) (eOp2 dMul (eVal (.int 2)) (eOpL dLenA (aCons (eVar 0) aNil))))) (sSeq (sExpr (eMet true 5 mAppend (aCons (eTup (aCons (eOp2 dSub_ (eVar 6) (eVal (.int 0))) (aCons (eOp2 dEq (eOp2 dMod (eOp2 dSub_ (eVar 6) (eVal (.int 1))) (eVal (.int 2))) (eVal (.int 0))) aNil))) aNil)))
  (sSeq (sAsg (eCall 3 f_other_end (aCons (eVar 3) (aCons (eVar 0) (aCons (eTup (aCons (eOp2 dSub_ (eVar 6) (eVal (.int 0))) (aCons (eOp2 dMod (eOp2 dAdd (eOp2 dSub_ (eVar 6) (eVal (.int 1))) (eVal (.int 2))) (eVal (.int 4))) aNil))) aNil)))) (stR 6))
  (sIf (tBool (eOp2 dEq (eVar 6) (eVar 4))) (sRet (eVar 5)) sNil))))
  (sRet (eVar 5))))))
def f_met_from : Fn := runB 7 b_met_from
theorem sc_met_from : FnScope (["crossings", "edge", "way", "ends", "first", "found", "here"] : List Str) ["crossings", "edge", "way"] (defScope (top 51)) := ⟨rfl, rfl, rfl, by decide +kernel, rfl, by decide +kernel, by decide +kernel⟩
theorem ok_met_from {fd : FuncData} (B : Blt K mg fa ca) (F : Fun K "met_from" "met_from" (top 51) (fa 30) fd) (hm : mg "met_from" = some (.ref (fa 30))) (hb : Binds K fd ["crossings", "edge", "way"] []) (K_ends_of : Kn P w K mg base fa ca 1 4 "ends_of" ["crossings"] f_ends_of) (K_other_end : Kn P w K mg base fa ca 1 5 "other_end" ["ends", "crossings", "end"] f_other_end) : Kn P w K mg base fa ca 2 30 "met_from" ["crossings", "edge", "way"] f_met_from :=
  kn_of (lvl := 1) (N := ["crossings", "edge", "way", "ends", "first", "found", "here"]) (b := b_met_from) F hm sc_met_from hb fun cdv A outer s H E hr => by
    have S := sc_met_from
    have hu := hr.units
    have tk : L2N.Takes (cxOf (L2N.CX P w) P w K mg base ["crossings", "edge", "way", "ends", "first", "found", "here"] "met_from" (defScope (top 51)) (fa 30) cdv A outer s H E) (fun cls d _ H => E cls d H) := L2N.takes_of rfl rfl rfl rfl
    have hx : Passes (L2N.CX P w) (cxOf (L2N.CX P w) P w K mg base ["crossings", "edge", "way", "ends", "first", "found", "here"] "met_from" (defScope (top 51)) (fa 30) cdv A outer s H E) E := L2N.passes_call tk fun _ _ _ _ h => h
    have hp : PassesOwn (model P w) (cxOf (L2N.CX P w) P w K mg base ["crossings", "edge", "way", "ends", "first", "found", "here"] "met_from" (defScope (top 51)) (fa 30) cdv A outer s H E).A (cxOf (L2N.CX P w) P w K mg base ["crossings", "edge", "way", "ends", "first", "found", "here"] "met_from" (defScope (top 51)) (fa 30) cdv A outer s H E).env (cxOf (L2N.CX P w) P w K mg base ["crossings", "edge", "way", "ends", "first", "found", "here"] "met_from" (defScope (top 51)) (fa 30) cdv A outer s H E).xe := passes_of rfl
    exact (xCons (xAsg (xCallK (ps := [("crossings" : Str)]) K_ends_of (hr.mono (by decide)) hx (xaCons (xVar 0) xaNil)) (xgName (pg_name (i := 3) S.nd rfl (by first | exact Or.inl rfl | exact Or.inr rfl))))
  (xCons (xPar2 rfl S.nd (i := 4) (j := 5) rfl rfl (by decide) rfl rfl (xaCons (xIx hu (xIx hu (xVar 3) (xVar 1)) (xVar 2)) (xaCons (xLst xaNil) xaNil)) rfl)
  (xCons (xAsg (xVar 4) (xgName (pg_name (i := 6) S.nd rfl (by first | exact Or.inl rfl | exact Or.inr rfl))))
  (xCons (xWh 100000 hp (xtCmp op_le ok_le (xB call_lenA ok_lenA (by rfl) B.n_len PySem.boot_len (xaCons (xVar 5) xaNil)) (xBin op_mul' ok_mul xInt (xB call_lenA ok_lenA (by rfl) B.n_len PySem.boot_len (xaCons (xVar 0) xaNil))) rfl) (xCons (xExpr (xMet (isL := true) PySem.F.plainAttrs_list PySem.F.slot_list_append PySem.F.type_list_append mt_append mo_append (xVar 5) (xaCons (xTup (xaCons (xIx hu (xVar 6) xInt) (xaCons (xCmp (op_eqP hu) ok_eq (xBin op_modN ok_mod (xIx hu (xVar 6) xInt) xInt) xInt rfl) xaNil))) xaNil)))
  (xCons (xAsg (xCallK (ps := [("ends" : Str), ("crossings" : Str), ("end" : Str)]) K_other_end (hr.mono (by decide)) hx (xaCons (xVar 3) (xaCons (xVar 0) (xaCons (xTup (xaCons (xIx hu (xVar 6) xInt) (xaCons (xBin op_modN ok_mod (xBin op_add' ok_add (xIx hu (xVar 6) xInt) xInt) xInt) xaNil))) xaNil)))) (xgName (pg_name (i := 6) S.nd rfl (by first | exact Or.inl rfl | exact Or.inr rfl))))
  (xLast (xSIf (xtCmp (op_eqP hu) ok_eq (xVar 6) (xVar 4) rfl) (xLast (xRet (xVar 5))) xNil)))))
  (xLast (xRet (xVar 5)))))))
/-! ### fits_start -/
def b_fits_start : Ev Ct := (sSeq (sIf (tOrM (tNotM (tTru (eCall 3 f_is_tuple_of (aCons (eVar 1) (aCons (eOpL dLenA (aCons (eVar 0) aNil)) (aCons (eOpL dLenA (aCons (eVar 0) aNil)) aNil)))))) (tNotM (tTru (eOpL dAll (aCons (eComp [2] (iSeq (eVar 1)) (stD 2) tYesM (eCall 3 f_is_tuple_of (aCons (eVar 2) (aCons (eVal (.int 3)) (aCons (eVal (.int 3)) aNil))))) aNil))))) (sRet (eVal (.bl false))) sNil)
  (sSeq (sIf (tNotM (tTru (eOpL dAll (aCons (eComp [2] (iSeq (eVar 1)) (stD 2) tYesM (eAnd (eCall 3 f_is_whole (aCons (eOp2 dSub_ (eVar 2) (eVal (.int 0))) (aCons (eVal (.int 0)) (aCons (eOp2 dSub (eOpL dLenA (aCons (eVar 0) aNil)) (eVal (.int 1))) aNil)))) (eCall 3 f_is_whole (aCons (eOp2 dSub_ (eVar 2) (eVal (.int 2))) (aCons (eVal (.int 0)) (aCons (eVal (.int 1)) aNil)))))) aNil)))) (sRet (eVal (.bl false))) sNil)
  (sSeq (sIf (tBool (eOp2 dLt (eOp1 dLenSet (eComp [2] (iSeq (eVar 1)) (stD 2) tYesM (eOp2 dSub_ (eVar 2) (eVal (.int 0))))) (eOpL dLenA (aCons (eVar 1) aNil)))) (sRet (eVal (.bl false))) sNil)
  (sRet (eOpL dAll (aCons (eComp [2] (iSeq (eVar 1)) (stD 2) tYesM (eAnd (eCall 3 f_is_whole (aCons (eOp2 dSub_ (eVar 2) (eVal (.int 1))) (aCons (eVal (.int 0)) (aCons (eOp2 dMul (eVal (.int 2)) (eVal (.int 40))) aNil)))) (eOp2 (dIn false) (eOp2 dSub_ (eVar 2) (eVal (.int 1))) (eOp2 dSub_ (eVar 0) (eOp2 dSub_ (eVar 2) (eVal (.int 0))))))) aNil))))))
def f_fits_start : Fn := runB 3 b_fits_start
theorem sc_fits_start : FnScope (["cords", "value", "own"] : List Str) ["cords", "value"] (defScope (top 52)) := ⟨rfl, rfl, rfl, by decide +kernel, rfl, by decide +kernel, by decide +kernel⟩
theorem ok_fits_start {fd : FuncData} (B : Blt K mg fa ca) (F : Fun K "fits_start" "fits_start" (top 52) (fa 31) fd) (hm : mg "fits_start" = some (.ref (fa 31))) (hb : Binds K fd ["cords", "value"] []) (K_is_tuple_of : Kn P w K mg base fa ca 1 2 "is_tuple_of" ["value", "low", "high"] f_is_tuple_of) (K_is_whole : Kn P w K mg base fa ca 1 0 "is_whole" ["value", "low", "high"] f_is_whole) : Kn P w K mg base fa ca 2 31 "fits_start" ["cords", "value"] f_fits_start :=
  kn_of (lvl := 1) (N := ["cords", "value", "own"]) (b := b_fits_start) F hm sc_fits_start hb fun cdv A outer s H E hr => by
    have S := sc_fits_start
    have hu := hr.units
    have tk : L2N.Takes (cxOf (L2N.CX P w) P w K mg base ["cords", "value", "own"] "fits_start" (defScope (top 52)) (fa 31) cdv A outer s H E) (fun cls d _ H => E cls d H) := L2N.takes_of rfl rfl rfl rfl
    have hx : Passes (L2N.CX P w) (cxOf (L2N.CX P w) P w K mg base ["cords", "value", "own"] "fits_start" (defScope (top 52)) (fa 31) cdv A outer s H E) E := L2N.passes_call tk fun _ _ _ _ h => h
    have hp : PassesOwn (model P w) (cxOf (L2N.CX P w) P w K mg base ["cords", "value", "own"] "fits_start" (defScope (top 52)) (fa 31) cdv A outer s H E).A (cxOf (L2N.CX P w) P w K mg base ["cords", "value", "own"] "fits_start" (defScope (top 52)) (fa 31) cdv A outer s H E).env (cxOf (L2N.CX P w) P w K mg base ["cords", "value", "own"] "fits_start" (defScope (top 52)) (fa 31) cdv A outer s H E).xe := passes_of rfl
    exact (xCons (xSIf (xwOr (xtNot (xtTru (xCallK (ps := [("value" : Str), ("low" : Str), ("high" : Str)]) K_is_tuple_of (hr.mono (by decide)) hx (xaCons (xVar 1) (xaCons (xB call_lenA ok_lenA (by rfl) B.n_len PySem.boot_len (xaCons (xVar 0) xaNil)) (xaCons (xB call_lenA ok_lenA (by rfl) B.n_len PySem.boot_len (xaCons (xVar 0) xaNil)) xaNil)))))) (xwOne (xtNot (xtTru (xB (cr_all rfl) ok_all (by rfl) B.n_all boot_all (xaCons (xComp (own := [(("own" : Str), 2)]) rfl S.nd (xiSeq (xVar 1)) (blkOk_by (N := [("cords" : Str), ("value" : Str), ("own" : Str)]) (sc := defScope (top 52)) (by decide +kernel)) (by decide) (fun _ _ _ _ _ => (xcName (pg_name (i := 2) S.nd rfl (by first | exact Or.inl rfl | exact Or.inr rfl)) (by decide))) (fun _ _ _ _ _ => xpNil) (fun _ _ _ _ _ => (xCallK (ps := [("value" : Str), ("low" : Str), ("high" : Str)]) K_is_tuple_of (hr.mono (by decide)) passN (xaCons (xVar 2) (xaCons xInt (xaCons xInt xaNil)))))) xaNil)))) (by first | exact Or.inl rfl | exact Or.inr rfl))).pt (xLast (xRet xBl)) xNil)
  (xCons (xSIf (xtNot (xtTru (xB (cr_all rfl) ok_all (by rfl) B.n_all boot_all (xaCons (xComp (own := [(("own" : Str), 2)]) rfl S.nd (xiSeq (xVar 1)) (blkOk_by (N := [("cords" : Str), ("value" : Str), ("own" : Str)]) (sc := defScope (top 52)) (by decide +kernel)) (by decide) (fun _ _ _ _ _ => (xcName (pg_name (i := 2) S.nd rfl (by first | exact Or.inl rfl | exact Or.inr rfl)) (by decide))) (fun _ _ _ _ _ => xpNil) (fun _ _ _ _ _ => (xAnd (xCallK (ps := [("value" : Str), ("low" : Str), ("high" : Str)]) K_is_whole (hr.mono (by decide)) passN (xaCons (xIx hu (xVar 2) xInt) (xaCons xInt (xaCons (xBin op_sub ok_sub (xB call_lenA ok_lenA (by rfl) B.n_len PySem.boot_len (xaCons (xVar 0) xaNil)) xInt) xaNil)))) (xOne (xCallK (ps := [("value" : Str), ("low" : Str), ("high" : Str)]) K_is_whole (hr.mono (by decide)) passN (xaCons (xIx hu (xVar 2) xInt) (xaCons xInt (xaCons xInt xaNil)))))))) xaNil)))) (xLast (xRet xBl)) xNil)
  (xCons (xSIf (xtCmp op_lt ok_lt (xLenSet B.n_len B.n_set (xComp (own := [(("own" : Str), 2)]) rfl S.nd (xiSeq (xVar 1)) (blkOk_by (N := [("cords" : Str), ("value" : Str), ("own" : Str)]) (sc := defScope (top 52)) (by decide +kernel)) (by decide) (fun _ _ _ _ _ => (xcName (pg_name (i := 2) S.nd rfl (by first | exact Or.inl rfl | exact Or.inr rfl)) (by decide))) (fun _ _ _ _ _ => xpNil) (fun _ _ _ _ _ => (xIx hu (xVar 2) xInt)))) (xB call_lenA ok_lenA (by rfl) B.n_len PySem.boot_len (xaCons (xVar 1) xaNil)) rfl) (xLast (xRet xBl)) xNil)
  (xLast (xRet (xB (cr_all rfl) ok_all (by rfl) B.n_all boot_all (xaCons (xComp (own := [(("own" : Str), 2)]) rfl S.nd (xiSeq (xVar 1)) (blkOk_by (N := [("cords" : Str), ("value" : Str), ("own" : Str)]) (sc := defScope (top 52)) (by decide +kernel)) (by decide) (fun _ _ _ _ _ => (xcName (pg_name (i := 2) S.nd rfl (by first | exact Or.inl rfl | exact Or.inr rfl)) (by decide))) (fun _ _ _ _ _ => xpNil) (fun _ _ _ _ _ => (xAnd (xCallK (ps := [("value" : Str), ("low" : Str), ("high" : Str)]) K_is_whole (hr.mono (by decide)) passN (xaCons (xIx hu (xVar 2) xInt) (xaCons xInt (xaCons (xBin op_mul' ok_mul xInt (xGint (n := ("CROSSINGS" : Str)) (by rfl) B.c_CROSSINGS)) xaNil)))) (xOne (xCmp (op_inP hu) ok_in (xIx hu (xVar 2) xInt) (xIx hu (xVar 0) (xIx hu (xVar 2) xInt)) rfl))))) xaNil)))))))
/-! ### need_start -/
def b_need_start : Ev Ct := (sSeq (sExpr (eCall 1 f_need_picture (aCons (eVar 0) aNil)))
  (sIf (tNotM (tTru (eCall 2 f_fits_start (aCons (eCall 1 f_cord_list (aCons (eOp2 dSub_ (eVar 0) (eVal (.int 0))) aNil)) (aCons (eVar 1) aNil))))) (sRaise 4) sNil))
def f_need_start : Fn := runB 2 b_need_start
theorem sc_need_start : FnScope (["picture", "start"] : List Str) ["picture", "start"] (defScope (top 53)) := ⟨rfl, rfl, rfl, by decide +kernel, rfl, by decide +kernel, by decide +kernel⟩
theorem ok_need_start {fd : FuncData} (B : Blt K mg fa ca) (F : Fun K "need_start" "need_start" (top 53) (fa 32) fd) (hm : mg "need_start" = some (.ref (fa 32))) (hb : Binds K fd ["picture", "start"] []) (K_need_picture : Kn P w K mg base fa ca 4 9 "need_picture" ["value"] f_need_picture) (K_fits_start : Kn P w K mg base fa ca 2 31 "fits_start" ["cords", "value"] f_fits_start) (K_cord_list : Kn P w K mg base fa ca 3 11 "cord_list" ["crossings"] f_cord_list) : Kn P w K mg base fa ca 5 32 "need_start" ["picture", "start"] f_need_start :=
  kn_of (lvl := 4) (N := ["picture", "start"]) (b := b_need_start) F hm sc_need_start hb fun cdv A outer s H E hr => by
    have S := sc_need_start
    have hu := hr.units
    have tk : L2N.Takes (cxOf (L2N.CX P w) P w K mg base ["picture", "start"] "need_start" (defScope (top 53)) (fa 32) cdv A outer s H E) (fun cls d _ H => E cls d H) := L2N.takes_of rfl rfl rfl rfl
    have hx : Passes (L2N.CX P w) (cxOf (L2N.CX P w) P w K mg base ["picture", "start"] "need_start" (defScope (top 53)) (fa 32) cdv A outer s H E) E := L2N.passes_call tk fun _ _ _ _ h => h
    have hp : PassesOwn (model P w) (cxOf (L2N.CX P w) P w K mg base ["picture", "start"] "need_start" (defScope (top 53)) (fa 32) cdv A outer s H E).A (cxOf (L2N.CX P w) P w K mg base ["picture", "start"] "need_start" (defScope (top 53)) (fa 32) cdv A outer s H E).env (cxOf (L2N.CX P w) P w K mg base ["picture", "start"] "need_start" (defScope (top 53)) (fa 32) cdv A outer s H E).xe := passes_of rfl
    exact (xCons (xExpr (xCallK (ps := [("value" : Str)]) K_need_picture (hr.mono (by decide)) hx (xaCons (xVar 0) xaNil)))
  (xLast (xSIf (xtNot (xtTru (xCallK (ps := [("cords" : Str), ("value" : Str)]) K_fits_start (hr.mono (by decide)) hx (xaCons (xCallK (ps := [("crossings" : Str)]) K_cord_list (hr.mono (by decide)) hx (xaCons (xIx hu (xVar 0) xInt) xaNil)) (xaCons (xVar 1) xaNil))))) (xLast (xRaise rfl tk PySem.F.excBase_ValueError B.q_InvalidRow B.m_InvalidRow B.k_InvalidRow (raises_own B.s_InvalidRow B.t_InvalidRow) rfl)) xNil)))
/-! ### changes_in -/
def b_changes_in : Ev Ct := (sSeq (sAsg (eNew (.dK [] [])) (stR 2))
  (sSeq (sFor (iSeq (eVar 1)) (tgT [(stD 3), (stD 4), (stD 5)]) (sFor (iSeq (eCall 3 f_met_from (aCons (eVar 0) (aCons (eVar 4) (aCons (eVar 5) aNil))))) (tgT [(stD 6), (stD 7)]) (sExpr (eMet false 2 mSetd (aCons (eVar 6) (aCons (eVar 7) aNil))))))
  (sRet (eOpL dTuple (aCons (eComp [6] (iSeq (eOpL dSortA (aCons (eVar 2) aNil))) (stD 6) (tTru (eOp2 dSub_ (eVar 2) (eVar 6))) (eVar 6)) aNil)))))
def f_changes_in : Fn := runB 8 b_changes_in
theorem sc_changes_in : FnScope (["crossings", "start", "firsts", "cord", "edge", "way", "crossing", "is_below"] : List Str) ["crossings", "start"] (defScope (top 54)) := ⟨rfl, rfl, rfl, by decide +kernel, rfl, by decide +kernel, by decide +kernel⟩
theorem ok_changes_in {fd : FuncData} (B : Blt K mg fa ca) (F : Fun K "changes_in" "changes_in" (top 54) (fa 33) fd) (hm : mg "changes_in" = some (.ref (fa 33))) (hb : Binds K fd ["crossings", "start"] []) (K_met_from : Kn P w K mg base fa ca 2 30 "met_from" ["crossings", "edge", "way"] f_met_from) : Kn P w K mg base fa ca 3 33 "changes_in" ["crossings", "start"] f_changes_in :=
  kn_of (lvl := 2) (N := ["crossings", "start", "firsts", "cord", "edge", "way", "crossing", "is_below"]) (b := b_changes_in) F hm sc_changes_in hb fun cdv A outer s H E hr => by
    have S := sc_changes_in
    have hu := hr.units
    have tk : L2N.Takes (cxOf (L2N.CX P w) P w K mg base ["crossings", "start", "firsts", "cord", "edge", "way", "crossing", "is_below"] "changes_in" (defScope (top 54)) (fa 33) cdv A outer s H E) (fun cls d _ H => E cls d H) := L2N.takes_of rfl rfl rfl rfl
    have hx : Passes (L2N.CX P w) (cxOf (L2N.CX P w) P w K mg base ["crossings", "start", "firsts", "cord", "edge", "way", "crossing", "is_below"] "changes_in" (defScope (top 54)) (fa 33) cdv A outer s H E) E := L2N.passes_call tk fun _ _ _ _ h => h
    have hp : PassesOwn (model P w) (cxOf (L2N.CX P w) P w K mg base ["crossings", "start", "firsts", "cord", "edge", "way", "crossing", "is_below"] "changes_in" (defScope (top 54)) (fa 33) cdv A outer s H E).A (cxOf (L2N.CX P w) P w K mg base ["crossings", "start", "firsts", "cord", "edge", "way", "crossing", "is_below"] "changes_in" (defScope (top 54)) (fa 33) cdv A outer s H E).env (cxOf (L2N.CX P w) P w K mg base ["crossings", "start", "firsts", "cord", "edge", "way", "crossing", "is_below"] "changes_in" (defScope (top 54)) (fa 33) cdv A outer s H E).xe := passes_of rfl
    exact (xCons (xAsg xDK (xgName (pg_name (i := 2) S.nd rfl (by first | exact Or.inl rfl | exact Or.inr rfl))))
  (xCons (xFor hp rfl (xiSeq (xVar 1)) (xdTup rfl (xsConsG (xdName (pg_name (i := 3) S.nd rfl (by first | exact Or.inl rfl | exact Or.inr rfl))) (xsConsG (xdName (pg_name (i := 4) S.nd rfl (by first | exact Or.inl rfl | exact Or.inr rfl))) (xsConsG (xdName (pg_name (i := 5) S.nd rfl (by first | exact Or.inl rfl | exact Or.inr rfl))) xsNilG)))) (xLast (xFor hp rfl (xiSeq (xCallK (ps := [("crossings" : Str), ("edge" : Str), ("way" : Str)]) K_met_from (hr.mono (by decide)) hx (xaCons (xVar 0) (xaCons (xVar 4) (xaCons (xVar 5) xaNil))))) (xdTup rfl (xsConsG (xdName (pg_name (i := 6) S.nd rfl (by first | exact Or.inl rfl | exact Or.inr rfl))) (xsConsG (xdName (pg_name (i := 7) S.nd rfl (by first | exact Or.inl rfl | exact Or.inr rfl))) xsNilG))) (xLast (xExpr (xMet (isL := false) PySem.F.plainAttrs_dict PySem.F.slot_dict_setdefault PySem.F.type_dict_setdefault mt_setd mo_setd (xVar 2) (xaCons (xVar 6) (xaCons (xVar 7) xaNil))))))))
  (xLast (xRet (xTy call_tuple_of ok_tuple (by rfl) B.n_tuple PyProof.Rows.boot_tuple (xaCons (xComp (own := [(("crossing" : Str), 6)]) rfl S.nd (xiSeq (xB (cr_sortA rfl) ok_sortA (by rfl) B.n_sorted PyProof.Rows.boot_sorted (xaCons (xVar 2) xaNil))) (blkOk_by (N := [("crossings" : Str), ("start" : Str), ("firsts" : Str), ("cord" : Str), ("edge" : Str), ("way" : Str), ("crossing" : Str), ("is_below" : Str)]) (sc := defScope (top 54)) (by decide +kernel)) (by decide) (fun _ _ _ _ _ => (xcName (pg_name (i := 6) S.nd rfl (by first | exact Or.inl rfl | exact Or.inr rfl)) (by decide))) (fun _ _ _ _ _ => (xpOne (xtTru (xIx hu (xVar 2) (xVar 6))))) (fun _ _ _ _ _ => (xVar 6))) xaNil))))))
/-! ### changes_for -/
def b_changes_for : Ev Ct := (sSeq (sExpr (eCall 2 f_need_start (aCons (eVar 0) (aCons (eVar 1) aNil))))
  (sRet (eCall 2 f_changes_in (aCons (eOp2 dSub_ (eVar 0) (eVal (.int 0))) (aCons (eVar 1) aNil)))))
def f_changes_for : Fn := runB 2 b_changes_for
theorem sc_changes_for : FnScope (["picture", "start"] : List Str) ["picture", "start"] (defScope (top 55)) := ⟨rfl, rfl, rfl, by decide +kernel, rfl, by decide +kernel, by decide +kernel⟩
theorem ok_changes_for {fd : FuncData} (B : Blt K mg fa ca) (F : Fun K "changes_for" "changes_for" (top 55) (fa 34) fd) (hm : mg "changes_for" = some (.ref (fa 34))) (hb : Binds K fd ["picture", "start"] []) (K_need_start : Kn P w K mg base fa ca 5 32 "need_start" ["picture", "start"] f_need_start) (K_changes_in : Kn P w K mg base fa ca 3 33 "changes_in" ["crossings", "start"] f_changes_in) : Kn P w K mg base fa ca 6 34 "changes_for" ["picture", "start"] f_changes_for :=
  kn_of (lvl := 5) (N := ["picture", "start"]) (b := b_changes_for) F hm sc_changes_for hb fun cdv A outer s H E hr => by
    have S := sc_changes_for
    have hu := hr.units
    have tk : L2N.Takes (cxOf (L2N.CX P w) P w K mg base ["picture", "start"] "changes_for" (defScope (top 55)) (fa 34) cdv A outer s H E) (fun cls d _ H => E cls d H) := L2N.takes_of rfl rfl rfl rfl
    have hx : Passes (L2N.CX P w) (cxOf (L2N.CX P w) P w K mg base ["picture", "start"] "changes_for" (defScope (top 55)) (fa 34) cdv A outer s H E) E := L2N.passes_call tk fun _ _ _ _ h => h
    have hp : PassesOwn (model P w) (cxOf (L2N.CX P w) P w K mg base ["picture", "start"] "changes_for" (defScope (top 55)) (fa 34) cdv A outer s H E).A (cxOf (L2N.CX P w) P w K mg base ["picture", "start"] "changes_for" (defScope (top 55)) (fa 34) cdv A outer s H E).env (cxOf (L2N.CX P w) P w K mg base ["picture", "start"] "changes_for" (defScope (top 55)) (fa 34) cdv A outer s H E).xe := passes_of rfl
    exact (xCons (xExpr (xCallK (ps := [("picture" : Str), ("start" : Str)]) K_need_start (hr.mono (by decide)) hx (xaCons (xVar 0) (xaCons (xVar 1) xaNil))))
  (xLast (xRet (xCallK (ps := [("crossings" : Str), ("start" : Str)]) K_changes_in (hr.mono (by decide)) hx (xaCons (xIx hu (xVar 0) xInt) (xaCons (xVar 1) xaNil))))))
/-! ### plain_start -/
def b_plain_start : Ev Ct := (sSeq (sExpr (eCall 1 f_need_picture (aCons (eVar 0) aNil)))
  (sRet (eOpL dTuple (aCons (eComp [1, 2] (iEn (aCons (eCall 1 f_cord_list (aCons (eOp2 dSub_ (eVar 0) (eVal (.int 0))) aNil)) aNil)) (tgT [(stD 1), (stD 2)]) tYesM (eTup (aCons (eVar 1) (aCons (eOpL dMinA (aCons (eVar 2) aNil)) (aCons (eVal (.int 0)) aNil))))) aNil))))
def f_plain_start : Fn := runB 3 b_plain_start
theorem sc_plain_start : FnScope (["picture", "at", "cord"] : List Str) ["picture"] (defScope (top 56)) := ⟨rfl, rfl, rfl, by decide +kernel, rfl, by decide +kernel, by decide +kernel⟩
theorem ok_plain_start {fd : FuncData} (B : Blt K mg fa ca) (F : Fun K "plain_start" "plain_start" (top 56) (fa 35) fd) (hm : mg "plain_start" = some (.ref (fa 35))) (hb : Binds K fd ["picture"] []) (K_need_picture : Kn P w K mg base fa ca 4 9 "need_picture" ["value"] f_need_picture) (K_cord_list : Kn P w K mg base fa ca 3 11 "cord_list" ["crossings"] f_cord_list) : Kn P w K mg base fa ca 5 35 "plain_start" ["picture"] f_plain_start :=
  kn_of (lvl := 4) (N := ["picture", "at", "cord"]) (b := b_plain_start) F hm sc_plain_start hb fun cdv A outer s H E hr => by
    have S := sc_plain_start
    have hu := hr.units
    have tk : L2N.Takes (cxOf (L2N.CX P w) P w K mg base ["picture", "at", "cord"] "plain_start" (defScope (top 56)) (fa 35) cdv A outer s H E) (fun cls d _ H => E cls d H) := L2N.takes_of rfl rfl rfl rfl
    have hx : Passes (L2N.CX P w) (cxOf (L2N.CX P w) P w K mg base ["picture", "at", "cord"] "plain_start" (defScope (top 56)) (fa 35) cdv A outer s H E) E := L2N.passes_call tk fun _ _ _ _ h => h
    have hp : PassesOwn (model P w) (cxOf (L2N.CX P w) P w K mg base ["picture", "at", "cord"] "plain_start" (defScope (top 56)) (fa 35) cdv A outer s H E).A (cxOf (L2N.CX P w) P w K mg base ["picture", "at", "cord"] "plain_start" (defScope (top 56)) (fa 35) cdv A outer s H E).env (cxOf (L2N.CX P w) P w K mg base ["picture", "at", "cord"] "plain_start" (defScope (top 56)) (fa 35) cdv A outer s H E).xe := passes_of rfl
    exact (xCons (xExpr (xCallK (ps := [("value" : Str)]) K_need_picture (hr.mono (by decide)) hx (xaCons (xVar 0) xaNil)))
  (xLast (xRet (xTy call_tuple_of ok_tuple (by rfl) B.n_tuple PyProof.Rows.boot_tuple (xaCons (xComp (own := [(("at" : Str), 1), (("cord" : Str), 2)]) rfl S.nd (xiEn (by rfl) B.n_enumerate (xaCons (xCallK (ps := [("crossings" : Str)]) K_cord_list (hr.mono (by decide)) hx (xaCons (xIx hu (xVar 0) xInt) xaNil)) xaNil)) (blkOk_by (N := [("picture" : Str), ("at" : Str), ("cord" : Str)]) (sc := defScope (top 56)) (by decide +kernel)) (by decide) (fun _ _ _ _ _ => (xcTup rfl (xcCons (xcName (pg_name (i := 1) S.nd rfl (by first | exact Or.inl rfl | exact Or.inr rfl)) (by decide)) (xcCons (xcName (pg_name (i := 2) S.nd rfl (by first | exact Or.inl rfl | exact Or.inr rfl)) (by decide)) xcNil)))) (fun _ _ _ _ _ => xpNil) (fun _ _ _ _ _ => (xTup (xaCons (xVar 1) (xaCons (xB (cr_minB rfl hu) ok_minA (by rfl) B.n_min boot_min (xaCons (xVar 2) xaNil)) (xaCons xInt xaNil)))))) xaNil)))))
/-! ### _law_sort -/
def b__law_sort : Ev Ct := (sSeq (sIf (tOrM (tBool (eOp2 dIsN (eVar 0) (eVal .non))) (tTru (eOp1 (dIsi "bool") (eVar 0)))) (sRet (eIf (tBool (eOp2 dIsN (eVar 0) (eVal .non))) (eVal (.int 0)) (eVal (.int 1)))) sNil)
  (sSeq (sIf (tOrM (tTru (eOp1 (dIsi "int") (eVar 0))) (tTru (eOp1 (dIsi "str") (eVar 0)))) (sRet (eIf (tTru (eOp1 (dIsi "int") (eVar 0))) (eVal (.int 2)) (eVal (.int 3)))) sNil)
  (sRet (eIf (tTru (eOp1 (dIsi "tuple") (eVar 0))) (eVal (.int 4)) (eIf (tTru (eOp1 (dIsi "list") (eVar 0))) (eVal (.int 5)) (eVal (.int 6)))))))
def f__law_sort : Fn := runB 1 b__law_sort
theorem sc__law_sort : FnScope (["value"] : List Str) ["value"] (defScope (top 60)) := ⟨rfl, rfl, rfl, by decide +kernel, rfl, by decide +kernel, by decide +kernel⟩
theorem ok__law_sort {fd : FuncData} (B : Blt K mg fa ca) (F : Fun K "_law_sort" "_law_sort" (top 60) (fa 38) fd) (hm : mg "_law_sort" = some (.ref (fa 38))) (hb : Binds K fd ["value"] [])  : Kn P w K mg base fa ca 1 38 "_law_sort" ["value"] f__law_sort :=
  kn_of (lvl := 0) (N := ["value"]) (b := b__law_sort) F hm sc__law_sort hb fun cdv A outer s H E hr => by
    have S := sc__law_sort
    have hu := hr.units
    have tk : L2N.Takes (cxOf (L2N.CX P w) P w K mg base ["value"] "_law_sort" (defScope (top 60)) (fa 38) cdv A outer s H E) (fun cls d _ H => E cls d H) := L2N.takes_of rfl rfl rfl rfl
    have hx : Passes (L2N.CX P w) (cxOf (L2N.CX P w) P w K mg base ["value"] "_law_sort" (defScope (top 60)) (fa 38) cdv A outer s H E) E := L2N.passes_call tk fun _ _ _ _ h => h
    have hp : PassesOwn (model P w) (cxOf (L2N.CX P w) P w K mg base ["value"] "_law_sort" (defScope (top 60)) (fa 38) cdv A outer s H E).A (cxOf (L2N.CX P w) P w K mg base ["value"] "_law_sort" (defScope (top 60)) (fa 38) cdv A outer s H E).env (cxOf (L2N.CX P w) P w K mg base ["value"] "_law_sort" (defScope (top 60)) (fa 38) cdv A outer s H E).xe := passes_of rfl
    exact (xCons (xSIf (xwOr (xtCmp op_isN ok_isN (xVar 0) xNon rfl) (xwOne (xtTru (xIsi (T := "bool") (by decide) PyProof.Rows.boot_bool (by rfl) B.n_isinstance (by rfl) B.n_bool (xVar 0))) (by first | exact Or.inl rfl | exact Or.inr rfl))).pt (xLast (xRet (xIf (xtCmp op_isN ok_isN (xVar 0) xNon rfl) xInt xInt))) xNil)
  (xCons (xSIf (xwOr (xtTru (xIsi (T := "int") (by decide) PyProof.Rows.boot_int (by rfl) B.n_isinstance (by rfl) B.n_int (xVar 0))) (xwOne (xtTru (xIsi (T := "str") (by decide) PyProof.Rows.boot_str (by rfl) B.n_isinstance (by rfl) B.n_str (xVar 0))) (by first | exact Or.inl rfl | exact Or.inr rfl))).pt (xLast (xRet (xIf (xtTru (xIsi (T := "int") (by decide) PyProof.Rows.boot_int (by rfl) B.n_isinstance (by rfl) B.n_int (xVar 0))) xInt xInt))) xNil)
  (xLast (xRet (xIf (xtTru (xIsi (T := "tuple") (by decide) PyProof.Rows.boot_tuple (by rfl) B.n_isinstance (by rfl) B.n_tuple (xVar 0))) xInt (xIf (xtTru (xIsi (T := "list") (by decide) PyProof.Rows.boot_list (by rfl) B.n_isinstance (by rfl) B.n_list (xVar 0))) xInt xInt))))))
/-! ### _law_like -/
def b__law_like (rec : Fn) : Ev Ct := (sSeq (sAsg (eCall 1 f__law_sort (aCons (eVar 1) aNil)) (stR 2))
  (sSeq (sIf (tOrM (tBool (eOp2 dNe (eCall 1 f__law_sort (aCons (eVar 0) aNil)) (eVar 2))) (tBool (eOp2 dEq (eVar 2) (eVal (.int 6))))) (sRet (eVal (.bl false))) sNil)
  (sSeq (sIf (tBool (eOp2 (dIn false) (eVar 2) (eTup (aCons (eVal (.int 4)) (aCons (eVal (.int 5)) aNil))))) (sRet (eAnd (eOp2 dEq (eOpL dLenA (aCons (eVar 0) aNil)) (eOpL dLenA (aCons (eVar 1) aNil))) (eOp2 dEq (eComp [3, 4] (iZp (aCons (eVar 0) (aCons (eVar 1) aNil))) (tgT [(stD 3), (stD 4)]) (tNotM (tTru (eCall 2 rec (aCons (eVar 3) (aCons (eVar 4) aNil))))) (eVal (.int 1))) (eLst aNil)))) sNil)
  (sRet (eOp2 dEq (eVar 0) (eVar 1))))))
def f__law_like : Nat → Fn
  | 0 => fun _ _ => none
  | k + 1 => runB 5 (b__law_like (f__law_like k))
theorem sc__law_like : FnScope (["one", "other", "sort", "first", "second"] : List Str) ["one", "other"] (defScope (top 61)) := ⟨rfl, rfl, rfl, by decide +kernel, rfl, by decide +kernel, by decide +kernel⟩
theorem ok__law_like {fd : FuncData} (B : Blt K mg fa ca) (F : Fun K "_law_like" "_law_like" (top 61) (fa 39) fd) (hm : mg "_law_like" = some (.ref (fa 39))) (hb : Binds K fd ["one", "other"] []) (K__law_sort : Kn P w K mg base fa ca 1 38 "_law_sort" ["value"] f__law_sort) : ∀ k : Nat, Kn P w K mg base fa ca (k + 1) 39 "_law_like" ["one", "other"] (f__law_like k)
  | 0 => kn_none (lvl := 0) F hm sc__law_like hb
  | k + 1 => kn_of (lvl := k + 1) (N := ["one", "other", "sort", "first", "second"]) (b := b__law_like (f__law_like k)) F hm sc__law_like hb fun cdv A outer s H E hr => by
    have KR := ok__law_like B F hm hb K__law_sort k
    have hrR := hr
    have S := sc__law_like
    have hu := hr.units
    have tk : L2N.Takes (cxOf (L2N.CX P w) P w K mg base ["one", "other", "sort", "first", "second"] "_law_like" (defScope (top 61)) (fa 39) cdv A outer s H E) (fun cls d _ H => E cls d H) := L2N.takes_of rfl rfl rfl rfl
    have hx : Passes (L2N.CX P w) (cxOf (L2N.CX P w) P w K mg base ["one", "other", "sort", "first", "second"] "_law_like" (defScope (top 61)) (fa 39) cdv A outer s H E) E := L2N.passes_call tk fun _ _ _ _ h => h
    have hp : PassesOwn (model P w) (cxOf (L2N.CX P w) P w K mg base ["one", "other", "sort", "first", "second"] "_law_like" (defScope (top 61)) (fa 39) cdv A outer s H E).A (cxOf (L2N.CX P w) P w K mg base ["one", "other", "sort", "first", "second"] "_law_like" (defScope (top 61)) (fa 39) cdv A outer s H E).env (cxOf (L2N.CX P w) P w K mg base ["one", "other", "sort", "first", "second"] "_law_like" (defScope (top 61)) (fa 39) cdv A outer s H E).xe := passes_of rfl
    exact (xCons (xAsg (xCallK (ps := [("value" : Str)]) K__law_sort (hr.mono (by omega)) hx (xaCons (xVar 1) xaNil)) (xgName (pg_name (i := 2) S.nd rfl (by first | exact Or.inl rfl | exact Or.inr rfl))))
  (xCons (xSIf (xwOr (xtCmp (op_neP hu) ok_ne (xCallK (ps := [("value" : Str)]) K__law_sort (hr.mono (by omega)) hx (xaCons (xVar 0) xaNil)) (xVar 2) rfl) (xwOne (xtCmp (op_eqP hu) ok_eq (xVar 2) xInt rfl) (by first | exact Or.inl rfl | exact Or.inr rfl))).pt (xLast (xRet xBl)) xNil)
  (xCons (xSIf (xtCmp (op_inP hu) ok_in (xVar 2) (xTup (xaCons xInt (xaCons xInt xaNil))) rfl) (xLast (xRet (xAnd (xCmp (op_eqP hu) ok_eq (xB call_lenA ok_lenA (by rfl) B.n_len PySem.boot_len (xaCons (xVar 0) xaNil)) (xB call_lenA ok_lenA (by rfl) B.n_len PySem.boot_len (xaCons (xVar 1) xaNil)) rfl) (xOne (xCmp (op_eqP hu) ok_eq (xComp (own := [(("first" : Str), 3), (("second" : Str), 4)]) rfl S.nd (xiZp (by rfl) B.n_zip (xaCons (xVar 0) (xaCons (xVar 1) xaNil))) (blkOk_by (N := [("one" : Str), ("other" : Str), ("sort" : Str), ("first" : Str), ("second" : Str)]) (sc := defScope (top 61)) (by decide +kernel)) (by decide) (fun _ _ _ _ _ => (xcTup rfl (xcCons (xcName (pg_name (i := 3) S.nd rfl (by first | exact Or.inl rfl | exact Or.inr rfl)) (by decide)) (xcCons (xcName (pg_name (i := 4) S.nd rfl (by first | exact Or.inl rfl | exact Or.inr rfl)) (by decide)) xcNil)))) (fun _ _ _ _ _ => (xpOne (xtNot (xtTru (xCallK (ps := [("one" : Str), ("other" : Str)]) KR hrR passN (xaCons (xVar 3) (xaCons (xVar 4) xaNil))))))) (fun _ _ _ _ _ => xInt)) (xLst xaNil) rfl))))) xNil)
  (xLast (xRet (xCmp (op_eqP hu) ok_eq (xVar 0) (xVar 1) rfl))))))
/-! ### _law_ends -/
def f__law_ends : Fn := f_ends
theorem sc__law_ends : FnScope (["crossings", "found", "edge", "at", "crossing", "corner"] : List Str) ["crossings"] (defScope (top 62)) := ⟨rfl, rfl, rfl, by decide +kernel, rfl, by decide +kernel, by decide +kernel⟩
theorem ok__law_ends {fd : FuncData} (B : Blt K mg fa ca) (F : Fun K "_law_ends" "_law_ends" (top 62) (fa 40) fd) (hm : mg "_law_ends" = some (.ref (fa 40))) (hb : Binds K fd ["crossings"] []) : Kn P w K mg base fa ca 1 40 "_law_ends" ["crossings"] f__law_ends :=
  kn_raw (lvl := 0) (N := ["crossings", "found", "edge", "at", "crossing", "corner"]) F hm sc__law_ends hb fun cdv A outer s H vs Q E hr h => by
    have S := sc__law_ends
    have hp : PassesOwn (model P w) (cxOf (L2N.CX P w) P w K mg base ["crossings", "found", "edge", "at", "crossing", "corner"] "_law_ends" (defScope (top 62)) (fa 40) cdv A outer s H E).A (cxOf (L2N.CX P w) P w K mg base ["crossings", "found", "edge", "at", "crossing", "corner"] "_law_ends" (defScope (top 62)) (fa 40) cdv A outer s H E).env (cxOf (L2N.CX P w) P w K mg base ["crossings", "found", "edge", "at", "crossing", "corner"] "_law_ends" (defScope (top 62)) (fa 40) cdv A outer s H E).xe := passes_of rfl
    refine ⟨tEnds K, pss_cons (ps_setLc (own := [(("edge" : Str), 2)]) rfl S.nd (i := 1) rfl rfl (sw_true rfl rfl rfl rfl) (pi_range1 rfl B.n_range (pa_cons (pe_op op_mul pe_int (pe_callB call_len rfl B.n_len PySem.boot_len (pa_cons (pv 0) pa_nil))) pa_nil)) (blkOk_by (N := ["crossings", "found", "edge", "at", "crossing", "corner"]) (sc := defScope (top 62)) (by decide +kernel)) (fun _ _ _ _ _ => (pg_name (i := 2) S.nd rfl (by first | exact Or.inl rfl | exact Or.inr rfl))) (fun _ _ _ _ _ => pts_nil) (fun _ _ _ _ _ => pe_lst pa_nil))
      (pss_cons (ps_for hp rfl (pi_enumA rfl B.n_enumerate (pa_cons (pv 0) pa_nil)) (pg_tup rfl (pgs_cons (pg_name (i := 3) S.nd rfl (by first | exact Or.inl rfl | exact Or.inr rfl)) (pgs_cons (pg_name (i := 4) S.nd rfl (by first | exact Or.inl rfl | exact Or.inr rfl)) pgs_nil))) (pss_one (ps_for hp rfl (pi_enumA rfl B.n_enumerate (pa_cons (pv 4) pa_nil)) (pg_tup rfl (pgs_cons (pg_name (i := 5) S.nd rfl (by first | exact Or.inl rfl | exact Or.inr rfl)) (pgs_cons (pg_name (i := 2) S.nd rfl (by first | exact Or.inl rfl | exact Or.inr rfl)) pgs_nil))) (pss_one (ps_expr (pe_bm PySem.F.plainAttrs_list PySem.F.slot_list_append PySem.F.type_list_append mt_append (pe_ix ix_list (pv 1) (pv 2) (by exact fun _ _ => rfl)) (pa_cons (pe_tup (pa_cons (pv 3) (pa_cons (pv 5) pa_nil))) pa_nil)))))))
      (pss_one (ps_ret (pv 1)))), ends_reads rfl h⟩
/-! ### _law_other -/
def b__law_other : Ev Ct := (sSeq (sAsg (eOp2 dSub_ (eVar 0) (eOp2 dSub_ (eOp2 dSub_ (eVar 1) (eOp2 dSub_ (eVar 2) (eVal (.int 0)))) (eOp2 dSub_ (eVar 2) (eVal (.int 1))))) (stR 3))
  (sRet (eIf (tBool (eOp2 dEq (eOp2 dSub_ (eVar 3) (eVal (.int 0))) (eVar 2))) (eOp2 dSub_ (eVar 3) (eVal (.int 1))) (eOp2 dSub_ (eVar 3) (eVal (.int 0))))))
def f__law_other : Fn := runB 4 b__law_other
theorem sc__law_other : FnScope (["ends", "crossings", "end", "pair"] : List Str) ["ends", "crossings", "end"] (defScope (top 63)) := ⟨rfl, rfl, rfl, by decide +kernel, rfl, by decide +kernel, by decide +kernel⟩
theorem ok__law_other {fd : FuncData} (B : Blt K mg fa ca) (F : Fun K "_law_other" "_law_other" (top 63) (fa 41) fd) (hm : mg "_law_other" = some (.ref (fa 41))) (hb : Binds K fd ["ends", "crossings", "end"] [])  : Kn P w K mg base fa ca 1 41 "_law_other" ["ends", "crossings", "end"] f__law_other :=
  kn_of (lvl := 0) (N := ["ends", "crossings", "end", "pair"]) (b := b__law_other) F hm sc__law_other hb fun cdv A outer s H E hr => by
    have S := sc__law_other
    have hu := hr.units
    have tk : L2N.Takes (cxOf (L2N.CX P w) P w K mg base ["ends", "crossings", "end", "pair"] "_law_other" (defScope (top 63)) (fa 41) cdv A outer s H E) (fun cls d _ H => E cls d H) := L2N.takes_of rfl rfl rfl rfl
    have hx : Passes (L2N.CX P w) (cxOf (L2N.CX P w) P w K mg base ["ends", "crossings", "end", "pair"] "_law_other" (defScope (top 63)) (fa 41) cdv A outer s H E) E := L2N.passes_call tk fun _ _ _ _ h => h
    have hp : PassesOwn (model P w) (cxOf (L2N.CX P w) P w K mg base ["ends", "crossings", "end", "pair"] "_law_other" (defScope (top 63)) (fa 41) cdv A outer s H E).A (cxOf (L2N.CX P w) P w K mg base ["ends", "crossings", "end", "pair"] "_law_other" (defScope (top 63)) (fa 41) cdv A outer s H E).env (cxOf (L2N.CX P w) P w K mg base ["ends", "crossings", "end", "pair"] "_law_other" (defScope (top 63)) (fa 41) cdv A outer s H E).xe := passes_of rfl
    exact (xCons (xAsg (xIx hu (xVar 0) (xIx hu (xIx hu (xVar 1) (xIx hu (xVar 2) xInt)) (xIx hu (xVar 2) xInt))) (xgName (pg_name (i := 3) S.nd rfl (by first | exact Or.inl rfl | exact Or.inr rfl))))
  (xLast (xRet (xIf (xtCmp (op_eqP hu) ok_eq (xIx hu (xVar 3) xInt) (xVar 2) rfl) (xIx hu (xVar 3) xInt) (xIx hu (xVar 3) xInt)))))
/-! ### _law_walk -/
def b__law_walk : Ev Ct := (sSeq (sAsg (eCall 1 f__law_ends (aCons (eVar 0) aNil)) (stR 3))
  (sSeq (sAsg (eLst (aCons (eOp2 dSub_ (eOp2 dSub_ (eVar 3) (eVar 1)) (eVar 2)) aNil)) (stR 4))
  (sSeq (sFor (iRng1 (aCons (eOp2 dMul (eVal (.int 2)) (eOpL dLenA (aCons (eVar 0) aNil))) aNil)) (stD 5) (sSeq (sAsg (eCall 3 f__law_other (aCons (eVar 3) (aCons (eVar 0) (aCons (eTup (aCons (eOp2 dSub_ (eOp2 dSub_ (eVar 4) (eOp1 dNeg (eVal (.int 1)))) (eVal (.int 0))) (aCons (eOp2 dMod (eOpL dInt (aCons (eOp2 dAdd (eOp2 dSub_ (eOp2 dSub_ (eVar 4) (eOp1 dNeg (eVal (.int 1)))) (eVal (.int 1))) (eVal (.int 2))) aNil)) (eVal (.int 4))) aNil))) aNil)))) (stR 6))
  (sIf (tBool (eOp2 (dIn true) (eVar 6) (eVar 4))) (sExpr (eMet true 4 mAppend (aCons (eVar 6) aNil))) sNil)))
  (sRet (eVar 4)))))
def f__law_walk : Fn := runB 7 b__law_walk
theorem sc__law_walk : FnScope (["crossings", "edge", "way", "ends", "found", "turn", "come"] : List Str) ["crossings", "edge", "way"] (defScope (top 64)) := ⟨rfl, rfl, rfl, by decide +kernel, rfl, by decide +kernel, by decide +kernel⟩
theorem ok__law_walk {fd : FuncData} (B : Blt K mg fa ca) (F : Fun K "_law_walk" "_law_walk" (top 64) (fa 42) fd) (hm : mg "_law_walk" = some (.ref (fa 42))) (hb : Binds K fd ["crossings", "edge", "way"] []) (K__law_ends : Kn P w K mg base fa ca 1 40 "_law_ends" ["crossings"] f__law_ends) (K__law_other : Kn P w K mg base fa ca 1 41 "_law_other" ["ends", "crossings", "end"] f__law_other) : Kn P w K mg base fa ca 2 42 "_law_walk" ["crossings", "edge", "way"] f__law_walk :=
  kn_of (lvl := 1) (N := ["crossings", "edge", "way", "ends", "found", "turn", "come"]) (b := b__law_walk) F hm sc__law_walk hb fun cdv A outer s H E hr => by
    have S := sc__law_walk
    have hu := hr.units
    have tk : L2N.Takes (cxOf (L2N.CX P w) P w K mg base ["crossings", "edge", "way", "ends", "found", "turn", "come"] "_law_walk" (defScope (top 64)) (fa 42) cdv A outer s H E) (fun cls d _ H => E cls d H) := L2N.takes_of rfl rfl rfl rfl
    have hx : Passes (L2N.CX P w) (cxOf (L2N.CX P w) P w K mg base ["crossings", "edge", "way", "ends", "found", "turn", "come"] "_law_walk" (defScope (top 64)) (fa 42) cdv A outer s H E) E := L2N.passes_call tk fun _ _ _ _ h => h
    have hp : PassesOwn (model P w) (cxOf (L2N.CX P w) P w K mg base ["crossings", "edge", "way", "ends", "found", "turn", "come"] "_law_walk" (defScope (top 64)) (fa 42) cdv A outer s H E).A (cxOf (L2N.CX P w) P w K mg base ["crossings", "edge", "way", "ends", "found", "turn", "come"] "_law_walk" (defScope (top 64)) (fa 42) cdv A outer s H E).env (cxOf (L2N.CX P w) P w K mg base ["crossings", "edge", "way", "ends", "found", "turn", "come"] "_law_walk" (defScope (top 64)) (fa 42) cdv A outer s H E).xe := passes_of rfl
    exact (xCons (xAsg (xCallK (ps := [("crossings" : Str)]) K__law_ends (hr.mono (by decide)) hx (xaCons (xVar 0) xaNil)) (xgName (pg_name (i := 3) S.nd rfl (by first | exact Or.inl rfl | exact Or.inr rfl))))
  (xCons (xAsg (xLst (xaCons (xIx hu (xIx hu (xVar 3) (xVar 1)) (xVar 2)) xaNil)) (xgName (pg_name (i := 4) S.nd rfl (by first | exact Or.inl rfl | exact Or.inr rfl))))
  (xCons (xFor hp rfl (xiRng1 (by rfl) B.n_range (xaCons (xBin op_mul' ok_mul xInt (xB call_lenA ok_lenA (by rfl) B.n_len PySem.boot_len (xaCons (xVar 0) xaNil))) xaNil)) (xdName (pg_name (i := 5) S.nd rfl (by first | exact Or.inl rfl | exact Or.inr rfl))) (xCons (xAsg (xCallK (ps := [("ends" : Str), ("crossings" : Str), ("end" : Str)]) K__law_other (hr.mono (by decide)) hx (xaCons (xVar 3) (xaCons (xVar 0) (xaCons (xTup (xaCons (xIx hu (xIx hu (xVar 4) (xUn un_neg ok_neg xInt)) xInt) (xaCons (xBin op_modN ok_mod (xTy call_int1 ok_int (by rfl) B.n_int PyProof.Rows.boot_int (xaCons (xBin op_add' ok_add (xIx hu (xIx hu (xVar 4) (xUn un_neg ok_neg xInt)) xInt) xInt) xaNil)) xInt) xaNil))) xaNil)))) (xgName (pg_name (i := 6) S.nd rfl (by first | exact Or.inl rfl | exact Or.inr rfl))))
  (xLast (xSIf (xtCmp (op_ninP hu) ok_in (xVar 6) (xVar 4) rfl) (xLast (xExpr (xMet (isL := true) PySem.F.plainAttrs_list PySem.F.slot_list_append PySem.F.type_list_append mt_append mo_append (xVar 4) (xaCons (xVar 6) xaNil)))) xNil))))
  (xLast (xRet (xVar 4))))))
/-! ### _law_cords -/
def b__law_cords : Ev Ct := (sSeq (sAsg (eLst aNil) (stR 1))
  (sSeq (sFor (iRng1 (aCons (eOp2 dMul (eVal (.int 2)) (eOpL dLenA (aCons (eVar 0) aNil))) aNil)) (stD 2) (sIf (tBool (eOp2 dEq (eComp [3] (iSlot 1) (stD 3) (tBool (eOp2 (dIn false) (eVar 2) (eVar 3))) (eVar 3)) (eLst aNil))) (sExpr (eMet true 1 mAppend (aCons (eOp1 dSortSet (eComp [4, 5] (iSeq (eCall 3 f__law_walk (aCons (eVar 0) (aCons (eVar 2) (aCons (eVal (.int 0)) aNil))))) (tgT [(stD 4), (stD 5)]) tYesM (eOp2 dSub_ (eOp2 dSub_ (eVar 0) (eVar 4)) (eVar 5)))) aNil))) sNil))
  (sRet (eVar 1))))
def f__law_cords : Fn := runB 6 b__law_cords
theorem sc__law_cords : FnScope (["crossings", "found", "edge", "own", "at", "corner"] : List Str) ["crossings"] (defScope (top 65)) := ⟨rfl, rfl, rfl, by decide +kernel, rfl, by decide +kernel, by decide +kernel⟩
theorem ok__law_cords {fd : FuncData} (B : Blt K mg fa ca) (F : Fun K "_law_cords" "_law_cords" (top 65) (fa 43) fd) (hm : mg "_law_cords" = some (.ref (fa 43))) (hb : Binds K fd ["crossings"] []) (K__law_walk : Kn P w K mg base fa ca 2 42 "_law_walk" ["crossings", "edge", "way"] f__law_walk) : Kn P w K mg base fa ca 3 43 "_law_cords" ["crossings"] f__law_cords :=
  kn_of (lvl := 2) (N := ["crossings", "found", "edge", "own", "at", "corner"]) (b := b__law_cords) F hm sc__law_cords hb fun cdv A outer s H E hr => by
    have S := sc__law_cords
    have hu := hr.units
    have tk : L2N.Takes (cxOf (L2N.CX P w) P w K mg base ["crossings", "found", "edge", "own", "at", "corner"] "_law_cords" (defScope (top 65)) (fa 43) cdv A outer s H E) (fun cls d _ H => E cls d H) := L2N.takes_of rfl rfl rfl rfl
    have hx : Passes (L2N.CX P w) (cxOf (L2N.CX P w) P w K mg base ["crossings", "found", "edge", "own", "at", "corner"] "_law_cords" (defScope (top 65)) (fa 43) cdv A outer s H E) E := L2N.passes_call tk fun _ _ _ _ h => h
    have hp : PassesOwn (model P w) (cxOf (L2N.CX P w) P w K mg base ["crossings", "found", "edge", "own", "at", "corner"] "_law_cords" (defScope (top 65)) (fa 43) cdv A outer s H E).A (cxOf (L2N.CX P w) P w K mg base ["crossings", "found", "edge", "own", "at", "corner"] "_law_cords" (defScope (top 65)) (fa 43) cdv A outer s H E).env (cxOf (L2N.CX P w) P w K mg base ["crossings", "found", "edge", "own", "at", "corner"] "_law_cords" (defScope (top 65)) (fa 43) cdv A outer s H E).xe := passes_of rfl
    exact (xCons (xAsg (xLst xaNil) (xgName (pg_name (i := 1) S.nd rfl (by first | exact Or.inl rfl | exact Or.inr rfl))))
  (xCons (xFor hp rfl (xiRng1 (by rfl) B.n_range (xaCons (xBin op_mul' ok_mul xInt (xB call_lenA ok_lenA (by rfl) B.n_len PySem.boot_len (xaCons (xVar 0) xaNil))) xaNil)) (xdName (pg_name (i := 2) S.nd rfl (by first | exact Or.inl rfl | exact Or.inr rfl))) (xLast (xSIf (xtCmp (op_eqP hu) ok_eq (xComp (own := [(("own" : Str), 3)]) rfl S.nd (xiSlot (xVar 1)) (blkOk_by (N := [("crossings" : Str), ("found" : Str), ("edge" : Str), ("own" : Str), ("at" : Str), ("corner" : Str)]) (sc := defScope (top 65)) (by decide +kernel)) (by decide) (fun _ _ _ _ _ => (xcName (pg_name (i := 3) S.nd rfl (by first | exact Or.inl rfl | exact Or.inr rfl)) (by decide))) (fun _ _ _ _ _ => (xpOne (xtCmp (op_inP hu) ok_in (xVar 2) (xVar 3) rfl))) (fun _ _ _ _ _ => (xVar 3))) (xLst xaNil) rfl) (xLast (xExpr (xMet (isL := true) PySem.F.plainAttrs_list PySem.F.slot_list_append PySem.F.type_list_append mt_append mo_append (xVar 1) (xaCons (xSortSet B.n_sorted B.n_set (xComp (own := [(("at" : Str), 4), (("corner" : Str), 5)]) rfl S.nd (xiSeq (xCallK (ps := [("crossings" : Str), ("edge" : Str), ("way" : Str)]) K__law_walk (hr.mono (by decide)) hx (xaCons (xVar 0) (xaCons (xVar 2) (xaCons xInt xaNil))))) (blkOk_by (N := [("crossings" : Str), ("found" : Str), ("edge" : Str), ("own" : Str), ("at" : Str), ("corner" : Str)]) (sc := defScope (top 65)) (by decide +kernel)) (by decide) (fun _ _ _ _ _ => (xcTup rfl (xcCons (xcName (pg_name (i := 4) S.nd rfl (by first | exact Or.inl rfl | exact Or.inr rfl)) (by decide)) (xcCons (xcName (pg_name (i := 5) S.nd rfl (by first | exact Or.inl rfl | exact Or.inr rfl)) (by decide)) xcNil)))) (fun _ _ _ _ _ => xpNil) (fun _ _ _ _ _ => (xIx hu (xIx hu (xVar 0) (xVar 4)) (xVar 5))))) xaNil)))) xNil)))
  (xLast (xRet (xVar 1)))))
/-! ### _law_strands -/
def b__law_strands : Ev Ct := (sSeq (sAsg (eLRng1 (eVar 1)) (stR 3))
  (sSeq (sFor (iRng1 (aCons (eVal (.int 2)) aNil)) (stD 4) (sSeq (sPar3 5 6 7 (aCons (eOpL dList (aCons (eVar 3) aNil)) (aCons (eLst aNil) (aCons (eOp2 dMul (eLst (aCons (eVal (.bl false)) aNil)) (eVar 1)) aNil))))
  (sSeq (sFor (iEn (aCons (eVar 2) aNil)) (tgT [(stD 8), (tgT [(stD 9), (stD 10)])]) (sSeq (sPar2 11 12 (aCons (eOp2 dSub_ (eVar 5) (eVar 9)) (aCons (eOp2 dSub_ (eVar 5) (eOp2 dAdd (eVar 9) (eVal (.int 1)))) aNil)))
  (sSeq (sExpr (eMet true 6 mAppend (aCons (eIf (tTru (eVar 10)) (eTup (aCons (eVar 12) (aCons (eOp2 dAdd (eOp2 dMul (eVal (.int 2)) (eVar 8)) (eVal (.int 1))) (aCons (eOp2 dMul (eVal (.int 2)) (eVar 8)) (aCons (eVar 11) aNil))))) (eTup (aCons (eVar 11) (aCons (eVar 12) (aCons (eOp2 dAdd (eOp2 dMul (eVal (.int 2)) (eVar 8)) (eVal (.int 1))) (aCons (eOp2 dMul (eVal (.int 2)) (eVar 8)) aNil)))))) aNil)))
  (sSeq (sAsg (eTup (aCons (eOp2 dMul (eVal (.int 2)) (eVar 8)) (aCons (eOp2 dAdd (eOp2 dMul (eVal (.int 2)) (eVar 8)) (eVal (.int 1))) aNil))) (tgD (tgT [(tgS 5 (eVar 9)), (tgS 5 (eOp2 dAdd (eVar 9) (eVal (.int 1))))])))
  (sAsg (eTup (aCons (eVal (.bl true)) (aCons (eVal (.bl true)) aNil))) (tgD (tgT [(tgS 7 (eVar 9)), (tgS 7 (eOp2 dAdd (eVar 9) (eVal (.int 1))))])))))))
  (sAsg (eVar 5) (stR 3)))))
  (sRet (eTup (aCons (eOpL dTuple (aCons (eVar 6) aNil)) (aCons (eOpL dLenA (aCons (eComp [13] (iSeq (eVar 7)) (stD 13) (tNotM (tTru (eVar 13))) (eVar 13)) aNil)) aNil))))))
def f__law_strands : Fn := runB 14 b__law_strands
theorem sc__law_strands : FnScope (["cup", "strands", "signs", "last", "turn", "edges", "crossings", "met", "at", "place", "is_left", "low", "high", "own"] : List Str) ["cup", "strands", "signs"] (defScope (top 66)) := ⟨rfl, rfl, rfl, by decide +kernel, rfl, by decide +kernel, by decide +kernel⟩
theorem ok__law_strands {fd : FuncData} (B : Blt K mg fa ca) (F : Fun K "_law_strands" "_law_strands" (top 66) (fa 44) fd) (hm : mg "_law_strands" = some (.ref (fa 44))) (hb : Binds K fd ["cup", "strands", "signs"] [])  : Kn P w K mg base fa ca 1 44 "_law_strands" ["cup", "strands", "signs"] f__law_strands :=
  kn_of (lvl := 0) (N := ["cup", "strands", "signs", "last", "turn", "edges", "crossings", "met", "at", "place", "is_left", "low", "high", "own"]) (b := b__law_strands) F hm sc__law_strands hb fun cdv A outer s H E hr => by
    have S := sc__law_strands
    have hu := hr.units
    have tk : L2N.Takes (cxOf (L2N.CX P w) P w K mg base ["cup", "strands", "signs", "last", "turn", "edges", "crossings", "met", "at", "place", "is_left", "low", "high", "own"] "_law_strands" (defScope (top 66)) (fa 44) cdv A outer s H E) (fun cls d _ H => E cls d H) := L2N.takes_of rfl rfl rfl rfl
    have hx : Passes (L2N.CX P w) (cxOf (L2N.CX P w) P w K mg base ["cup", "strands", "signs", "last", "turn", "edges", "crossings", "met", "at", "place", "is_left", "low", "high", "own"] "_law_strands" (defScope (top 66)) (fa 44) cdv A outer s H E) E := L2N.passes_call tk fun _ _ _ _ h => h
    have hp : PassesOwn (model P w) (cxOf (L2N.CX P w) P w K mg base ["cup", "strands", "signs", "last", "turn", "edges", "crossings", "met", "at", "place", "is_left", "low", "high", "own"] "_law_strands" (defScope (top 66)) (fa 44) cdv A outer s H E).A (cxOf (L2N.CX P w) P w K mg base ["cup", "strands", "signs", "last", "turn", "edges", "crossings", "met", "at", "place", "is_left", "low", "high", "own"] "_law_strands" (defScope (top 66)) (fa 44) cdv A outer s H E).env (cxOf (L2N.CX P w) P w K mg base ["cup", "strands", "signs", "last", "turn", "edges", "crossings", "met", "at", "place", "is_left", "low", "high", "own"] "_law_strands" (defScope (top 66)) (fa 44) cdv A outer s H E).xe := passes_of rfl
    exact (xCons (xAsg (xLRng1 B.n_list B.n_range (xVar 1)) (xgName (pg_name (i := 3) S.nd rfl (by first | exact Or.inl rfl | exact Or.inr rfl))))
  (xCons (xFor hp rfl (xiRng1 (by rfl) B.n_range (xaCons xInt xaNil)) (xdName (pg_name (i := 4) S.nd rfl (by first | exact Or.inl rfl | exact Or.inr rfl))) (xCons (xPar3 rfl S.nd (i := 5) (j := 6) (l := 7) rfl rfl rfl (by decide) (by decide) (by decide) rfl rfl rfl (xaCons (xTy call_list_of ok_list (by rfl) B.n_list PyProof.Rows.boot_list (xaCons (xVar 3) xaNil)) (xaCons (xLst xaNil) (xaCons (xBin op_mul' ok_mul (xLst (xaCons xBl xaNil)) (xVar 1)) xaNil))) rfl)
  (xCons (xFor hp rfl (xiEn (by rfl) B.n_enumerate (xaCons (xVar 2) xaNil)) (xdTup rfl (xsConsG (xdName (pg_name (i := 8) S.nd rfl (by first | exact Or.inl rfl | exact Or.inr rfl))) (xsConsG (xdTup rfl (xsConsG (xdName (pg_name (i := 9) S.nd rfl (by first | exact Or.inl rfl | exact Or.inr rfl))) (xsConsG (xdName (pg_name (i := 10) S.nd rfl (by first | exact Or.inl rfl | exact Or.inr rfl))) xsNilG))) xsNilG))) (xCons (xPar2 rfl S.nd (i := 11) (j := 12) rfl rfl (by decide) rfl rfl (xaCons (xIx hu (xVar 5) (xVar 9)) (xaCons (xIx hu (xVar 5) (xBin op_add' ok_add (xVar 9) xInt)) xaNil)) rfl)
  (xCons (xExpr (xMet (isL := true) PySem.F.plainAttrs_list PySem.F.slot_list_append PySem.F.type_list_append mt_append mo_append (xVar 6) (xaCons (xIf (xtTru (xVar 10)) (xTup (xaCons (xVar 12) (xaCons (xBin op_add' ok_add (xBin op_mul' ok_mul xInt (xVar 8)) xInt) (xaCons (xBin op_mul' ok_mul xInt (xVar 8)) (xaCons (xVar 11) xaNil))))) (xTup (xaCons (xVar 11) (xaCons (xVar 12) (xaCons (xBin op_add' ok_add (xBin op_mul' ok_mul xInt (xVar 8)) xInt) (xaCons (xBin op_mul' ok_mul xInt (xVar 8)) xaNil)))))) xaNil)))
  (xCons (xAsg (xTup (xaCons (xBin op_mul' ok_mul xInt (xVar 8)) (xaCons (xBin op_add' ok_add (xBin op_mul' ok_mul xInt (xVar 8)) xInt) xaNil))) (xgD (xdTup rfl (xsConsG (xdSub hu (xVar 5) (xVar 9)) (xsConsG (xdSub hu (xVar 5) (xBin op_add' ok_add (xVar 9) xInt)) xsNilG)))))
  (xLast (xAsg (xTup (xaCons xBl (xaCons xBl xaNil))) (xgD (xdTup rfl (xsConsG (xdSub hu (xVar 7) (xVar 9)) (xsConsG (xdSub hu (xVar 7) (xBin op_add' ok_add (xVar 9) xInt)) xsNilG))))))))))
  (xLast (xAsg (xVar 5) (xgName (pg_name (i := 3) S.nd rfl (by first | exact Or.inl rfl | exact Or.inr rfl))))))))
  (xLast (xRet (xTup (xaCons (xTy call_tuple_of ok_tuple (by rfl) B.n_tuple PyProof.Rows.boot_tuple (xaCons (xVar 6) xaNil)) (xaCons (xB call_lenA ok_lenA (by rfl) B.n_len PySem.boot_len (xaCons (xComp (own := [(("own" : Str), 13)]) rfl S.nd (xiSeq (xVar 7)) (blkOk_by (N := [("cup" : Str), ("strands" : Str), ("signs" : Str), ("last" : Str), ("turn" : Str), ("edges" : Str), ("crossings" : Str), ("met" : Str), ("at" : Str), ("place" : Str), ("is_left" : Str), ("low" : Str), ("high" : Str), ("own" : Str)]) (sc := defScope (top 66)) (by decide +kernel)) (by decide) (fun _ _ _ _ _ => (xcName (pg_name (i := 13) S.nd rfl (by first | exact Or.inl rfl | exact Or.inr rfl)) (by decide))) (fun _ _ _ _ _ => (xpOne (xtNot (xtTru (xVar 13))))) (fun _ _ _ _ _ => (xVar 13))) xaNil)) xaNil)))))))
/-! ### _law_common -/
def b__law_common : Ev Ct := (sSeq (sFor (iRng1 (aCons (eVal (.int 60)) aNil)) (stD 2) (sSeq (sIf (tBool (eOp2 dEq (eVar 1) (eVal (.int 0)))) (sRet (eVar 0)) sNil)
  (sPar2 0 1 (aCons (eVar 1) (aCons (eOp2 dMod (eOpL dInt (aCons (eVar 0) aNil)) (eVar 1)) aNil)))))
  (sRet (eVar 0)))
def f__law_common : Fn := runB 3 b__law_common
theorem sc__law_common : FnScope (["p", "q", "turn"] : List Str) ["p", "q"] (defScope (top 68)) := ⟨rfl, rfl, rfl, by decide +kernel, rfl, by decide +kernel, by decide +kernel⟩
theorem ok__law_common {fd : FuncData} (B : Blt K mg fa ca) (F : Fun K "_law_common" "_law_common" (top 68) (fa 46) fd) (hm : mg "_law_common" = some (.ref (fa 46))) (hb : Binds K fd ["p", "q"] [])  : Kn P w K mg base fa ca 1 46 "_law_common" ["p", "q"] f__law_common :=
  kn_of (lvl := 0) (N := ["p", "q", "turn"]) (b := b__law_common) F hm sc__law_common hb fun cdv A outer s H E hr => by
    have S := sc__law_common
    have hu := hr.units
    have tk : L2N.Takes (cxOf (L2N.CX P w) P w K mg base ["p", "q", "turn"] "_law_common" (defScope (top 68)) (fa 46) cdv A outer s H E) (fun cls d _ H => E cls d H) := L2N.takes_of rfl rfl rfl rfl
    have hx : Passes (L2N.CX P w) (cxOf (L2N.CX P w) P w K mg base ["p", "q", "turn"] "_law_common" (defScope (top 68)) (fa 46) cdv A outer s H E) E := L2N.passes_call tk fun _ _ _ _ h => h
    have hp : PassesOwn (model P w) (cxOf (L2N.CX P w) P w K mg base ["p", "q", "turn"] "_law_common" (defScope (top 68)) (fa 46) cdv A outer s H E).A (cxOf (L2N.CX P w) P w K mg base ["p", "q", "turn"] "_law_common" (defScope (top 68)) (fa 46) cdv A outer s H E).env (cxOf (L2N.CX P w) P w K mg base ["p", "q", "turn"] "_law_common" (defScope (top 68)) (fa 46) cdv A outer s H E).xe := passes_of rfl
    exact (xCons (xFor hp rfl (xiRng1 (by rfl) B.n_range (xaCons xInt xaNil)) (xdName (pg_name (i := 2) S.nd rfl (by first | exact Or.inl rfl | exact Or.inr rfl))) (xCons (xSIf (xtCmp (op_eqP hu) ok_eq (xVar 1) xInt rfl) (xLast (xRet (xVar 0))) xNil)
  (xLast (xPar2 rfl S.nd (i := 0) (j := 1) rfl rfl (by decide) rfl rfl (xaCons (xVar 1) (xaCons (xBin op_modN ok_mod (xTy call_int1 ok_int (by rfl) B.n_int PyProof.Rows.boot_int (xaCons (xVar 0) xaNil)) (xVar 1)) xaNil)) rfl))))
  (xLast (xRet (xVar 0))))
/-! ### _law_sum -/
def b__law_sum : Ev Ct := (sSeq (sAsg (eOp2 dAdd (eOp2 dMul (eVar 0) (eVar 1)) (eVal (.int 1))) (stR 2))
  (sSeq (sAsg (eOp2 dMul (eLst (aCons (eVal (.int 0)) aNil)) (eOp2 dAdd (eVar 2) (eVal (.int 1)))) (stR 3))
  (sSeq (sFor (iSeq (eTup (aCons (eTup (aCons (eOp2 dAdd (eOp2 dMul (eVar 0) (eVar 1)) (eVal (.int 1))) (aCons (eVal (.int 1)) aNil))) (aCons (eTup (aCons (eOp2 dMul (eVar 0) (eVar 1)) (aCons (eOp1 dNeg (eVal (.int 1))) aNil))) (aCons (eTup (aCons (eVal (.int 1)) (aCons (eOp1 dNeg (eVal (.int 1))) aNil))) (aCons (eTup (aCons (eVal (.int 0)) (aCons (eVal (.int 1)) aNil))) aNil)))))) (tgT [(stD 4), (stD 5)]) (sAsg (eOp2 dAdd (eOp2 dSub_ (eVar 3) (eVar 4)) (eVar 5)) (tgD (tgS 3 (eVar 4)))))
  (sSeq (sAsg (eOp2 dMul (eLst (aCons (eVal (.int 0)) aNil)) (eOp2 dAdd (eOp2 dAdd (eVar 0) (eVar 1)) (eVal (.int 1)))) (stR 6))
  (sSeq (sFor (iSeq (eTup (aCons (eTup (aCons (eOp2 dAdd (eVar 0) (eVar 1)) (aCons (eVal (.int 1)) aNil))) (aCons (eTup (aCons (eVar 0) (aCons (eOp1 dNeg (eVal (.int 1))) aNil))) (aCons (eTup (aCons (eVar 1) (aCons (eOp1 dNeg (eVal (.int 1))) aNil))) (aCons (eTup (aCons (eVal (.int 0)) (aCons (eVal (.int 1)) aNil))) aNil)))))) (tgT [(stD 4), (stD 5)]) (sAsg (eOp2 dAdd (eOp2 dSub_ (eVar 6) (eVar 4)) (eVar 5)) (tgD (tgS 6 (eVar 4)))))
  (sSeq (sAsg (eLst aNil) (stR 7))
  (sSeq (sFor (iRng1 (aCons (eOp2 dAdd (eOp2 dSub (eOp2 dSub (eVar 2) (eVar 0)) (eVar 1)) (eVal (.int 1))) aNil)) (stD 8) (sSeq (sAsg (eOp2 dSub_ (eVar 3) (eVar 8)) (stR 5))
  (sSeq (sExpr (eMet true 7 mAppend (aCons (eVar 5) aNil)))
  (sFor (iRng1 (aCons (eOp2 dAdd (eOp2 dAdd (eVar 0) (eVar 1)) (eVal (.int 1))) aNil)) (stD 4) (sAsg (eOp2 dSub (eOp2 dSub_ (eVar 3) (eOp2 dAdd (eVar 8) (eVar 4))) (eOp2 dMul (eVar 5) (eOp2 dSub_ (eVar 6) (eVar 4)))) (tgD (tgS 3 (eOp2 dAdd (eVar 8) (eVar 4)))))))))
  (sRet (eTup (aCons (eOpL dTuple (aCons (eComp [4, 5] (iEn (aCons (eVar 7) aNil)) (tgT [(stD 4), (stD 5)]) (tBool (eOp2 dNe (eVar 5) (eVal (.int 0)))) (eTup (aCons (eVar 4) (aCons (eVar 5) aNil)))) aNil)) (aCons (eOp2 dEq (eComp [9] (iSeq (eVar 3)) (stD 9) (tBool (eOp2 dNe (eVar 9) (eVal (.int 0)))) (eVar 9)) (eLst aNil)) aNil)))))))))))
def f__law_sum : Fn := runB 10 b__law_sum
theorem sc__law_sum : FnScope (["p", "q", "long", "top", "power", "number", "bottom", "found", "at", "own"] : List Str) ["p", "q"] (defScope (top 69)) := ⟨rfl, rfl, rfl, by decide +kernel, rfl, by decide +kernel, by decide +kernel⟩
theorem ok__law_sum {fd : FuncData} (B : Blt K mg fa ca) (F : Fun K "_law_sum" "_law_sum" (top 69) (fa 47) fd) (hm : mg "_law_sum" = some (.ref (fa 47))) (hb : Binds K fd ["p", "q"] [])  : Kn P w K mg base fa ca 1 47 "_law_sum" ["p", "q"] f__law_sum :=
  kn_of (lvl := 0) (N := ["p", "q", "long", "top", "power", "number", "bottom", "found", "at", "own"]) (b := b__law_sum) F hm sc__law_sum hb fun cdv A outer s H E hr => by
    have S := sc__law_sum
    have hu := hr.units
    have tk : L2N.Takes (cxOf (L2N.CX P w) P w K mg base ["p", "q", "long", "top", "power", "number", "bottom", "found", "at", "own"] "_law_sum" (defScope (top 69)) (fa 47) cdv A outer s H E) (fun cls d _ H => E cls d H) := L2N.takes_of rfl rfl rfl rfl
    have hx : Passes (L2N.CX P w) (cxOf (L2N.CX P w) P w K mg base ["p", "q", "long", "top", "power", "number", "bottom", "found", "at", "own"] "_law_sum" (defScope (top 69)) (fa 47) cdv A outer s H E) E := L2N.passes_call tk fun _ _ _ _ h => h
    have hp : PassesOwn (model P w) (cxOf (L2N.CX P w) P w K mg base ["p", "q", "long", "top", "power", "number", "bottom", "found", "at", "own"] "_law_sum" (defScope (top 69)) (fa 47) cdv A outer s H E).A (cxOf (L2N.CX P w) P w K mg base ["p", "q", "long", "top", "power", "number", "bottom", "found", "at", "own"] "_law_sum" (defScope (top 69)) (fa 47) cdv A outer s H E).env (cxOf (L2N.CX P w) P w K mg base ["p", "q", "long", "top", "power", "number", "bottom", "found", "at", "own"] "_law_sum" (defScope (top 69)) (fa 47) cdv A outer s H E).xe := passes_of rfl
    exact (xCons (xAsg (xBin op_add' ok_add (xBin op_mul' ok_mul (xVar 0) (xVar 1)) xInt) (xgName (pg_name (i := 2) S.nd rfl (by first | exact Or.inl rfl | exact Or.inr rfl))))
  (xCons (xAsg (xBin op_mul' ok_mul (xLst (xaCons xInt xaNil)) (xBin op_add' ok_add (xVar 2) xInt)) (xgName (pg_name (i := 3) S.nd rfl (by first | exact Or.inl rfl | exact Or.inr rfl))))
  (xCons (xFor hp rfl (xiSeq (xTup (xaCons (xTup (xaCons (xBin op_add' ok_add (xBin op_mul' ok_mul (xVar 0) (xVar 1)) xInt) (xaCons xInt xaNil))) (xaCons (xTup (xaCons (xBin op_mul' ok_mul (xVar 0) (xVar 1)) (xaCons (xUn un_neg ok_neg xInt) xaNil))) (xaCons (xTup (xaCons xInt (xaCons (xUn un_neg ok_neg xInt) xaNil))) (xaCons (xTup (xaCons xInt (xaCons xInt xaNil))) xaNil)))))) (xdTup rfl (xsConsG (xdName (pg_name (i := 4) S.nd rfl (by first | exact Or.inl rfl | exact Or.inr rfl))) (xsConsG (xdName (pg_name (i := 5) S.nd rfl (by first | exact Or.inl rfl | exact Or.inr rfl))) xsNilG))) (xLast (xAsg (xBin op_add' ok_add (xIx hu (xVar 3) (xVar 4)) (xVar 5)) (xgD (xdSub hu (xVar 3) (xVar 4))))))
  (xCons (xAsg (xBin op_mul' ok_mul (xLst (xaCons xInt xaNil)) (xBin op_add' ok_add (xBin op_add' ok_add (xVar 0) (xVar 1)) xInt)) (xgName (pg_name (i := 6) S.nd rfl (by first | exact Or.inl rfl | exact Or.inr rfl))))
  (xCons (xFor hp rfl (xiSeq (xTup (xaCons (xTup (xaCons (xBin op_add' ok_add (xVar 0) (xVar 1)) (xaCons xInt xaNil))) (xaCons (xTup (xaCons (xVar 0) (xaCons (xUn un_neg ok_neg xInt) xaNil))) (xaCons (xTup (xaCons (xVar 1) (xaCons (xUn un_neg ok_neg xInt) xaNil))) (xaCons (xTup (xaCons xInt (xaCons xInt xaNil))) xaNil)))))) (xdTup rfl (xsConsG (xdName (pg_name (i := 4) S.nd rfl (by first | exact Or.inl rfl | exact Or.inr rfl))) (xsConsG (xdName (pg_name (i := 5) S.nd rfl (by first | exact Or.inl rfl | exact Or.inr rfl))) xsNilG))) (xLast (xAsg (xBin op_add' ok_add (xIx hu (xVar 6) (xVar 4)) (xVar 5)) (xgD (xdSub hu (xVar 6) (xVar 4))))))
  (xCons (xAsg (xLst xaNil) (xgName (pg_name (i := 7) S.nd rfl (by first | exact Or.inl rfl | exact Or.inr rfl))))
  (xCons (xFor hp rfl (xiRng1 (by rfl) B.n_range (xaCons (xBin op_add' ok_add (xBin op_sub ok_sub (xBin op_sub ok_sub (xVar 2) (xVar 0)) (xVar 1)) xInt) xaNil)) (xdName (pg_name (i := 8) S.nd rfl (by first | exact Or.inl rfl | exact Or.inr rfl))) (xCons (xAsg (xIx hu (xVar 3) (xVar 8)) (xgName (pg_name (i := 5) S.nd rfl (by first | exact Or.inl rfl | exact Or.inr rfl))))
  (xCons (xExpr (xMet (isL := true) PySem.F.plainAttrs_list PySem.F.slot_list_append PySem.F.type_list_append mt_append mo_append (xVar 7) (xaCons (xVar 5) xaNil)))
  (xLast (xFor hp rfl (xiRng1 (by rfl) B.n_range (xaCons (xBin op_add' ok_add (xBin op_add' ok_add (xVar 0) (xVar 1)) xInt) xaNil)) (xdName (pg_name (i := 4) S.nd rfl (by first | exact Or.inl rfl | exact Or.inr rfl))) (xLast (xAsg (xBin op_sub ok_sub (xIx hu (xVar 3) (xBin op_add' ok_add (xVar 8) (xVar 4))) (xBin op_mul' ok_mul (xVar 5) (xIx hu (xVar 6) (xVar 4)))) (xgD (xdSub hu (xVar 3) (xBin op_add' ok_add (xVar 8) (xVar 4)))))))))))
  (xLast (xRet (xTup (xaCons (xTy call_tuple_of ok_tuple (by rfl) B.n_tuple PyProof.Rows.boot_tuple (xaCons (xComp (own := [(("power" : Str), 4), (("number" : Str), 5)]) rfl S.nd (xiEn (by rfl) B.n_enumerate (xaCons (xVar 7) xaNil)) (blkOk_by (N := [("p" : Str), ("q" : Str), ("long" : Str), ("top" : Str), ("power" : Str), ("number" : Str), ("bottom" : Str), ("found" : Str), ("at" : Str), ("own" : Str)]) (sc := defScope (top 69)) (by decide +kernel)) (by decide) (fun _ _ _ _ _ => (xcTup rfl (xcCons (xcName (pg_name (i := 4) S.nd rfl (by first | exact Or.inl rfl | exact Or.inr rfl)) (by decide)) (xcCons (xcName (pg_name (i := 5) S.nd rfl (by first | exact Or.inl rfl | exact Or.inr rfl)) (by decide)) xcNil)))) (fun _ _ _ _ _ => (xpOne (xtCmp (op_neP hu) ok_ne (xVar 5) xInt rfl))) (fun _ _ _ _ _ => (xTup (xaCons (xVar 4) (xaCons (xVar 5) xaNil))))) xaNil)) (xaCons (xCmp (op_eqP hu) ok_eq (xComp (own := [(("own" : Str), 9)]) rfl S.nd (xiSeq (xVar 3)) (blkOk_by (N := [("p" : Str), ("q" : Str), ("long" : Str), ("top" : Str), ("power" : Str), ("number" : Str), ("bottom" : Str), ("found" : Str), ("at" : Str), ("own" : Str)]) (sc := defScope (top 69)) (by decide +kernel)) (by decide) (fun _ _ _ _ _ => (xcName (pg_name (i := 9) S.nd rfl (by first | exact Or.inl rfl | exact Or.inr rfl)) (by decide))) (fun _ _ _ _ _ => (xpOne (xtCmp (op_neP hu) ok_ne (xVar 9) xInt rfl))) (fun _ _ _ _ _ => (xVar 9))) (xLst xaNil) rfl) xaNil))))))))))))
end
end W71
end
section
set_option Elab.async false
set_option linter.all false
set_option maxRecDepth 100000
set_option maxHeartbeats 4000000
/-! Eh1: iterators of lists and tuples at their end, tuples taken apart, while an exception is handled. -/
namespace Ev
open PySem PySem.Spec PyProof.Rows L2 HotX L2H
section
variable {prog : Program} {w : World} {A : Around} {E : Value → Shared → Prop} {s : Shared}
theorem list_end_hot {it l x1 : Addr} {i : Nat} {items : Array Value} {Q : Option Value → Shared → Prop} (hot : HotAt A x1 s.heap) (hne : x1 ≠ it)
    (hit : s.heap.IsListIter it l i) (hl : s.heap.IsList l items) (hx : items[i]? = none) (hQ : ∀ h', Heap.ExtBut it s.heap h' → Q none { s with heap := h' }) : wpAny (model prog w) A (pyNext (.ref it)) Q E s := by
  obtain ⟨hh, o1, vs1, h1, d1, c1⟩ := hot
  obtain ⟨oi, g1, g2, g3⟩ := id hit
  obtain ⟨ol, l1, _, nl, l2⟩ := hl
  have K1 : ∀ {u : Obj → Obj}, (s.heap.update it u).get? x1 = some o1 := fun {u} => by rw [Heap.get?_update_other _ _ (Ne.symm hne)]; exact h1
  unfold pyNext
  refine wpAny_bind (wpAny_attempt (wpAny_callSpecial?_slot (name := Str.ofString "__next__") hit.typeIs slot_listiter_next (wpAny_call_entry slot_listiter_next hit.typeIs entry_listiter_next ?_ (args_listiter_next _))))
  show wpAny _ _ (field (.ref it) 0 >>= _) _ _ s
  refine wpAny_bind (wpAny_field g1 g3 (x := .ref l) rfl ?_)
  show wpAny _ _ (if (Value.ref l == Value.none) = true then _ else _) _ _ s
  rw [if_neg (by intro z; exact Bool.false_ne_true z)]
  show wpAny _ _ (field (.ref it) 1 >>= _) _ _ s
  refine wpAny_bind (wpAny_field g1 g3 (x := .int i 0) rfl ?_)
  show wpAny _ _ (seqItems? (.ref l) >>= _) _ _ s
  refine wpAny_bind (wpAny_seqItems l1 l2 ?_)
  simp only [Int.toNat_natCast, hx]
  refine wpAny_bind (wpAny_rule (wpAny_bind (wpAny_setField g1 g3 (by simp) ?_)))
  show wpAny _ _ (newExc (.type "StopIteration") [] >>= _) _ _ _
  refine wpAny_bind ?_
  simp only [newExc, newTuple]
  refine wpAny_bind (wpAny_newObj_type ?_ (by size_fits))
  refine wpAny_bind (m := firstArgMember _ _) (wpAny_of_eq (a := Value.none) (by first | rfl | (simp only [firstArgMember]; rfl)) ?_)
  refine wpAny_newObj_type ?_ (by size_fits)
  refine raiseNew_hot ⟨hh, o1, vs1, Heap.get?_push_of_some _ (Heap.get?_push_of_some _ K1), d1, c1⟩ (Nat.ne_of_lt (Heap.lt_size (Heap.get?_push_of_some _ K1))) (Heap.get?_push_size _ rfl) rfl (by first | (simp; done) | (simp; omega) | (simp only [Array.size_append]; simp; omega)) ?_
  refine wpAny_bind (wpAny_isInstance (T := "StopIteration") (b := true) ⟨_, Heap.get?_update_self _ (Heap.get?_push_size _ rfl) rfl, rfl⟩ isSubtype_stop (wpAny_pure (hQ _ fun b o hb e => ?_)))
  have e1 : (s.heap.update it (Obj.mapFields (·.setIfInBounds 0 Value.none))).get? b = some o := by rw [Heap.get?_update_other _ _ (Ne.symm hb)]; exact e
  rw [Heap.get?_update_other _ _ (Nat.ne_of_gt (Heap.lt_size (Heap.get?_push_of_some _ e1)))]
  exact Heap.get?_push_of_some _ (Heap.get?_push_of_some _ e1)
theorem tup_end_hot {it l x1 : Addr} {i : Nat} {items : Array Value} {Q : Option Value → Shared → Prop} (hot : HotAt A x1 s.heap) (hne : x1 ≠ it)
    (hit : IsTupIter s.heap it l i) (hl : IsTup s.heap l items) (hx : items[i]? = none) (hQ : ∀ h', Heap.ExtBut it s.heap h' → Q none { s with heap := h' }) : wpAny (model prog w) A (pyNext (.ref it)) Q E s := by
  obtain ⟨hh, o1, vs1, h1, d1, c1⟩ := hot
  obtain ⟨oi, g1, g2, g3⟩ := id hit
  obtain ⟨ol, l1, _, nl, l2⟩ := hl
  have K1 : ∀ {u : Obj → Obj}, (s.heap.update it u).get? x1 = some o1 := fun {u} => by rw [Heap.get?_update_other _ _ (Ne.symm hne)]; exact h1
  unfold pyNext
  refine wpAny_bind (wpAny_attempt (wpAny_callSpecial?_slot (name := Str.ofString "__next__") hit.typeIs slot_tupleiter_next (wpAny_call_entry slot_tupleiter_next hit.typeIs entry_tupleiter_next ?_ (args_tupleiter_next _))))
  show wpAny _ _ (field (.ref it) 0 >>= _) _ _ s
  refine wpAny_bind (wpAny_field g1 g3 (x := .ref l) rfl ?_)
  show wpAny _ _ (if (Value.ref l == Value.none) = true then _ else _) _ _ s
  rw [if_neg (by intro z; exact Bool.false_ne_true z)]
  show wpAny _ _ (field (.ref it) 1 >>= _) _ _ s
  refine wpAny_bind (wpAny_field g1 g3 (x := .int i 0) rfl ?_)
  show wpAny _ _ (seqItems? (.ref l) >>= _) _ _ s
  refine wpAny_bind (wpAny_seqItems l1 l2 ?_)
  simp only [Int.toNat_natCast, hx]
  refine wpAny_bind (wpAny_rule (wpAny_bind (wpAny_setField g1 g3 (by simp) ?_)))
  show wpAny _ _ (newExc (.type "StopIteration") [] >>= _) _ _ _
  refine wpAny_bind ?_
  simp only [newExc, newTuple]
  refine wpAny_bind (wpAny_newObj_type ?_ (by size_fits))
  refine wpAny_bind (m := firstArgMember _ _) (wpAny_of_eq (a := Value.none) (by first | rfl | (simp only [firstArgMember]; rfl)) ?_)
  refine wpAny_newObj_type ?_ (by size_fits)
  refine raiseNew_hot ⟨hh, o1, vs1, Heap.get?_push_of_some _ (Heap.get?_push_of_some _ K1), d1, c1⟩ (Nat.ne_of_lt (Heap.lt_size (Heap.get?_push_of_some _ K1))) (Heap.get?_push_size _ rfl) rfl (by first | (simp; done) | (simp; omega) | (simp only [Array.size_append]; simp; omega)) ?_
  refine wpAny_bind (wpAny_isInstance (T := "StopIteration") (b := true) ⟨_, Heap.get?_update_self _ (Heap.get?_push_size _ rfl) rfl, rfl⟩ isSubtype_stop (wpAny_pure (hQ _ fun b o hb e => ?_)))
  have e1 : (s.heap.update it (Obj.mapFields (·.setIfInBounds 0 Value.none))).get? b = some o := by rw [Heap.get?_update_other _ _ (Ne.symm hb)]; exact e
  rw [Heap.get?_update_other _ _ (Nat.ne_of_gt (Heap.lt_size (Heap.get?_push_of_some _ e1)))]
  exact Heap.get?_push_of_some _ (Heap.get?_push_of_some _ e1)
theorem hot_ext {x1 b : Addr} {h h' : Heap} (hot : HotAt A x1 h) (e : Heap.ExtBut b h h') (hb : x1 ≠ b) : HotAt A x1 h' := by
  obtain ⟨hh, o1, vs1, h1, d1, c1⟩ := hot
  exact ⟨hh, o1, vs1, e x1 o1 hb h1, d1, c1⟩
theorem hot_lt {x1 : Addr} {h : Heap} (hot : HotAt A x1 h) : x1 < h.objs.size := by
  obtain ⟨hh, o1, vs1, h1, d1, c1⟩ := hot
  exact Heap.lt_size h1
/-- a tuple taken apart -/
theorem apart_hot {t x1 : Addr} {items : Array Value} {env : Env} {elts : List Expr} {k : Nat} {pos : Pos} {Q : Unit → Shared → Prop} (hot : HotAt A x1 s.heap) (ht : IsTup s.heap t items) (hn : (assignEach elts env).length = items.size) (hstar : (assignEach elts env).findIdx? (·.1) = none)
    (h : ∀ h', Heap.ExtBut s.heap.objs.size s.heap h' → wpAny (model prog w) A (assignInOrder ((assignEach elts env).map (·.2)) items.toList) Q E { s with heap := h' }) : wpAny (model prog w) A (assign (.Tuple elts k pos) env (.ref t)) Q E s := by
  have hlt : t ≠ s.heap.objs.size := by obtain ⟨o, ho, _⟩ := ht; exact Nat.ne_of_lt (Heap.lt_size ho)
  have hx1 : x1 ≠ s.heap.objs.size := Nat.ne_of_lt (hot_lt hot)
  have hot2 : HotAt A x1 (s.heap.push { cls := .type "tuple_iterator", data := .fields #[.ref t, .int 0 0] }) := by
    obtain ⟨hh, o1, vs1, h1, d1, c1⟩ := hot
    exact ⟨hh, o1, vs1, Heap.get?_push_of_some _ h1, d1, c1⟩
  rw [assign_Tuple]
  refine wpAny_bind (wpAny_standAt ?_)
  unfold unpack
  rw [hn, hstar]
  refine wpAny_bind (wpAny_holding ?_)
  unfold unpackItems
  refine wpAny_bind ?_
  unfold notIterableAtAll
  refine wpAny_bind (wpAny_specialOf ht.typeIs slot_tuple_iter.lookup (wpAny_pure ?_))
  simp only [Bool.false_eq_true, if_false]
  refine wpAny_bind (wpAny_holding (iter_tuple ht ?_))
  refine wpAny_bind (wpAny_holding (draw_tuple hlt items.size 0 _ _ ⟨_, Heap.get?_push_size _ rfl, rfl, rfl⟩ (ht.push _) (by omega) fun h₁ hit₁ hs₁ => ?_))
  have hall : List.take items.size (List.drop 0 items.toList) = items.toList := by
    rw [List.drop_zero]; exact List.take_of_length_le (by simp)
  rw [hall, if_neg (by simp)]
  refine wpAny_bind (wpAny_holding (tup_end_hot (hot_ext hot2 hs₁.extBut hx1) hx1 hit₁ ((ht.push _).extBut hs₁.extBut hlt) (by simp) fun h₂ he₂ => ?_))
  simp only [Option.isSome_none, Bool.false_eq_true, if_false]
  exact wpAny_pure (h h₂ fun b o hb e => he₂ b o hb (hs₁.extBut b o hb (Heap.get?_push_of_some _ e)))
end
section
variable {X : Cx} {pos : Pos}
/-- (a, b, ..) = a tuple of that length -/
theorem pg_tupH {es : List Expr} {k : Nat} {t : TGs} {n : Nat} (hc : HotC X) (h : PGs X es t) (hn : (assignEach es X.env).length = n := by rfl) (hst : (assignEach es X.env).findIdx? (·.1) = none := by rfl) : PG X (.Tuple es k pos) (gTup X.K n t) := by
  refine ⟨fun pins s σ H v u Q I r hw => ?_⟩
  obtain ⟨a, xs, rfl, hq, hl, hw⟩ := hw
  cases r
  obtain ⟨its, rv, ht, hz⟩ := I.tuple hq
  obtain ⟨x1, hot⟩ := hc.at I
  refine apart_hot hot ht (by simp [hn, ← hl, rv.length]) hst fun h' hx => h.run pins { s with heap := h' } σ H xs _ Q (I.kept (t' := s.toks) fun b o e => hx b o (Nat.ne_of_lt (Heap.lt_size e)) e) (by simpa using rv) hw
/-- the turns over a list -/
theorem turn_listH {P : Program} {w : World} {K : PySem.W.Frag} {tg : Expr} (a it : Addr) : TurnH P w K tg (Itl K a) [it] it (fun i h => h.IsListIter it a i) where
  mem := (turn_list (P := P) (w := w) (K := K) (tg := tg) a it).mem
  obj := (turn_list (P := P) (w := w) (K := K) (tg := tg) a it).obj
  keep := (turn_list (P := P) (w := w) (K := K) (tg := tg) a it).keep
  self := (turn_list (P := P) (w := w) (K := K) (tg := tg) a it).self
  item := by
    intro X hP hw hK hc i pins s σ H E I hf st hg
    subst hP hw hK
    obtain ⟨xs, x, hq, hx⟩ := hg
    obtain ⟨its, rv, p, hz⟩ := I.list hq
    obtain ⟨u, hu, ru⟩ := rv.get hx
    obtain ⟨f0, f1, f2, f3, f4, f5⟩ := hf it (by simp)
    refine wpAny_pyNext_list_item st p.isList (x := u) (by simpa using hu) fun h' st' sb => ⟨u, rfl, ?_⟩
    obtain ⟨o, e, c, d⟩ := id st'
    exact go_of (s := { s with heap := h' }) e c d (by decide) ⟨x, H, I.turned (t' := s.toks) (fun b o hb e => (sb.2 b hb).trans e) f0 f1 f3 f4 f5, ru, ⟨rfl, fun ys hy => by rw [I.list_inj hy hq]; exact hx⟩, st', fun b hb => (hf b hb).1⟩
  done := by
    intro X hP hw hK hc i pins s σ H E I hf st hg
    subst hP hw hK
    obtain ⟨xs, hq, hx⟩ := hg
    obtain ⟨its, rv, p, hz⟩ := I.list hq
    obtain ⟨f0, f1, f2, f3, f4, f5⟩ := hf it (by simp)
    have hl := rv.length
    obtain ⟨q, hq1, hq2⟩ := id hc
    have P1 := I.pin q (List.mem_append_left _ hq2)
    obtain ⟨hh, vs, d1, c1⟩ := hq1
    exact list_end_hot ⟨hh, q.2, vs, P1.1, d1, c1⟩ (f5 q (List.mem_append_left _ hq2)) st p.isList (by simp; omega) fun h' eb => ⟨rfl, I.turned (t' := s.toks) (fun b o hb e => eb b o hb e) f0 f1 f3 f4 f5⟩
end
end Ev
end
section
set_option Elab.async false
set_option linter.all false
set_option maxRecDepth 100000
set_option maxHeartbeats 4000000
/-! Eh2: a list comprehension while an exception is handled. -/
namespace Ev
open PySem PySem.Spec PyProof.Rows L2 HotX L2H
abbrev St2 := L2.St
/-- a comprehension's block, the pins of its def kept -/
abbrev blkP (X : Cx) (s : Shared) (H : Hp) (scope : Scope) (cenv : Env) (fp : List Addr) : Cx := { X.blk s H scope cenv fp with pn := X.pn }
section
variable {X : Cx} {pins : List (Addr × Obj)} {σ : L2.St} {H : Hp} {s : Shared}
theorem hot_blk {scope : Scope} {cenv : Env} {fp : List Addr} (hc : HotC X) : HotC (blkP X s H scope cenv fp) := hc
theorem blkP_start {scope : Scope} {own : List (Str × Nat)} {fp : List Addr} (I : Inv X pins σ H s) (ok : BlkOk X.N X.env.scope scope own) (hN : X.N.Nodup) (hfp : ∀ b ∈ fp, FpOk X pins H b ∧ b < s.heap.objs.size) :
    Inv (blkP X s H scope (compEnvC scope (cellsFrom (s.heap.objs.size + 1) scope.names (cloFrom X.env.cells scope.names [])) s.heap.objs.size X.env) fp) [] (wipe σ (own.map (·.2))) H { s with heap := pushCells (s.heap.push { cls := .type "dict", data := .dict #[] }) scope.names } := by
  have J := block_start I ok hN hfp
  have ko := J.ok
  refine ⟨⟨ko.mod, ko.kind, ko.glob, ko.blt, ko.above, ko.inj, ko.has, ko.cab, ko.hd, ko.frames, ko.stk, ko.exf, ko.bs, ko.bsz, ko.noex, ko.exfs, ko.funs, ko.frf⟩, J.os, J.bare, J.base, J.loc, J.cell, J.free, J.freeC, fun p hp => ?_, J.hok, J.len⟩
  have hp : p ∈ X.pn := by
    have hp : p ∈ X.pn ++ [] := hp
    simpa using hp
  obtain ⟨q1, q2, q3, q4, q5⟩ := I.pin p (List.mem_append_left _ hp)
  refine ⟨pushCells_keeps _ _ _ _ (Heap.get?_push_of_some _ q1), q2, ?_, fun hm => ?_, q5⟩
  · show p.1 ≠ s.heap.objs.size
    exact Nat.ne_of_lt (Heap.lt_size q1)
  · rcases List.mem_cons.mp (I.stkSub p.1 hm) with z | z
    · exact q3 z
    · exact q4 z
/-- the comprehension, as a value -/
theorem pe_lcH {elt tg iter : Expr} {ifs : List Expr} {scope : Scope} {own : List (Str × Nat)} {pos : Pos} {wi : TI} {g : TG} {tt : TT} {te : TE} (hc : HotC X) (hN : X.N.Nodup) (hi : PIH X tg iter wi) (ok : BlkOk X.N X.env.scope scope own)
    (hg : ∀ (s : Shared) (H : Hp) (C : Addr) (cl : List (Str × Addr)) (fp : List Addr), PG (blkP X s H scope (compEnvC scope cl C X.env) fp) tg g) (ht : ∀ (s : Shared) (H : Hp) (C : Addr) (cl : List (Str × Addr)) (fp : List Addr), PTs (blkP X s H scope (compEnvC scope cl C X.env) fp) ifs tt)
    (he : ∀ (s : Shared) (H : Hp) (C : Addr) (cl : List (Str × Addr)) (fp : List Addr), PE (blkP X s H scope (compEnvC scope cl C X.env) fp) elt te) (hs : ∀ x, foldedSetIterable iter X.env x = pure x := by intro _; rfl) :
    PE X (.ListComp elt [⟨tg, iter, ifs, 0⟩] scope pos) (tLc wi g tt te (own.map (·.2))) := by
  refine ⟨fun pins s σ H Q I h => ?_⟩
  rw [eval_ListComp]
  have fr : ∀ y ∈ scope.names, y.2 = .free → ∃ c, X.env.cells.lookup y.1 = some c := fun y hy e => (ok.free y hy e).elim (fun k => I.ok.has _ (.inl k)) fun k => I.ok.has _ (.inr k)
  refine wpAny_comprehension_free rfl hs (closure_ok fr) ok.kind (fun y hy e => by rw [ok.uniq y hy, e]) (thn (hi.run pins s σ H _ I h) fun xv s1 hx => thn hx fun itv s2 h2 => ?_)
  obtain ⟨it, fp, tn, J, H2, rfl, I2, T, st2, f2, q⟩ := h2
  refine wpAny_newObj_type (newEnv_comp ?_) (by show 0 ≤ sizeLine; decide)
  obtain ⟨W, ⟨m0, w0⟩, turn⟩ := q s2.heap.objs.size (I2.hok.fresh (Nat.le_refl _))
  -- the new list at D
  generalize hD : s2.heap.objs.size = D at w0 turn
  have nD : H2 D = none := I2.hok.fresh (Nat.le_of_eq hD)
  obtain ⟨s3, hs3⟩ : ∃ s3 : Shared, s3 = { s2 with heap := s2.heap.push { cls := .type "list", data := .seq ([] : List Value).toArray } } := ⟨_, rfl⟩
  have h3 : s3.heap = s2.heap.push { cls := .type "list", data := .seq ([] : List Value).toArray } := by rw [hs3]
  have I3 : Inv X pins σ (upd H2 D (.lst [])) s3 := by
    rw [hs3]
    exact I2.laid (t' := s2.toks) (fun b o e => Heap.get?_push_of_some _ e) (Nat.le_of_eq hD) ⟨Nat.zero_le _, [], 0, .nil, by rw [← hD]; exact Heap.get?_push_size _ rfl⟩
  have small : ∀ b ∈ fp, b < s2.heap.objs.size := fun b hb => let ⟨_, e, _⟩ := T.obj _ _ st2 b hb; Heap.lt_size e
  have f3 : ∀ b ∈ fp, FpOk X pins (upd H2 D (.lst [])) b ∧ b < s3.heap.objs.size := fun b hb =>
    ⟨⟨by rw [upd_ne (by rw [← hD]; exact Nat.ne_of_lt (small b hb))]; exact (f2 b hb).1, (f2 b hb).2⟩, by rw [h3, Heap.size_push]; exact Nat.lt_succ_of_lt (small b hb)⟩
  have st3 : tn 0 s3.heap := T.keep _ _ _ st2 fun b _ o e => by rw [h3]; exact Heap.get?_push_of_some _ e
  have I4 := blkP_start I3 ok hN f3
  have pg := hg s3 (upd H2 D (.lst [])) s3.heap.objs.size (cellsFrom (s3.heap.objs.size + 1) scope.names (cloFrom X.env.cells scope.names [])) fp
  have pt := ht s3 (upd H2 D (.lst [])) s3.heap.objs.size (cellsFrom (s3.heap.objs.size + 1) scope.names (cloFrom X.env.cells scope.names [])) fp
  have pe := he s3 (upd H2 D (.lst [])) s3.heap.objs.size (cellsFrom (s3.heap.objs.size + 1) scope.names (cloFrom X.env.cells scope.names [])) fp
  rw [← hs3]
  show codeAny _ _ (.compStart (.ListComp elt [⟨tg, iter, ifs, 0⟩] scope pos) 0 (.ref it) (.ref _) (compEnvC scope (cellsFrom (s3.heap.objs.size + 1) scope.names (cloFrom X.env.cells scope.names [])) s3.heap.objs.size X.env)) (compPost (model X.prog X.w) X.A X.xe none _ (.ref _) s3.heap.objs.size) { s3 with heap := pushCells (s3.heap.push { cls := .type "dict", data := .dict #[] }) scope.names }
  have none3 : ∀ b ∈ fp, (upd H2 D (.lst [])) b = none := fun b hb => (f3 b hb).1.1
  generalize hce : compEnvC scope (cellsFrom (s3.heap.objs.size + 1) scope.names (cloFrom X.env.cells scope.names [])) s3.heap.objs.size X.env = ce at I4 pg pt pe ⊢
  have cL : ce.locals = s3.heap.objs.size := by subst hce; rfl
  generalize hH3 : upd H2 D (.lst []) = H3 at I3 I4 pg pt pe w0 none3 f3
  obtain ⟨s4, hs4⟩ : ∃ s4 : Shared, s4 = { s3 with heap := pushCells (s3.heap.push { cls := .type "dict", data := .dict #[] }) scope.names } := ⟨_, rfl⟩
  rw [← hs4] at I4 ⊢
  have st4 : tn 0 s4.heap := T.keep _ _ _ st3 fun b _ o e => by rw [hs4]; exact pushCells_keeps _ _ _ _ (Heap.get?_push_of_some _ e)
  have hcB : HotC (blkP X s3 H3 scope ce fp) := hc
  have stat : ∀ {σ' : L2.St} {H' : Hp} {s' : Shared}, Inv (blkP X s3 H3 scope ce fp) [] σ' H' s' → (∀ b ∈ fp, H' b = none) → ∀ b ∈ fp, FpOk (blkP X s3 H3 scope ce fp) [] H' b := fun {σ' H' s'} J hn b hb =>
    ⟨hn b hb, (J.ok.exf b hb).1, J.ok.exfs b hb, .inl hb, fun x c e => (J.ok.exf b hb).2 x c e, fun p hp => (f3 b hb).1.2.2.2.2.2 p (List.mem_append_left _ (by have hp : p ∈ X.pn ++ [] := hp; simpa using hp))⟩
  have loop : codeAny (model X.prog X.w) X.A (.compLoop (.ListComp elt [⟨tg, iter, ifs, 0⟩] scope pos) 0 (.ref it) (.ref D) ce) (compPost (model X.prog X.w) X.A X.xe none (EP X pins σ Q) (.ref D) s3.heap.objs.size) s4 := by
    refine compLoop_any (fun n s' => ∃ i H', Inv (blkP X s3 H3 scope ce fp) [] (wipe σ (own.map (·.2))) H' s' ∧ tn i s'.heap ∧ (∀ b ∈ fp, H' b = none) ∧ W i n H') ?_ m0 ⟨0, H3, I4, st4, none3, w0⟩
    rintro n s5 ⟨i, H5, I5, st5, n5, w5⟩
    rcases turn i n H5 w5 with ⟨stop, qq⟩ | ⟨go, Nx, hNx, step⟩
    · refine thnF (T.done (blkP X s3 H3 scope ce fp) rfl rfl rfl hcB i [] s5 _ H5 (fun _ _ => False) I5 (stat I5 n5) st5 stop) fun r s6 ⟨hr, I6⟩ => ?_
      subst hr
      have I7 : Inv X pins σ H5 s6 := I3.call' (ch := fp) I6.os I6.base I6.hok I6.bare fun b hb => ⟨(f3 b hb).1.2.2.2.1, (f3 b hb).1.2.1, (f3 b hb).1.2.2.2.2.1, (f3 b hb).1.2.2.2.2.2⟩
      have nC : H5 s3.heap.objs.size = none := by
        have z : H5 ce.locals = none := I6.free
        rwa [cL] at z
      obtain ⟨m, hn, _⟩ := I6.loc
      have hn : s6.heap.Ns ce.locals m := hn
      rw [cL] at hn
      obtain ⟨z0, z1, z2, z3, z4, z5⟩ := I3.fpOk (Nat.le_refl _) nC
      exact ⟨m, hn, fun h'' sb => ⟨.ref D, H5, I7.turned (t' := s6.toks) (fun b o hb e => (sb.2 b hb).trans e) z0 z1 z3 z4 z5, rfl, qq⟩⟩
    · refine thnF (T.item (blkP X s3 H3 scope ce fp) rfl rfl rfl hcB i [] s5 _ H5 (fun _ _ => False) I5 (stat I5 n5) st5 go) fun r s6 ⟨u, hr, h6⟩ => ?_
      subst hr
      refine thnF h6 fun _ s7 ⟨x, H7, I7, r7, y7, st7, n7⟩ => ?_
      refine thnF (pg.run _ s7 _ H7 x u _ (I7.pinned (stat I7 n7) (T.obj _ _ st7)) r7 (step x H7 y7)) fun _ s8 ⟨σ8, H8, I8, hw8, q8⟩ => ?_
      refine thnF (pt.run _ s8 σ8 H8 _ I8 q8) fun b s9 ⟨H9, I9, q9⟩ => ?_
      have fin : ∀ {s' : Shared} {H' : Hp}, Inv (blkP X s3 H3 scope ce fp) ([] ++ pinsAt fp s7.heap) σ8 H' s' → Nx H' → ∃ m, m < n ∧ ∃ i H', Inv (blkP X s3 H3 scope ce fp) [] (wipe σ (own.map (·.2))) H' s' ∧ tn i s'.heap ∧ (∀ b ∈ fp, H' b = none) ∧ W i m H' := fun {s' H'} J nx => by
        obtain ⟨m', hm, w'⟩ := hNx H' nx
        have pin' : ∀ b ∈ fp, ∀ o, s7.heap.get? b = some o → s'.heap.get? b = some o ∧ H' b = none := fun b hb o e =>
          let z := J.pin (b, o) (List.mem_append_right _ (List.mem_append_right _ (mem_pinsAt hb e)))
          ⟨z.1, z.2.1⟩
        refine ⟨m', hm, i + 1, H', (J.unpinned (pins := [])).weak (by rw [← hw8, wipe_length]) (fun j v e => ?_), T.keep _ _ _ st7 fun b hb o e => (pin' b hb o e).1, fun b hb => ?_, w'⟩
        · rw [← hw8] at e
          exact (wipe_some e).1
        · obtain ⟨o, e, _⟩ := T.obj _ _ st7 b hb
          exact (pin' b hb o e).2
      cases b with
      | false => exact fin I9 (by simpa using q9)
      | true =>
        have q9 : te σ8 H9 fun y H4 => ∃ acc, H4 D = some (.lst acc) ∧ acc.length < sizeLine ∧ Nx (upd H4 D (.lst (acc ++ [y]))) := by simpa using q9
        simp only [if_true]
        refine thnF (pe.run _ s9 σ8 H9 _ I9 q9) fun z s10 ⟨yv, H10, I10, r10, acc, hD10, hz10, nx⟩ => ?_
        exact app_ok (X := blkP X s3 H3 scope ce fp) I10 hD10 hz10 r10 fun s11 I11 => fin I11 nx
  exact codeAny_compStart_list loop (T.self X.A 0 _ _ _ st4 loop)
/-- a slot's list, turn by turn -/
theorem pi_listH {tg iter : Expr} {tl : TE} (hl : PE X iter tl) : PIH X tg iter (fun σ H R => tl σ H fun x H1 => ∃ a, x = .ref a ∧ (∃ xs, SqL X.K H1 a xs) ∧ R (Itl X.K a) H1) := by
  refine ⟨fun pins s σ H R I h => thn (hl.run pins s σ H _ I h) fun v s1 ⟨x, H1, I1, r1, a, e, ⟨xs, hq⟩, q⟩ => ?_⟩
  subst e
  obtain rfl := r1
  obtain ⟨its, rv, p, hz⟩ := I1.list hq
  refine wpAny_pyIter_list p.isList ?_
  refine ⟨s1.heap.objs.size, [s1.heap.objs.size], _, _, H1, rfl, I1.kept (t' := s1.toks) fun b o e => Heap.get?_push_of_some _ e, turn_listH a _, ⟨_, Heap.get?_push_size _ rfl, rfl, rfl⟩, fun b hb => ?_, q⟩
  have e : b = s1.heap.objs.size := by simpa using hb
  subst e
  exact I1.fpOk (Nat.le_refl _) (I1.hok.fresh (Nat.le_refl _))
end
end Ev
end
section
set_option Elab.async false
set_option linter.all false
set_option maxRecDepth 100000
set_option maxHeartbeats 4000000
/-! El1: a lambda handed to a def: made (nothing vanishes), called there (exceptions with context None). -/
namespace Ev
open PySem PySem.Spec PyProof.Rows L2 LamX
/-- all but tables stay, nothing vanishes -/
structure Gro (H H1 : Hp) : Prop where
  st : ExtN H H1
  dm : ∀ b, H b ≠ none → H1 b ≠ none
section
variable {X : Cx} {pins : List (Addr × Obj)} {σ : L2.St} {H : Hp} {s : Shared}
theorem lam_makeN {T : List (Addr × Str)} {c P : Addr} {params : Arguments} {body : Expr} {scope : Scope} {pos : Pos} {E : Value → Shared → Prop} {Q : Value → Shared → Prop} (I : Inv X pins σ H s) (TB : TabB X.base X.mg c P) (hcode : X.env.code = .ref c)
    (hm : (P, X.env.qual ++ "<lambda>") ∈ T) (hu : ∀ p ∈ T, p.1 = P → p.2 = X.env.qual ++ "<lambda>") (hT : Tabs T H) (hdef : defaultsOf params X.env = ([], [])) (hfree : ∀ y ∈ scope.names, y.2 = .free → ∃ c, X.env.cells.lookup y.1 = some c)
    (k : ∀ (f c' : Addr) (pm ctv : Value) (H1 : Hp) (s' : Shared), Inv X pins σ H1 s' → Gro H H1 → Tabs T H1 → s'.heap.get? f = some (PySem.W.kla_obj "<lambda>" (X.env.qual ++ "<lambda>") params body scope (cloFrom X.env.cells scope.names []) pm c' ctv) →
      H1 f = none → f ∉ frs X.stack → H1 c' = some (CodeO c' (X.env.qual ++ "<lambda>")) → Q (.ref f) s') : wpAny (model X.prog X.w) X.A (eval (.Lambda params body scope pos) X.env) Q E s := by
  obtain ⟨ps, hP, tr, am⟩ := hT _ hm
  have gP : s.heap.get? P = some { cls := .none, data := .fields ps } := I.hok P _ hP
  have away : ∀ f, s.heap.objs.size ≤ f → f ∉ frs X.stack := fun f hf z => (List.mem_cons.mp (I.stkSub _ z)).elim (fun e => Nat.lt_irrefl _ (Nat.lt_of_lt_of_le I.lt (e ▸ hf))) (I.nofs hf)
  refine PySem.W.kla_eval hdef ?_
  cases hc : codeAmong pos ps.toList with
  | some cv =>
    obtain ⟨c', rfl, hco⟩ := am pos cv hc
    refine PySem.W.kla_makeFunctionHit (mg := X.mg) (c := c) (P := P) (ps := ps) (closure_ok hfree) I.ok.glob (I.mod.glob.keeps I.bk) hcode (TB.code.keeps I.bk) gP tr hc (TB.bm.keeps I.bk) fun ctv h' tk hx hsz => ?_
    exact k h'.objs.size c' _ ctv H _ (I.kept (t' := tk) fun b o e => Heap.get?_push_of_some _ (hx b o e)) ⟨ExtN.refl H, fun b e => e⟩ hT (Heap.get?_push_size _ rfl) (I.hok.fresh hsz) (away _ hsz) hco
  | none =>
    refine PySem.W.kla_makeFunction (mg := X.mg) (c := c) (P := P) (ps := ps) (closure_ok hfree) I.ok.glob (I.mod.glob.keeps I.bk) hcode (TB.code.keeps I.bk) gP tr hc TB.gP (TB.bm.keeps I.bk) fun c' ctv h' tk hx hge hlt hrec htb => ?_
    obtain ⟨_, oc, vs, t, e2, hoc, hd, hv⟩ := hrec
    cases e2
    have le : s.heap.objs.size ≤ h'.objs.size := Nat.le_trans hge (Nat.le_of_lt hlt)
    have nC : H c' = none := I.hok.fresh hge
    have nPC : P ≠ c' := ne_of_none hP nC
    generalize hfo : PySem.W.kla_obj "<lambda>" (X.env.qual ++ "<lambda>") params body scope (cloFrom X.env.cells scope.names []) ((X.mg "__name__").getD .none) c' ctv = fo
    have I1 := inv_table (t' := tk) (more := #[rawInt pos.line, rawInt pos.col, .ref c']) (h' := h'.push fo) I hP (fun b o hb e => Heap.get?_push_of_some _ (hx b o hb e)) (Heap.get?_push_of_some _ htb) hge (q := X.env.qual ++ "<lambda>") ⟨oc, vs, t, Heap.get?_push_of_some _ hoc, hd, hv⟩
    generalize hH1 : upd (upd H P (.tbl (ps ++ #[rawInt pos.line, rawInt pos.col, .ref c']))) c' (CodeO c' (X.env.qual ++ "<lambda>")) = H1 at I1
    have atP : H1 P = some (.tbl (ps ++ #[rawInt pos.line, rawInt pos.col, .ref c'])) := by rw [← hH1, upd_ne nPC, upd_same]
    have atC : H1 c' = some (CodeO c' (X.env.qual ++ "<lambda>")) := by rw [← hH1, upd_same]
    have else_ : ∀ b, b ≠ P → b ≠ c' → H1 b = H b := fun b h1 h2 => by rw [← hH1, upd_ne h2, upd_ne h1]
    have gro : Gro H H1 := ⟨fun b o e n => (else_ b (fun z => n ps (Option.some.inj (e.symm.trans (by rw [z]; exact hP)))) (ne_of_none e nC)).trans e, fun b e => by
      by_cases z : b = P
      · rw [z, atP]; simp
      · rw [else_ b z (fun z2 => e (by rw [z2]; exact nC))]; exact e⟩
    refine k h'.objs.size c' _ ctv H1 _ I1 gro (fun p hp => ?_) (by rw [← hfo]; exact Heap.get?_push_size _ rfl) ?_ (away _ le) atC
    · by_cases hb : p.1 = P
      · rw [hu p hp hb, hb]
        refine ⟨_, atP, by simpa using PySem.TriplesOk_snoc _ _ _ _ tr, fun p' cv hcv => ?_⟩
        have hcv : codeAmong p' (ps.toList ++ [rawInt pos.line, rawInt pos.col, .ref c']) = some cv := by simpa using hcv
        rcases among_app _ tr hcv with z | z
        · obtain ⟨c0, e1, e2⟩ := am p' cv z
          exact ⟨c0, e1, gro.st _ _ e2 codeO_ne⟩
        · exact ⟨c', z, atC⟩
      · obtain ⟨ps', a1, a2, a3⟩ := hT p hp
        refine ⟨ps', (else_ _ hb (ne_of_none a1 nC)).trans a1, a2, fun p' cv hcv => ?_⟩
        obtain ⟨c0, e1, e2⟩ := a3 p' cv hcv
        exact ⟨c0, e1, gro.st _ _ e2 codeO_ne⟩
    · rw [else_ _ (Nat.ne_of_gt (Nat.lt_of_lt_of_le (Heap.lt_size gP) le)) (Nat.ne_of_gt hlt)]
      exact I.hok.fresh le
end
/-- the lambda's body, its exceptions with context None -/
def lamN (X : Cx) (A : Around) (outer : List Env) (s : Shared) (H : Hp) (E : XK) (scope : Scope) (f c' : Addr) : Cx :=
  { lamCx X A outer s H E scope f c' with xe := fun e s' => wpAny (model X.prog X.w) (A.deeper (lamEnv X scope s.heap.objs.size f c')) (leaving (lamEnv X scope s.heap.objs.size f c') e) (fun _ s'' => L2N.CX X.prog X.w outer H s E e s'') (fun e' s'' => L2N.CX X.prog X.w outer H s E e' s'') s' }
section
variable {X : Cx} {pins : List (Addr × Obj)} {σ : L2.St} {H : Hp} {s : Shared}
theorem lamN_takes {A : Around} {outer : List Env} {E : XK} {scope : Scope} {f c' : Addr} : L2N.Takes (lamN X A outer s H E scope f c') (fun cls d _ H => E cls d H) := L2N.takes_of rfl rfl rfl rfl
/-- a(), in the def at g that got the lambda -/
theorem pe_actN {CXg : CXT} {Eg : XK} {Ng : List Str} {qg : Str} {sg : Scope} {g f c' : Addr} {cdg pm ctv : Value} {params : Arguments} {body : Expr} {scope : Scope} {k i : Nat} {a : Str} {pn : List (Addr × Obj)} {xe : Value → Shared → Prop} {W : WX} {E : XK} {tb : TE} {p1 p2 : Pos}
    (I : Inv X pins σ H s) (L : LamS X.env.scope scope) (hf : s.heap.get? f = some (PySem.W.kla_obj "<lambda>" (X.env.qual ++ "<lambda>") params body scope (cloFrom X.env.cells scope.names []) pm c' ctv)) (hfn : H f = none) (hfr : f ∉ frs X.stack)
    (hbind : bindArgs (PySem.W.kla_fn "<lambda>" (X.env.qual ++ "<lambda>") params body scope (cloFrom X.env.cells scope.names []) pm (.ref c') ctv) ⟨[], []⟩ = pure [])
    (tk : L2N.Takes ((cxOf CXg X.prog X.w X.K X.mg X.base Ng qg sg g cdg X.A X.stack s H Eg).tr pn xe) W) (hW : ∀ cls d σ' H', E cls d H' → W cls d σ' H') (hr : Room (k + 1) (X.A.deeper (envOfC qg sg s.heap.objs.size g cdg)))
    (hbody : ∀ (A : Around) (outer : List Env) (s : Shared) (H : Hp), Room k (A.deeper (lamEnv X scope s.heap.objs.size f c')) → PE (lamN X A outer s H E scope f c') body tb)
    (hN : Ng[i]? = some a) (hv : Vis sg a) (hd : (a == ("__debug__" : Str)) = false := by decide) (hcd : (a == ("__classdict__" : Str)) = false := by decide) :
    PE ((cxOf CXg X.prog X.w X.K X.mg X.base Ng qg sg g cdg X.A X.stack s H Eg).tr pn xe) (.Call (.Name a p1) [] [] p2) (fun σZ HZ Q => σZ[i]? = some (some (.ref f)) ∧ HZ c' = some (CodeO c' (X.env.qual ++ "<lambda>")) ∧ tb σ HZ Q) := by
  refine ⟨fun pinsZ sZ σZ HZ Q IZ h => ?_⟩
  obtain ⟨hs, hc, ht⟩ := h
  refine wpAny_Call_Name_kw (thn ((pe_var (pos := p1) (i := i) hN hv hd hcd).run pinsZ sZ σZ HZ (fun v H1 => v = .ref f ∧ H1 = HZ) IZ ⟨.ref f, hs, rfl, rfl⟩) fun u s1 hh => ?_)
  obtain ⟨v9, H9, I1, r1, e9, e8⟩ := hh
  subst e9
  rw [e8] at I1
  obtain rfl : u = Value.ref f := r1
  have of1 := I1.base.keep f _ hf hfn hfr (fun z => nomatch (show f ∈ ([] : List Addr) from z))
  refine PySem.W.callWith_F0 ⟨_, _, _, _, of1⟩ ?_
  have un : Un (frs X.stack) [] H HZ s.heap s1.heap := I1.base
  obtain ⟨⟨oc, vs, t, hoc, hdc, hvc⟩, _, _⟩ := I1.hok c' _ hc
  have rc : codeAny (model X.prog X.w) (X.A.deeper (envOfC qg sg s.heap.objs.size g cdg)) (.call (.ref f) ⟨[], []⟩) (CR (L2N.CX X.prog X.w) (envOfC qg sg s.heap.objs.size g cdg :: X.stack) X.prog X.w HZ s1 Q E) s1 := by
    refine PySem.W.kla_callFunE hr.depth of1 rfl L.co L.gen rfl ⟨c', oc, vs, t, rfl, hoc, hdc, hvc⟩ ?_
    rw [hbind]
    refine wpAny_pure (wpAny_newFunctionEnv (fun y hy => (L.own y hy).2) (fun y hy => absurd hy (by simp)) (fun h₁ hns hsb => ⟨I1.nolimit.fresh _ hsb, ?_⟩) L.kind)
    show codeAny _ _ (.expr body (lamEnv X scope s1.heap.objs.size f c')) _ _
    have kp : ∀ b o, s1.heap.get? b = some o → h₁.get? b = some o := fun b o e => hsb.extBut b o (Nat.ne_of_lt (Heap.lt_size e)) (Heap.get?_push_of_some _ e)
    have J0 : Inv (lamCx X (X.A.deeper (envOfC qg sg s.heap.objs.size g cdg)) (envOfC qg sg s.heap.objs.size g cdg :: X.stack) s1 HZ E scope f c') [] σ HZ { s1 with heap := h₁, toks := s1.toks + ([] : List (Str × Value)).length } := lam_start2 I L I1.env0 hr.hd un hns kp
    have J : Inv (lamN X (X.A.deeper (envOfC qg sg s.heap.objs.size g cdg)) (envOfC qg sg s.heap.objs.size g cdg :: X.stack) s1 HZ E scope f c') [] σ HZ { s1 with heap := h₁, toks := s1.toks + ([] : List (Str × Value)).length } := J0.wish _
    refine PySem.W.kla_codeExpr (wpAny_mono ((hbody _ _ s1 HZ (hr.deeper _)).run [] _ _ HZ Q J ht) (fun v s' hq => ?_) fun e s' hq => hq)
    obtain ⟨w', H', J', rv, q⟩ := hq
    exact ⟨w', H', J'.os, J'.bare, J'.base, J'.hok, rv, q⟩
  refine wpAny_call (codeAny_mono rc fun r s' hq => ?_)
  cases r with
  | error e => exact L2N.passes_call tk hW pinsZ σZ HZ s1 e s' I1 hq
  | ok fl => cases fl with
    | ret u => exact I1.after hq
    | next => exact hq.elim
    | brk => exact hq.elim
    | cont => exact hq.elim
end
end Ev
end
section
set_option Elab.async false
set_option linter.all false
set_option maxRecDepth 100000
set_option maxHeartbeats 4000000
/-! El2: what _law_error makes of a call. -/
namespace W71
open PySem PySem.Spec PyProof.Rows L2 Ev LamX L2H HotX
def wsV (b1 b2 : Bool) : List Str := (if b1 then [("number" : Str)] else []) ++ (if b2 then [("now" : Str)] else [])
def errS (b1 b2 : Bool) : Str := Txt.join (" " : Str) (wsV b1 b2) ++ (" error" : Str)
/-- behind the suite: objects may be new -/
def tEnd (w : Str) : TS := fun De _ H => ∀ H'', (∀ a o, H a = some o → H'' a = some o) → De.rt (.str w) H''
section
variable {X : Cx} {a D C1 C2 : Addr} {oe : Obj} {pn : List (Addr × Obj)} {b1 b2 : Bool}
theorem ext_new {H : Hp} {p : Addr} {o : HO} (h : H p = none) : ∀ a u, H a = some u → upd H p o a = some u := fun a u e => (upd_ne (fun z => by rw [z, h] at e; cases e)).trans e
/-- the words that are chosen, as the comprehension's reading tells them -/
theorem lc_words {K : PySem.W.Frag} {σ : L2.St} {H : Hp} {L T1 T2 : Addr} {x1 x2 : Str} {Q : VK} (h1 : H T1 = some (.tup [.str x1, .bl b1])) (h2 : H T2 = some (.tup [.str x2, .bl b2])) (hL : H L = some (.lst [.ref T1, .ref T2])) (hs : σ[2]? = some (some (.ref L))) (hl : σ.length = 5)
    (q : ∀ D H', H D = none → (∀ a o, H a = some o → H' a = some o) → H' D = some (.lst (((if b1 then [x1] else []) ++ (if b2 then [x2] else [])).map V.str)) → Q (.ref D) H') :
    tLc (fun σ H R => tVar 2 σ H fun x H1 => ∃ a, x = .ref a ∧ (∃ xs, SqL K H1 a xs) ∧ R (Itl K a) H1) (gTup K 2 (gCons (gName 3) (gCons (gName 4) gNil))) (fun σ H Q => tVar 4 σ H fun x H' => ∃ k, TruV K x H' k ∧ Q k H') (tVar 3) [3, 4] σ H Q := by
  refine ⟨_, hs, L, rfl, ⟨_, .inl (.inl hL)⟩, fun D hD => ?_⟩
  have out : ∀ (acc : List V) b u, H b = some u → upd H D (.lst acc) b = some u := fun acc b u e => (upd_ne (fun z => by rw [z, hD] at e; cases e)).trans e
  have upd2 : ∀ u v : HO, upd (upd H D u) D v = upd H D v := fun u v => by
    funext b
    by_cases z : b = D
    · subst z; rw [upd_same, upd_same]
    · rw [upd_ne z, upd_ne z, upd_ne z]
  let acc : Nat → List V := fun i => match i with
    | 0 => []
    | 1 => (if b1 then [V.str x1] else [])
    | _ => (if b1 then [V.str x1] else []) ++ (if b2 then [V.str x2] else [])
  refine lc_list (K := K) (a := L) (g := gTup K 2 (gCons (gName 3) (gCons (gName 4) gNil))) (tt := fun σ H Q => tVar 4 σ H fun x H' => ∃ k, TruV K x H' k ∧ Q k H') (te := tVar 3) (vs := [3, 4]) (σ := σ) (H1 := H) (D := D) (Qd := fun H' => Q (.ref D) H') (xs := [.ref T1, .ref T2]) (fun i H' => H' = upd H D (.lst (acc i))) rfl (fun i H' _ e => ?_) (fun i x H' hx e => ?_) (fun H' e => ?_)
  · rw [e]; exact .inl (.inl (out _ _ _ hL))
  · subst e
    have set1 : ∀ (v1 v2 : V), (((wipe σ [3, 4]).set 3 (some v1)).set 4 (some v2))[4]? = some (some v2) := fun v1 v2 => by
      rw [List.getElem?_set_self]; simp [wipe_length, hl]
    have set2 : ∀ (v1 v2 : V), (((wipe σ [3, 4]).set 3 (some v1)).set 4 (some v2))[3]? = some (some v1) := fun v1 v2 => by
      rw [List.getElem?_set_ne (by decide), List.getElem?_set_self]; simp [wipe_length, hl]
    have wip : ∀ (v1 v2 : V), wipe (((wipe σ [3, 4]).set 3 (some v1)).set 4 (some v2)) [3, 4] = wipe σ [3, 4] := fun v1 v2 => by
      rw [wipe_set (by simp), wipe_set (by simp), wipe_idem]
    match i, hx with
    | 0, hx =>
      cases hx
      refine ⟨T1, _, rfl, .inl (.inl (out _ _ _ h1)), rfl, _, _, rfl, _, _, rfl, rfl, wip _ _, _, set1 _ _, b1, rfl, ?_⟩
      cases b1 with
      | false => rfl
      | true => exact ⟨_, set2 _ _, _, upd_same, (by show 0 < sizeLine; rw [sizeLine_eq]; decide), upd2 _ _⟩
    | 1, hx =>
      cases hx
      refine ⟨T2, _, rfl, .inl (.inl (out _ _ _ h2)), rfl, _, _, rfl, _, _, rfl, rfl, wip _ _, _, set1 _ _, b2, rfl, ?_⟩
      cases b2 with
      | false => show _ = upd H D (.lst (_ ++ [])); rw [List.append_nil]; rfl
      | true => exact ⟨_, set2 _ _, _, upd_same, (by rw [sizeLine_eq]; cases b1 <;> simp [acc]), upd2 _ _⟩
    | i + 2, hx => simp at hx
  · subst e
    refine q D _ hD (out _) ?_
    rw [upd_same]
    cases b1 <;> cases b2 <;> rfl
end
abbrev Ner : List Str := ["call", "e", "some", "word", "good"]
theorem sc_err : FnScope Ner ["call"] (defScope (top 67)) := ⟨rfl, rfl, rfl, by decide +kernel, rfl, by decide +kernel, by decide +kernel⟩
/-- what is asked of the classes that _law_error looks at -/
structure ErrB (K : PySem.W.Frag) (mg : Str → Option Value) (ca : Nat → Addr) : Prop where
  mC : mg "CordError" = some (.ref (ca 0))
  m1 : mg "InvalidNumber" = some (.ref (ca 1))
  m6 : mg "NotNow" = some (.ref (ca 6))
  mi : mg "isinstance" = none
  x1 : PySem.W.exmOne K (.ref (ca 1)) (.ref (ca 0)) = some true
  x6 : PySem.W.exmOne K (.ref (ca 6)) (.ref (ca 0)) = some true
  k11 : PySem.W.kitOne K (.ref (ca 1)) (.ref (ca 1)) = some true
  k16 : PySem.W.kitOne K (.ref (ca 1)) (.ref (ca 6)) = some false
  k61 : PySem.W.kitOne K (.ref (ca 6)) (.ref (ca 1)) = some false
  k66 : PySem.W.kitOne K (.ref (ca 6)) (.ref (ca 6)) = some true
  e1 : ExcC K (ca 1)
  e6 : ExcC K (ca 6)
section
variable {P : Program} {w : World} {K : PySem.W.Frag} {mg : Str → Option Value} {base : Heap} {fa ca : Nat → Addr} {CX : CXT} {cdv : Value} {A : Around} {outer : List Env} {s : Shared} {H : Hp} {E : XK}
abbrev cxE (CX : CXT) (P : Program) (w : World) (K : PySem.W.Frag) (mg : Str → Option Value) (base : Heap) (fa : Nat → Addr) (cdv : Value) (A : Around) (outer : List Env) (s : Shared) (H : Hp) (E : XK) : Cx := cxOf CX P w K mg base Ner "_law_error" (defScope (top 67)) (fa 45) cdv A outer s H E
def suiteE : List Stmt := match defBody (top 67) with
  | .Try _ [.ExceptHandler _ _ b _] _ _ _ :: _ => b
  | _ => []
def scL : Scope := { kind := .function, names := [(".0", .local), ("word", .local), ("good", .local)], isGenerator := false, isCoroutine := false, more := [] }
theorem lcl {X : Cx} {cl : List (Str × Addr)} {C : Addr} (y : Str) (h : scL.names.lookup y = some .local) : (compEnvC scL cl C X.env).scope.names.lookup y = some .local := lookup_relS_keep (by decide) h
/-- the suite, for an exception of the class D -/
theorem suite_ok (B : ErrB K mg ca) {a D : Addr} {oe : Obj} {pn : List (Addr × Obj)} {b1 b2 : Bool} (hD : ExcC K D) (k1 : PySem.W.kitOne K (.ref D) (.ref (ca 1)) = some b1) (k6 : PySem.W.kitOne K (.ref D) (.ref (ca 6)) = some b2) (hz : L2N.Zn (.ref D) none oe) (hf : ∃ vs, oe.data = .fields vs) :
    PSs ((cxE CX P w K mg base fa cdv A outer s H E).suite a ((a, oe) :: pn)) suiteE (fun De σ H => σ[1]? = some (some (.ref a)) ∧ σ.length = 5 ∧ tEnd (errS b1 b2) De σ H) := by
  have S := sc_err
  have hot : HotC ((cxE CX P w K mg base fa cdv A outer s H E).suite a ((a, oe) :: pn)) := by
    obtain ⟨vs, hv⟩ := hf
    exact ⟨(a, oe), ⟨rfl, vs, hv, hz.2.2 vs hv⟩, List.mem_cons_self⟩
  have isE : CallR ((cxE CX P w K mg base fa cdv A outer s H E).suite a ((a, oe) :: pn)) (.builtin "isinstance") (rIsE K D a) := call_isE (X := cxE CX P w K mg base fa cdv A outer s H E) hD hz.zc hf
  generalize hX : (cxE CX P w K mg base fa cdv A outer s H E).suite a ((a, oe) :: pn) = Xs at hot isE ⊢
  have eN : Xs.N = Ner := by rw [← hX]; rfl
  have eK : Xs.K = K := by rw [← hX]; rfl
  have em : Xs.mg = mg := by rw [← hX]; rfl
  have es : Xs.env.scope = defScope (top 67) := by rw [← hX]; rfl
  have nd : Xs.N.Nodup := by rw [eN]; exact S.nd
  have vis : ∀ y, (defScope (top 67)).names.lookup y = some .local → Vis Xs.env.scope y := fun y h => .inl (by rw [es]; exact h)
  have gl : ∀ y, (defScope (top 67)).names.lookup y = some .globalImplicit → Gl Xs y := fun y h => by show Xs.env.scope.names.lookup y = _; rw [es]; exact h
  have pc : ∀ {q1 q2 q3 q4 q5 q6 q7 : Pos}, PE Xs (.ListComp (.Name "word" q1) [⟨.Tuple [.Name "word" q2, .Name "good" q3] 0 q4, .Name "some" q5, [.Name "good" q6], 0⟩] scL q7) (tLc (fun σ H R => tVar 2 σ H fun x H1 => ∃ a, x = .ref a ∧ (∃ xs, SqL Xs.K H1 a xs) ∧ R (Itl Xs.K a) H1) (gTup Xs.K 2 (gCons (gName 3) (gCons (gName 4) gNil))) (fun σ H Q => tVar 4 σ H fun x H' => ∃ k, TruV Xs.K x H' k ∧ Q k H') (tVar 3) [3, 4]) := by
    intro q1 q2 q3 q4 q5 q6 q7
    refine pe_lcH (own := [(("word" : Str), 3), (("good" : Str), 4)]) hot nd (pi_listH (pe_var (i := 2) (by rw [eN]; rfl) (vis _ rfl))) (by rw [eN, es]; exact blkOk_by (by decide +kernel)) (fun s1 H1 C cl fp => ?_) (fun s1 H1 C cl fp => ?_) (fun s1 H1 C cl fp => ?_)
    · exact pg_tupH (X := blkP Xs s1 H1 scL (compEnvC scL cl C Xs.env) fp) (n := 2) hot (pgs_cons (pg_name (i := 3) nd (show Xs.N[3]? = _ by rw [eN]; rfl) (.inl (lcl _ rfl)) (.inr (lcl _ rfl))) (pgs_cons (pg_name (i := 4) nd (show Xs.N[4]? = _ by rw [eN]; rfl) (.inl (lcl _ rfl)) (.inr (lcl _ rfl))) pgs_nil))
    · exact pts_one (pt_truth (pe_var (i := 4) (show Xs.N[4]? = _ by rw [eN]; rfl) (.inl (lcl _ rfl))) (fun _ => rfl))
    · exact pe_var (i := 3) (show Xs.N[3]? = _ by rw [eN]; rfl) (.inl (lcl _ rfl))
  have p : PSs Xs suiteE _ := pss_cons (ps_set (i := 2) nd (by rw [eN]; rfl) (.inl (by rw [es]; rfl)) (pe_lst (pa_cons (pe_tup (pa_cons pe_str (pa_cons (pe_callB isE (gl _ rfl) (by rw [em]; exact B.mi) boot_isinstance (pa_cons (pe_var (i := 1) (by rw [eN]; rfl) (vis _ rfl)) (pa_cons (pe_glob (v := .ref (ca 1)) (gl _ rfl) (by rw [em]; exact B.m1) rfl) pa_nil))) pa_nil)))
      (pa_cons (pe_tup (pa_cons pe_str (pa_cons (pe_callB isE (gl _ rfl) (by rw [em]; exact B.mi) boot_isinstance (pa_cons (pe_var (i := 1) (by rw [eN]; rfl) (vis _ rfl)) (pa_cons (pe_glob (v := .ref (ca 6)) (gl _ rfl) (by rw [em]; exact B.m6) rfl) pa_nil))) pa_nil))) pa_nil))) (hf := .inr (by rw [es]; rfl)))
      (pss_one (ps_ret (pe_op op_add_str (pe_join pe_str pc) pe_str)))
  refine PSs_imp p fun De σ H ⟨h1, hl, h⟩ => ?_
  clear pc p isE hot
  rw [eK]
  refine ⟨_, h1, _, _, b1, rfl, (fun u r => r), k1, (by rw [sizeLine_eq]; simp), fun T1 n1 => ?_⟩
  refine ⟨_, h1, _, _, b2, rfl, (fun u r => r), k6, (by rw [sizeLine_eq]; simp), fun T2 n2 => ?_⟩
  refine ⟨(by rw [sizeLine_eq]; simp), fun L nL => ?_⟩
  refine ⟨⟨_, rfl⟩, lc_words (b1 := b1) (b2 := b2) (x1 := ("number" : Str)) (x2 := ("now" : Str)) (ext_new nL _ _ (ext_new n2 _ _ upd_same)) (ext_new nL _ _ upd_same) upd_same (by rw [List.getElem?_set_self (by omega)]) (by simp [hl]) fun D2 H' n' ext hD' => ?_⟩
  refine ⟨_, _, wsV b1 b2, rfl, rfl, .inl (.inl (.inl hD')), ?_, _, _, rfl, rfl, ?_, h _ fun b o e => ext _ _ (ext_new nL _ _ (ext_new n2 _ _ (ext_new n1 _ _ e)))⟩
  · cases b1 <;> cases b2 <;> decide +kernel
  · rw [sizeLine_eq]; cases b1 <;> cases b2 <;> decide +kernel
theorem takes0N {X : Cx} : L2N.Takes X (fun _ _ _ _ => False) := fun _ _ x => by
  obtain ⟨_, _, _, _, _, _, _, _, _, _, _, _, _, _, _, _, z⟩ := x
  exact z.elim
/-- the words for a class -/
def errK (k : Nat) : Option Str := if k = 1 then some (errS true false) else if k = 6 then some (errS false true) else none
/-- what a caught error is to be, for the words w: Q behind them -/
def ErrX (ca : Nat → Addr) (Q : VK) : XK := fun cls d H' => ∃ k w, cls = .ref (ca k) ∧ d = none ∧ errK k = some w ∧ ∀ H'', (∀ a o, H' a = some o → H'' a = some o) → Q (.str w) H''
theorem err_body (B : ErrB K mg ca) {f c' : Addr} {q : Str} {tl : XK → Hp → VK → Prop}
    (act : ∀ (W : WX) (pn : List (Addr × Obj)) (xe : Value → Shared → Prop) (Ech : XK) (p1 p2 : Pos), L2N.Takes ((cxE CX P w K mg base fa cdv A outer s H E).tr pn xe) W → (∀ cls d σ' H', Ech cls d H' → W cls d σ' H') →
      PE ((cxE CX P w K mg base fa cdv A outer s H E).tr pn xe) (.Call (.Name "call" p1) [] [] p2) (fun σZ HZ Q => σZ[0]? = some (some (.ref f)) ∧ HZ c' = some (CodeO c' q) ∧ tl Ech HZ Q)) :
    ∃ t, PSs (cxE CX P w K mg base fa cdv A outer s H E) (defBody (top 67)) t ∧ ∀ (Q : VK) (H0 : Hp), H0 c' = some (CodeO c' q) → tl (ErrX ca Q) H0 (fun _ H' => Q (.str ("" : Str)) H') → t { nx := fun _ H' => Q .non H', rt := Q } (L2.start Ner [.ref f]) H0 := by
  have S := sc_err
  refine ⟨_, pss_cons (L2N.ps_try_as (X := cxE CX P w K mg base fa cdv A outer s H E) (i := 1) (c := .ref (ca 0)) (x := "CordError") (n := "e") (Wout := fun _ _ _ _ => False)
      (tb := fun W D σ H => ∃ Ech : XK, (∀ cls d σ' H', Ech cls d H' → W cls d σ' H') ∧ σ[0]? = some (some (.ref f)) ∧ H c' = some (CodeO c' q) ∧ tl Ech H fun _ H' => D.nx σ H')
      (ts := fun a cls d De σ H => ∃ D b1 b2, cls = .ref D ∧ d = none ∧ (D = ca 1 ∧ b1 = true ∧ b2 = false ∨ D = ca 6 ∧ b1 = false ∧ b2 = true) ∧ (1 < σ.length → σ[1]? = some (some (.ref a))) ∧ tEnd (errS b1 b2) De σ H)
      rfl rfl S.nd rfl rfl ⟨rfl, by decide, .inl B.mC⟩ takes0N (fun W pn xe tk _ => ?_) (fun a oe cls d pn hz hf => ?_)) (pss_one (ps_ret pe_str)), fun Q H0 hc h => ?_⟩
  · refine ⟨fun pins s' σ H' D I h' => ?_⟩
    obtain ⟨Ech, hW, h1, h2, h3⟩ := h'
    exact (pss_one (ps_expr (act W pn xe Ech _ _ tk hW))).run pins s' σ H' D I ⟨h1, h2, h3⟩
  · refine ⟨fun pins s' σ H' De I h' => ?_⟩
    obtain ⟨D, b1, b2, rfl, rfl, hD, hs, he⟩ := h'
    have hl : σ.length = 5 := I.len
    rcases hD with ⟨rfl, rfl, rfl⟩ | ⟨rfl, rfl, rfl⟩
    · exact (suite_ok B B.e1 B.k11 B.k16 hz hf).run pins s' σ H' De I ⟨hs (by omega), hl, he⟩
    · exact (suite_ok B B.e6 B.k61 B.k66 hz hf).run pins s' σ H' De I ⟨hs (by omega), hl, he⟩
  · refine ⟨ErrX ca Q, fun cls d σ' H' hx => ?_, rfl, hc, h⟩
    obtain ⟨k, w, rfl, rfl, hk, hq⟩ := hx
    unfold errK at hk
    split at hk
    · rename_i k1
      cases hk
      subst k1
      exact ⟨true, B.x1, fun _ a _ => ⟨_, true, false, rfl, rfl, .inl ⟨rfl, rfl, rfl⟩, fun hl => by rw [List.getElem?_set_self (by simpa using hl)], hq⟩, fun z => nomatch z⟩
    · split at hk
      · rename_i k6
        cases hk
        subst k6
        exact ⟨true, B.x6, fun _ a _ => ⟨_, false, true, rfl, rfl, .inr ⟨rfl, rfl, rfl⟩, fun hl => by rw [List.getElem?_set_self (by simpa using hl)], hq⟩, fun z => nomatch z⟩
      · cases hk
end
end W71
end
section
set_option Elab.async false
set_option linter.all false
set_option maxRecDepth 100000
set_option maxHeartbeats 4000000
/-! El3: _law_error(lambda: ..) as a plain function. -/
namespace Ev
open PySem PySem.Spec PyProof.Rows L2 LamX
/-- the slots' own objects hidden -/
def maskE (env : List Slot) : List Slot := env.map fun
  | .ow _ => .no
  | s => s
section
variable {K : PySem.W.Frag} {fa ca : Nat → Addr} {av A M M' : Addr → Prop} {ga ga' : Nat → Option Addr} {σ : L2.St} {H H1 H' : Hp} {s : S} {g' : G}
theorem maskE_fz {env : List Slot} {i : Nat} {d : D} (h : (maskE env)[i]? = some (.fz d)) : env[i]? = some (.fz d) := by
  unfold maskE at h
  rw [List.getElem?_map] at h
  cases e : env[i]? with
  | none => rw [e] at h; cases h
  | some sl => rw [e] at h; cases sl <;> cases h; rfl
theorem maskE_ow {env : List Slot} {i : Nat} {d : D} (h : (maskE env)[i]? = some (.ow d)) : False := by
  unfold maskE at h
  rw [List.getElem?_map] at h
  cases e : env[i]? with
  | none => rw [e] at h; cases h
  | some sl => rw [e] at h; cases sl <;> cases h
theorem maskE_MuA {env : List Slot} {a : Addr} (h : MuA ga σ (maskE env) a) : gmA ga a := h.elim id fun ⟨i, d, h1, _⟩ => (maskE_ow h1).elim
/-- a table may be written, objects may be new -/
theorem Gro.stp (g : Gro H H1) : Stp M M ga ga H H1 := ⟨fun a o _ e t => g.st a o e t, g.dm, fun a z => .inl z, fun _ _ e => e⟩
theorem Gro.kp (g : Gro H H1) : Kp A A ga ga H H1 := ⟨fun a u _ t _ r => r.elim (fun z => .inl (g.st a u z t)) fun ⟨o, z⟩ => .inr ⟨o, g.st a _ z (fun _ y => nomatch y)⟩, fun a xs _ e => g.st a _ e (fun _ z => nomatch z), fun a o _ e => g.st a _ e o.nt, fun a z => .inl z, fun _ _ e => e⟩
theorem Rel.gro (r : Rel K fa av ga σ H s) (g : Gro H H1) (tb : TB fa H1) : Rel K fa av ga σ H1 s := by
  refine ⟨r.len, fun i d e => ?_, fun i d e => ?_, r.inj, ⟨fun k ds e => ?_, r.gl.inj, r.gl.few, tb⟩, fun a z => g.dm a (r.dom a z), r.sep⟩
  · obtain ⟨v, h1, h2⟩ := r.fz i d e
    exact ⟨v, h1, Rep.keep g.kp h2⟩
  · obtain ⟨p, h1, h2, h3, h4⟩ := r.ow i d e
    obtain ⟨o, ho, nt⟩ := h2.nt
    exact ⟨p, h1, h2.keep g.kp ((g.st p o ho nt).trans ho.symm), h3, h4⟩
  · obtain ⟨a, vs, h1, h2, h3⟩ := r.gl.at_ k ds e
    exact ⟨a, vs, h1, g.st a _ h2 (fun _ z => nomatch z), RepL.keep g.kp h3⟩
theorem Rel.mask (r : Rel K fa av ga σ H s) : Rel K fa (fun a => av a ∨ OwA σ s.env a) ga σ H ⟨maskE s.env, s.g⟩ := by
  have sub : ∀ a, AvA (fun a => av a ∨ OwA σ s.env a) ga σ (maskE s.env) a → AvA av ga σ s.env a := fun a z => by
    rcases z with (z | z) | z
    · exact .inl z
    · exact .inr (.inr z)
    · exact .inr (.inl (maskE_MuA z))
  have own : ∀ a, OwA σ s.env a → ∃ i d, s.env[i]? = some (Slot.ow d) ∧ σ[i]? = some (some (V.ref a)) := fun a ⟨i, d, h1, h2⟩ => ⟨i, d, h1, h2⟩
  refine ⟨by simpa [maskE] using r.len, fun i d e => ?_, fun i d e => (maskE_ow e).elim, fun i j d e p h => (maskE_ow h).elim, r.gl.sub sub, fun a z => ?_, fun a k z => ?_⟩
  · obtain ⟨v, h1, h2⟩ := r.fz i d (maskE_fz e)
    exact ⟨v, h1, Rep.keep (Kp.sub sub) h2⟩
  · rcases z with z | z
    · exact r.dom a z
    · obtain ⟨i, d, h1, h2⟩ := own a z
      obtain ⟨p, e1, e2, _⟩ := r.ow i d h1
      rw [h2] at e1; cases e1
      exact e2.some
  · rcases z with z | z
    · exact r.sep a k z
    · obtain ⟨i, d, h1, h2⟩ := own a z
      obtain ⟨p, e1, _, _, e4⟩ := r.ow i d h1
      rw [h2] at e1; cases e1
      exact e4 k
/-- behind something that changed no more than the changing objects of the whole run -/
theorem Rel.behind (r : Rel K fa av ga σ H s) (gl : GRel K fa (fun a => (av a ∨ OwA σ s.env a) ∨ gmA ga' a) ga' H' g') (st : Stp (gmA ga) M' ga ga' H H') (hM : ∀ a, gmA ga' a → M' a) : Rel K fa av ga' σ H' ⟨s.env, g'⟩ ∧ Stp (MuA ga σ s.env) (MuA ga' σ s.env) ga ga' H H' := by
  have back : ∀ a, gmA ga' a → gmA ga a ∨ H a = none := fun a z => st.mm a (hM a z)
  have kp : Kp (AvA av ga σ s.env) (AvA av ga' σ s.env) ga ga' H H' := by
    refine ⟨fun a u n t _ q => ?_, fun a xs n e => st.st a _ (fun z => n (.inr (.inl z))) e (fun _ z => nomatch z), fun a o n e => st.st a _ (fun z => n (.inr (.inl z))) e o.nt, fun a z => ?_, st.gr⟩
    · have n' : ¬ gmA ga a := fun z => n (.inr (.inl z))
      rcases q with q | ⟨o, q⟩
      · exact .inl (st.st a _ n' q t)
      · exact .inr ⟨o, st.st a _ n' q (fun _ z => nomatch z)⟩
    · rcases z with z | z | z
      · exact .inl (.inl z)
      · exact (back a z).elim (fun y => .inl (.inr (.inl y))) .inr
      · exact .inl (.inr (.inr z))
  refine ⟨⟨r.len, fun i d e => ?_, fun i d e => ?_, r.inj, gl.sub fun a z => ?_, fun a z => st.dm a (r.dom a z), fun a k z e => ?_⟩, ⟨fun a o n e t => st.st a o (fun z => n (.inl z)) e t, st.dm, fun a z => ?_, st.gr⟩⟩
  · obtain ⟨v, h1, h2⟩ := r.fz i d e
    exact ⟨v, h1, Rep.keep kp h2⟩
  · obtain ⟨p, h1, h2, h3, h4⟩ := r.ow i d e
    obtain ⟨o, ho, nt⟩ := h2.nt
    have np : ¬ gmA ga p := fun ⟨k, z⟩ => h4 k z
    refine ⟨p, h1, h2.keep kp ((st.st p o np ho nt).trans ho.symm), h3, fun k z => ?_⟩
    rcases back p ⟨k, z⟩ with y | y
    · exact np y
    · rw [ho] at y; cases y
  · rcases z with z | z | z
    · exact .inl (.inl z)
    · exact .inr z
    · exact .inl (.inr z)
  · rcases back a ⟨k, e⟩ with ⟨j, y⟩ | y
    · exact r.sep a j z y
    · exact r.dom a z y
  · rcases z with z | z
    · exact (back a z).elim (fun y => .inl (.inl y)) .inr
    · exact .inl (.inr z)
end
end Ev
namespace W71
open PySem PySem.Spec PyProof.Rows L2 LamX Ev
/-- the words of the error of m, or "" -/
def eErr (m : Ev R) : Ev R := fun s => match m ⟨maskE s.env, s.g⟩ with
  | some (.ok _ s1) => some (.ok (.fz (.str ("" : Str))) ⟨s.env, s1.g⟩)
  | some (.ex x g) => match x.arg, errK x.cls with
    | none, some w => some (.ok (.fz (.str w)) ⟨s.env, g⟩)
    | _, _ => none
  | none => none
def tabsOf (fa : Nat → Addr) : List (Addr × Str) := (tabNames.filter fun p => decide (fa p.1 ≠ 0)).map fun p => (fa p.1, p.2)
theorem tabs_of {fa : Nat → Addr} {H : Hp} (t : TB fa H) : Tabs (tabsOf fa) H := fun p hp => by
  obtain ⟨q, hq, rfl⟩ := List.mem_map.mp hp
  obtain ⟨h1, h2⟩ := List.mem_filter.mp hq
  exact t q h1 (of_decide_eq_true h2)
theorem of_tabs {fa : Nat → Addr} {H : Hp} (t : Tabs (tabsOf fa) H) : TB fa H := fun p hp h => t (fa p.1, p.2) (List.mem_map.mpr ⟨p, List.mem_filter.mpr ⟨hp, decide_eq_true h⟩, rfl⟩)
section
variable {X : Cx} {fa ca : Nat → Addr} {E : XK} {m : Ev R}
theorem xErr {fdE : FuncData} {k k0 : Nat} {c P : Addr} {nm : Str} {params : Arguments} {body : Expr} {scope : Scope} {p lpos pos : Pos} (B : ErrB X.K X.mg ca) (F : Fun X.K "_law_error" "_law_error" (top 67) (fa 45) fdE) (hm : X.mg "_law_error" = some (.ref (fa 45))) (hb : L2.Binds X.K fdE ["call"] [])
    (hg : Gl X "_law_error") (TB0 : TabB X.base X.mg c P) (hcode : X.env.code = .ref c) (hk0 : (k0, nm) ∈ tabNames) (hP : fa k0 = P) (hP0 : P ≠ 0) (hnm : X.env.qual ++ "<lambda>" = nm) (hfa : ∀ q ∈ tabNames, fa q.1 = P → q.2 = nm) (hr : Room (k + 2) X.A) (L : LamS X.env.scope scope) (hdef : defaultsOf params X.env = ([], []))
    (hbind : ∀ (q : Str) (cl : List (Str × Addr)) (pm cv ctv : Value), bindArgs (PySem.W.kla_fn "<lambda>" q params body scope cl pm cv ctv) ⟨[], []⟩ = pure [])
    (hbody : ∀ (A : Around) (outer : List Env) (s : Shared) (H : Hp) (E : XK) (f c' : Addr), Room k (A.deeper (lamEnv X scope s.heap.objs.size f c')) → PE (lamN X A outer s H E scope f c') body (rdE X.K fa ca E m)) :
    PE X (.Call (.Name "_law_error" p) [.Lambda params body scope lpos] [] pos) (rdE X.K fa ca E (eErr m)) := by
  refine ⟨fun pins s σ H Q I h => ?_⟩
  obtain ⟨av, ga, s0, rel, h⟩ := h
  refine wpAny_Call_Name_kw (ld_glob I hg hm ?_ (by decide))
  refine PySem.W.callWith_K (h₀ := X.base) I.ok.mod.kin F.kp ?_ (by rfl) (by rfl)
  show wpAny _ _ (spliced ((false, eval (.Lambda params body scope lpos) X.env) :: backTo pos (starEach [] X.env))) _ _ s
  have hmT : (P, X.env.qual ++ "<lambda>") ∈ tabsOf fa := List.mem_map.mpr ⟨(k0, nm), List.mem_filter.mpr ⟨hk0, decide_eq_true (by rw [hP]; exact hP0)⟩, by rw [hnm, hP]⟩
  have hu : ∀ q ∈ tabsOf fa, q.1 = P → q.2 = X.env.qual ++ "<lambda>" := fun q hq e => by
    obtain ⟨r, hr1, rfl⟩ := List.mem_map.mp hq
    rw [hnm]
    exact hfa r (List.mem_filter.mp hr1).1 e
  refine Calls.spliced_cons (lam_makeN I TB0 hcode hmT hu (tabs_of rel.gl.tb) hdef (L.has I.ok) fun f c' pm' ctv H1 s' I1 gro T1 hf hfn hfr hco => ?_)
  refine Calls.spliced_nil ⟨I1.kIn, ?_⟩
  have rel1 := rel.gro gro (of_tabs T1)
  have fin : ∀ {ga' : Nat → Option Addr} {H' H'' : Hp} {g' : G} {M' : Addr → Prop} {w : Str}, GRel X.K fa (fun a => (av a ∨ OwA σ s0.env a) ∨ gmA ga' a) ga' H' g' → Stp (MuA ga σ (maskE s0.env)) M' ga ga' H1 H' → (∀ a, gmA ga' a → M' a) → (∀ a o, H' a = some o → H'' a = some o) → Pst X.K fa av ga σ H s0 ga' H'' ⟨s0.env, g'⟩ [] [.str w] [.fz (.str w)] := fun {ga' H' H'' g' M' w} gl st hM ext => by
    obtain ⟨r1, st1⟩ := rel1.behind gl ⟨fun a o n => st.st a o (fun z => n (maskE_MuA z)), st.dm, fun a z => (st.mm a z).elim (fun y => .inl (maskE_MuA y)) .inr, st.gr⟩ hM
    exact ⟨r1.grow (fs := []) ext (fun _ z => nomatch z), .fz (.str _) .nil, (fun _ z => nomatch z), (gro.stp.trans st1).trans (Stp.grow ext)⟩
  have rd : rdE X.K fa ca (ErrX ca Q) m σ H1 (fun _ H' => Q (.str ("" : Str)) H') := by
    refine ⟨_, ga, ⟨maskE s0.env, s0.g⟩, rel1.mask, ?_⟩
    unfold eErr at h
    split at h
    · rename_i r1 s1 e1
      rw [e1]
      exact fun fs v ga' H' p => h [] _ ga' H' (fin (p.rel.gl.sub fun a z => z.elim (fun y => .inl (.inl y)) fun y => .inr (.inl y)) p.st (fun a z => .inl z) fun _ _ e => e)
    · rename_i x g e1
      rw [e1]
      split at h
      · rename_i w e2 e3
        exact fun d ga' H' gl xa st => ⟨x.cls, w, rfl, xa.1 e2, e3, fun H'' ext => h [] _ ga' H'' (fin gl st (fun a z => z) ext)⟩
      · exact h.elim
    · exact h.elim
  have rc : codeAny (model X.prog X.w) X.A (.call (.ref (fa 45)) ⟨[.ref f], []⟩) (CR C8.CX0 X.stack X.prog X.w H1 s' Q C8.E0) s' := by
    obtain ⟨oc, od, kV, doc, pm, an, cdv, ct, osl, rfl, lk, hcd⟩ := F.ex
    refine run_ofS (N := Ner) (ps := ["call"]) (us := [.ref f]) (vs := [.ref f]) lk hcd sc_err hr I1.env0 (hb s' [.ref f] I1.kIn rfl) (.cons rfl .nil) rfl fun hr' => ?_
    obtain ⟨t, ht, hq⟩ := err_body (CX := C8.CX0) (cdv := cdv) (A := X.A) (outer := X.stack) (s := s') (H := H1) (E := C8.E0) (fa := fa) (w := X.w) (P := X.prog) (base := X.base) B (f := f) (c' := c') (q := X.env.qual ++ "<lambda>") (tl := fun E H' Q' => rdE X.K fa ca E m σ H' Q')
      (fun W pn xe Ech p1 p2 tk hW => pe_actN (i := 0) I1 L hf hfn hfr (hbind _ _ _ _ _) tk hW hr' (fun A outer s H hr2 => hbody A outer s H Ech f c' hr2) rfl (Or.inl rfl))
    exact ⟨t, ht, hq Q H1 hco rd⟩
  refine wpAny_call (codeAny_mono rc fun r s2 hq => ?_)
  cases r with
  | error e => exact (show False from hq).elim
  | ok fl => cases fl with
    | ret u => exact I1.after hq
    | next => exact hq.elim
    | brk => exact hq.elim
    | cont => exact hq.elim
end
end W71
end
section
set_option Elab.async false
set_option linter.all false
set_option maxRecDepth 100000
set_option maxHeartbeats 4000000
/-! El4: a call of a slot that holds a def; what a def that makes lambdas is asked for. -/
namespace Ev
open PySem PySem.Spec PyProof.Rows L2
theorem rd_call {K : PySem.W.Frag} {fa ca : Nat → Addr} {E : XK} {np : Nat} {f : Fn} {ms : Ev (List R)} {σ : L2.St} {H : Hp} {Q : VK} (h : rdE K fa ca E (eCall np f ms) σ H Q) : rdA K fa ca E ms σ H (fun vs H1 => spOf K fa ca np f (vs ++ []) H1 Q E) := by
  obtain ⟨av, ga, s, rel, h⟩ := h
  refine ⟨av, ga, s, rel, aft_mono (aft_bd h) (fun rs s1 h1 fs vs ga1 H1 p1 => ?_) fun _ _ z => z⟩
  split at h1
  · exact h1.elim
  · rename_i ds s2 e
    split at h1
    · rename_i hz
      obtain ⟨r1, r2, r3⟩ := p1.esc e
      have hA : ∀ a, AvG (fun a => av a ∨ OwA σ s2.env a) ga1 a → AvA av ga1 σ s2.env a := fun a z => by
        rcases z with (z | z) | z
        · exact .inl z
        · exact .inr (.inr z)
        · exact .inr (.inl z)
      refine ⟨by rw [List.append_nil, r2.length, hz], fun a => av a ∨ OwA σ s2.env a, ga1, s2.g, ds, r1.gl.sub hA, by rw [List.append_nil]; exact RepL.keep (Kp.sub hA) r2, fun a z => r1.av_dom a (z.elim .inl fun y => .inr (.inr y)), fun a k z e => ?_, ?_⟩
      · rcases z with z | ⟨i, d, z1, z2⟩
        · exact r1.sep a k z e
        · obtain ⟨q, q1, _, _, q4⟩ := r1.ow i d z1
          rw [z2] at q1; cases q1
          exact q4 k e
      · split at h1
        · exact h1.elim
        · rename_i d g' hf
          try rw [hf]
          intro v ga2 H2 gr rep st
          obtain ⟨q1, q2⟩ := r1.called gr st
          have hB : ∀ a, AvA av ga2 σ s2.env a → AvG (fun a => av a ∨ OwA σ s2.env a) ga2 a := fun a z => by
            rcases z with z | z | z
            · exact .inl (.inl z)
            · exact .inr z
            · exact .inl (.inr z)
          exact h1 [] v ga2 H2 ⟨by rw [avU_nil]; exact q1, by rw [avU_nil]; exact .fz (Rep.keep (Kp.sub hB) rep) .nil, (fun _ z => nomatch z), r3.trans q2⟩
        · rename_i x g' hf
          try rw [hf]
          exact XW.sub h1 (r3.trans (.id fun a z => .inl z)) fun a z => .inl z
    · exact h1.elim
/-- the def that the slot i holds, called -/
def eCallV (i : Nat) (fs : Nat → Option Fn) (np : Nat) (ms : Ev (List R)) : Ev R := fun s => match s.env[i]? with
  | some (.fz (.fn k)) => (match fs k with
    | some f => eCall np f ms s
    | none => none)
  | _ => none
section
variable {X : Cx} {fa ca : Nat → Addr} {E : XK} {ms : Ev (List R)} {e : Expr} {es : List Expr} {pos : Pos}
theorem xCallV {lvl np i : Nat} {fs : Nat → Option Fn} {x : Str} {p : Pos} (F : ∀ k f, fs k = some f → ∃ (n : Str) (ps : List Str), Kn X.prog X.w X.K X.mg X.base fa ca lvl k n ps f ∧ ps.length = np) (hr : Room lvl X.A) (hx : Passes (L2N.CX X.prog X.w) X E) (ha : PA X (e :: es) (rdA X.K fa ca E ms))
    (hN : X.N[i]? = some x := by rfl) (hv : Vis X.env.scope x := by first | exact Or.inl rfl | exact Or.inr (Or.inl rfl) | exact Or.inr (Or.inr rfl)) (hst : (e :: es).all notStar = true := by rfl) (hdb : (x == ("__debug__" : Str)) = false := by decide) (hcd : (x == ("__classdict__" : Str)) = false := by decide) :
    PE X (.Call (.Name x p) (e :: es) [] pos) (rdE X.K fa ca E (eCallV i fs np ms)) := by
  refine ⟨fun pins s σ H Q I h => ?_⟩
  obtain ⟨av, ga, s0, rel, h⟩ := h
  unfold eCallV at h
  split at h
  · rename_i k hi
    split at h
    · rename_i f hf
      obtain ⟨n, ps, Fk, hl⟩ := F k f hf
      obtain ⟨fd, h1, h2⟩ := Fk.ex
      rw [hl] at h1
      obtain ⟨v, hv1, hv2⟩ := rel.fz i _ hi
      cases hv2
      rw [List.all_cons, Bool.and_eq_true] at hst
      exact (pe_callL (i := i) h1 hr hN hv Fk.kp h2 .nil hx ha hdb hcd (star_of hst.1) (noStars hst.2)).run pins s σ H Q I ⟨hv1, rd_call ⟨av, ga, s0, rel, h⟩⟩
    · exact h.elim
  · exact h.elim
end
end Ev
namespace W71
open PySem PySem.Spec PyProof.Rows L2 LamX Ev
/-- _law_error, as the module has it -/
structure ErrF (K : PySem.W.Frag) (mg : Str → Option Value) (fa ca : Nat → Addr) : Prop where
  B : ErrB K mg ca
  F : ∃ fdE, Fun K "_law_error" "_law_error" (top 67) (fa 45) fdE ∧ L2.Binds K fdE ["call"] []
  hm : mg "_law_error" = some (.ref (fa 45))
/-- a def (or its block) that makes lambdas: its code object, the table -/
def LamH (X : Cx) (fa : Nat → Addr) : Prop := ∃ (c P : Addr) (k0 : Nat) (nm : Str), TabB X.base X.mg c P ∧ X.env.code = .ref c ∧ (k0, nm) ∈ tabNames ∧ fa k0 = P ∧ P ≠ 0 ∧ X.env.qual ++ "<lambda>" = nm ∧ ∀ q ∈ tabNames, fa q.1 = P → q.2 = nm
theorem LamH.blk {X : Cx} {fa : Nat → Addr} (h : LamH X fa) {s : Shared} {H : Hp} {scope : Scope} {C : Addr} {cl : List (Str × Addr)} {fp : List Addr} : LamH (X.blk s H scope (compEnvC scope cl C X.env) fp) fa := h
theorem lamS_relabel {sc osc scope : Scope} {a b : Addr} {c : List (Str × Addr)} {d : Str} {e : Option Addr} {f : Value} {g : Option Addr} {i : Addr} (h : lamSB (relabel sc ⟨osc, 0, 0, [], Str.empty, none, .none, none, 0⟩) scope = true) : LamS (relabel sc ⟨osc, a, b, c, d, e, f, g, i⟩) scope := lamS_by h
section
variable {X : Cx} {fa ca : Nat → Addr} {E : XK} {m : Ev R}
theorem xErrL {k : Nat} {params : Arguments} {body : Expr} {scope : Scope} {p lpos pos : Pos} (EF : ErrF X.K X.mg fa ca) (LH : LamH X fa) (hr : Room (k + 2) X.A) (hg : Gl X "_law_error" := by rfl) (L : LamS X.env.scope scope := by (dsimp only [cxOf, Cx.blk, compEnvC, envOfC]; first | exact lamS_by (by decide +kernel) | exact lamS_relabel (by decide +kernel))) (hdef : defaultsOf params X.env = ([], []) := by rfl)
    (hbind : ∀ (q : Str) (cl : List (Str × Addr)) (pm cv ctv : Value), bindArgs (PySem.W.kla_fn "<lambda>" q params body scope cl pm cv ctv) ⟨[], []⟩ = pure [] := by intro _ _ _ _ _; rfl)
    (hbody : ∀ (A : Around) (outer : List Env) (s : Shared) (H : Hp) (E : XK) (f c' : Addr), Room k (A.deeper (lamEnv X scope s.heap.objs.size f c')) → PE (lamN X A outer s H E scope f c') body (rdE X.K fa ca E m)) :
    PE X (.Call (.Name "_law_error" p) [.Lambda params body scope lpos] [] pos) (rdE X.K fa ca E (eErr m)) := by
  obtain ⟨c, P, k0, nm, h1, h2, h3, h4, h5, h6, h7⟩ := LH
  obtain ⟨fdE, F, hb⟩ := EF.F
  exact xErr EF.B F EF.hm hb hg h1 h2 h3 h4 h5 h6 h7 hr L hdef hbind hbody
theorem lam_passes {P : Program} {w : World} {X : Cx} {A : Around} {outer : List Env} {s : Shared} {H : Hp} {E : XK} {scope : Scope} {f c' : Addr} (hP : X.prog = P := by rfl) (hw : X.w = w := by rfl) : Passes (L2N.CX P w) (lamN X A outer s H E scope f c') E := by
  subst hP; subst hw
  exact L2N.passes_call lamN_takes fun _ _ _ _ h => h
end
end W71
end
section
set_option Elab.async false
set_option linter.all false
set_option maxRecDepth 100000
set_option maxHeartbeats 4000000
/-! El5: a def that makes lambdas keeps its promise. -/
namespace W71
open PySem PySem.Spec PyProof.Rows L2 LamX Ev
/-- the code object of the def at f -/
def CodeIs (K : PySem.W.Frag) (f c : Addr) : Prop := ∃ (o : Obj) (fd : FuncData), K.lookup f = some o ∧ o.data = .func fd ∧ fd.code = .ref c
section
variable {P : Program} {w : World} {K : PySem.W.Frag} {mg : Str → Option Value} {base : Heap} {fa ca : Nat → Addr}
theorem code_of {f c : Addr} {oc cdv ct dV kV doc pm : Value} {od an : Option Addr} {osl : Array (Option Value)} {x q : Str} {pr : Arguments} {bd : List Stmt} {sc : Scope} (hc : CodeIs K f c) (lk : K.lookup f = some ⟨oc, od, .func (PySem.W.fnOf x q pr bd sc dV kV doc pm an cdv ct), osl⟩) : cdv = .ref c := by
  obtain ⟨o, fd, h1, h2, h3⟩ := hc
  rw [lk] at h1
  cases h1
  cases h2
  exact h3
theorem kn_ofL {lvl k : Nat} {n : Str} {st : Stmt} {fd : FuncData} {N ps : List Str} {b : Ev Ct} {c : Addr} (F : Fun K n n st (fa k) fd) (hm : mg n = some (.ref (fa k))) (S : FnScope N ps (defScope st)) (hb : L2.Binds K fd ps []) (hc : CodeIs K (fa k) c)
    (body : ∀ (A : Around) (outer : List Env) (s : Shared) (H : Hp) (E : XK), Room lvl (A.deeper (envOfC n (defScope st) s.heap.objs.size (fa k) (.ref c))) → PSs (cxOf (L2N.CX P w) P w K mg base N n (defScope st) (fa k) (.ref c) A outer s H E) (defBody st) (rdS K fa ca E b)) :
    Kn P w K mg base fa ca (lvl + 1) k n ps (runB N.length b) := by
  refine ⟨⟨fd, ?_, hb⟩, hm, F.kp⟩
  obtain ⟨_, _, _, _, _, _, cdv, _, _, rfl, lk, hcd⟩ := F.ex
  have e := code_of hc lk
  subst e
  exact fn_of lk hcd S (fun vs H Q E h => h.1) fun A outer s H vs Q E hr h => ⟨_, body A outer s H E hr, spOf_start h⟩
theorem lamH0 {X : Cx} {c Pt : Addr} {k0 : Nat} {nm : Str} (TBt : TabB X.base X.mg c Pt) (hcode : X.env.code = .ref c) (hk : (k0, nm) ∈ tabNames) (hPt : fa k0 = Pt) (hP0 : Pt ≠ 0) (hnm : X.env.qual ++ "<lambda>" = nm) (hij : fa 900000 ≠ fa 900001) : LamH X fa := by
  refine ⟨c, Pt, k0, nm, TBt, hcode, hk, hPt, hP0, hnm, fun q hq e => ?_⟩
  subst hPt
  unfold tabNames at hq hk
  simp only [List.mem_cons, List.not_mem_nil, or_false] at hq hk
  rcases hk with hk | hk
  · have h1 : k0 = 900000 := congrArg Prod.fst hk
    have h2 : nm = _ := congrArg Prod.snd hk
    rcases hq with hq | hq
    · rw [hq, h2]
    · rw [hq, h1] at e; exact absurd e.symm hij
  · have h1 : k0 = 900001 := congrArg Prod.fst hk
    have h2 : nm = _ := congrArg Prod.snd hk
    rcases hq with hq | hq
    · rw [hq, h1] at e; exact absurd e hij
    · rw [hq, h2]
end
end W71
namespace Ev
open PySem PySem.Spec PyProof.Rows L2
theorem Kn.up {P : Program} {w : World} {K : PySem.W.Frag} {mg : Str → Option Value} {base : Heap} {fa ca : Nat → Addr} {j l k : Nat} {n : Str} {ps : List Str} {f : Fn} (h : Kn P w K mg base fa ca j k n ps f) (e : j ≤ l) : Kn P w K mg base fa ca l k n ps f := by
  obtain ⟨⟨fd, h1, h2⟩, h3, h4⟩ := h
  exact ⟨⟨fd, h1.mono e, h2⟩, h3, h4⟩
end Ev
end
section
set_option Elab.async false
set_option linter.all false
set_option maxRecDepth 100000
set_option maxHeartbeats 4000000
namespace W71
open PySem PySem.Spec PyProof.Rows L2 Ev LamX
/-- what the names of the module hold -/
structure Blt2 (K : PySem.W.Frag) (mg : Str → Option Value) (fa ca : Nat → Addr) : Prop where
  n_abs : mg "abs" = none
  n_int : mg "int" = none
  n_len : mg "len" = none
  n_list : mg "list" = none
  n_range : mg "range" = none
  n_sum : mg "sum" = none
  g_torus_mark : mg "torus_mark" = some (.ref (fa 28))
  g_torus_sum : mg "torus_sum" = some (.ref (fa 27))
def fs_call : Nat → Option Fn := fun k => if k = 27 then some f_torus_sum else if k = 28 then some f_torus_mark else none
def b__law_right : Ev Ct := (sSeq (sAsg (eCall 2 f__law_common (aCons (eVar 0) (aCons (eVar 1) aNil))) (stR 2))
  (sSeq (sAsg (eCall 3 f__law_strands (aCons (eVal .non) (aCons (eVar 0) (aCons (eComp [4] (iRng1 (aCons (eOp2 dMul (eOp2 dSub (eVar 0) (eVal (.int 1))) (eVar 1)) aNil)) (stD 4) tYesM (eTup (aCons (eOp2 dMod (eOpL dInt (aCons (eVar 4) aNil)) (eOp2 dSub (eVar 0) (eVal (.int 1)))) (aCons (eVal (.bl true)) aNil)))) aNil)))) (stR 3))
  (sSeq (sIf (tNotM (tTru (eCall 2 (f__law_like 6) (aCons (eLst (aCons (eCall 2 f_torus_picture (aCons (eVar 0) (aCons (eVar 1) aNil))) (aCons (eCall 2 f_torus_pieces (aCons (eVar 0) (aCons (eVar 1) aNil))) (aCons (eCall 1 f_is_picture (aCons (eVar 3) aNil)) (aCons (eCall 1 f_count_cords (aCons (eVar 3) aNil)) aNil))))) (aCons (eLst (aCons (eVar 3) (aCons (eVar 2) (aCons (eVal (.bl true)) (aCons (eVar 2) aNil))))) aNil))))) (sRet (eVal (.bl false))) sNil)
  (sSeq (sAsg (eCall 1 f__law_cords (aCons (eOp2 dSub_ (eVar 3) (eVal (.int 0))) aNil)) (stR 5))
  (sSeq (sIf (tBool (eOp2 dGt (eVar 2) (eVal (.int 1)))) (sSeq (sAsg (eComp [7] (iSeq (eOp2 dSub_ (eVar 3) (eVal (.int 0)))) (stD 7) (tOrM (tAndM (tBool (eOp2 (dIn false) (eOp2 dSub_ (eVar 7) (eVal (.int 0))) (eOp2 dSub_ (eVar 5) (eVal (.int 0))))) (tBool (eOp2 (dIn false) (eOp2 dSub_ (eVar 7) (eVal (.int 1))) (eOp2 dSub_ (eVar 5) (eVal (.int 1)))))) (tAndM (tBool (eOp2 (dIn false) (eOp2 dSub_ (eVar 7) (eVal (.int 0))) (eOp2 dSub_ (eVar 5) (eVal (.int 1))))) (tBool (eOp2 (dIn false) (eOp2 dSub_ (eVar 7) (eVal (.int 1))) (eOp2 dSub_ (eVar 5) (eVal (.int 0))))))) (eVar 7)) (stR 6))
  (sSeq (sAsg (eComp [9] (iSeq (eTup (aCons (eVal (.fn 27)) (aCons (eVal (.fn 28)) aNil)))) (stD 9) tYesM (eErr (eCallV 9 fs_call 2 (aCons (eVar 0) (aCons (eVar 1) aNil))))) (stR 8))
  (sRet (eAnd (eCall 2 (f__law_like 6) (aCons (eCall 2 f_torus_round (aCons (eVar 0) (aCons (eVar 1) aNil))) (aCons (eOp2 dFdiv (eOpL dLenA (aCons (eVar 6) aNil)) (eVal (.int 2))) aNil))) (eAnd (eOp2 dEq (eOp2 dMul (eOp2 dMul (eOpL dLenA (aCons (eVar 6) aNil)) (eVar 2)) (eVar 2)) (eOp2 dMul (eOp2 dMul (eVal (.int 2)) (eVar 0)) (eVar 1))) (eOp2 dEq (eVar 8) (eOp2 dMul (eLst (aCons (eVal (.str (PySem.Str.ofString "now error"))) aNil)) (eVal (.int 2))))))))) sNil)
  (sSeq (sAsg (eCall 2 f__law_sum (aCons (eVar 0) (aCons (eVar 1) aNil))) (tgD (tgT [(stD 10), (stD 11)])))
  (sSeq (sAsg (eOpL dSum (aCons (eComp [13, 14] (iSeq (eVar 10)) (tgT [(stD 13), (stD 14)]) tYesM (eIf (tBool (eOp2 dEq (eOp2 dMod (eOpL dInt (aCons (eVar 13) aNil)) (eVal (.int 2))) (eVal (.int 0)))) (eVar 14) (eOp1 dNeg (eVar 14)))) aNil)) (stR 12))
  (sSeq (sIf (tOrM (tNotM (tTru (eVar 11))) (tOrM (tNotM (tTru (eCall 2 (f__law_like 6) (aCons (eLst (aCons (eCall 2 f_torus_sum (aCons (eVar 0) (aCons (eVar 1) aNil))) (aCons (eCall 2 f_torus_mark (aCons (eVar 0) (aCons (eVar 1) aNil))) aNil))) (aCons (eLst (aCons (eVar 10) (aCons (eOpL dAbs (aCons (eVar 12) aNil)) aNil))) aNil))))) (tBool (eOp2 dNe (eErr (eCall 2 f_torus_round (aCons (eVar 0) (aCons (eVar 1) aNil)))) (eVal (.str (PySem.Str.ofString "now error"))))))) (sRet (eVal (.bl false))) sNil)
  (sSeq (sIf (tOrM (tBool (eOp2 dNe (eCall 2 f_value_at (aCons (eVar 10) (aCons (eVal (.int 1)) aNil))) (eVal (.int 1)))) (tBool (eOp2 dNe (eComp [13, 14] (iSeq (eOp1 dRev (eVar 10))) (tgT [(stD 13), (stD 14)]) tYesM (eTup (aCons (eOp2 dSub (eOp2 dSub_ (eOp2 dSub_ (eVar 10) (eOp1 dNeg (eVal (.int 1)))) (eVal (.int 0))) (eVar 13)) (aCons (eVar 14) aNil)))) (eOpL dList (aCons (eVar 10) aNil))))) (sRet (eVal (.bl false))) sNil)
  (sSeq (sAsg (eCall 2 f_product (aCons (eVar 10) (aCons (eCall 2 f_product (aCons (eTup (aCons (eTup (aCons (eVal (.int 0)) (aCons (eOp1 dNeg (eVal (.int 1))) aNil))) (aCons (eTup (aCons (eVar 0) (aCons (eVal (.int 1)) aNil))) aNil))) (aCons (eTup (aCons (eTup (aCons (eVal (.int 0)) (aCons (eOp1 dNeg (eVal (.int 1))) aNil))) (aCons (eTup (aCons (eVar 1) (aCons (eVal (.int 1)) aNil))) aNil))) aNil))) aNil))) (stR 15))
  (sSeq (sIf (tOrM (tBool (eOp2 dNe (eVar 15) (eCall 2 f_product (aCons (eTup (aCons (eTup (aCons (eVal (.int 0)) (aCons (eOp1 dNeg (eVal (.int 1))) aNil))) (aCons (eTup (aCons (eOp2 dMul (eVar 0) (eVar 1)) (aCons (eVal (.int 1)) aNil))) aNil))) (aCons (eTup (aCons (eTup (aCons (eVal (.int 0)) (aCons (eOp1 dNeg (eVal (.int 1))) aNil))) (aCons (eTup (aCons (eVal (.int 1)) (aCons (eVal (.int 1)) aNil))) aNil))) aNil))))) (tBool (eOp2 dNe (eCall 2 f_quotient (aCons (eVar 15) (aCons (eVar 10) aNil))) (eCall 2 f_product (aCons (eTup (aCons (eTup (aCons (eVal (.int 0)) (aCons (eOp1 dNeg (eVal (.int 1))) aNil))) (aCons (eTup (aCons (eVar 0) (aCons (eVal (.int 1)) aNil))) aNil))) (aCons (eTup (aCons (eTup (aCons (eVal (.int 0)) (aCons (eOp1 dNeg (eVal (.int 1))) aNil))) (aCons (eTup (aCons (eVar 1) (aCons (eVal (.int 1)) aNil))) aNil))) aNil)))))) (sRet (eVal (.bl false))) sNil)
  (sSeq (sIf (tBool (eOp2 dNe (eCall 1 f_turned (aCons (eCall 1 f_turned (aCons (eVar 10) aNil)) aNil)) (eVar 10))) (sRet (eVal (.bl false))) sNil)
  (sRet (eOr (eNot (eChain dLe dLe (eVal (.int 2)) (eVar 1) (eVal (.int 8)))) (eOr (eOp2 dGt (eOp2 dMul (eOp2 dSub (eVar 1) (eVal (.int 1))) (eVar 0)) (eVal (.int 40))) (eOp2 dEq (eCall 2 f_torus_sum (aCons (eVar 1) (aCons (eVar 0) aNil))) (eVar 10)))))))))))))))))
def f__law_right : Fn := runB 16 b__law_right
section
variable {P : Program} {w : World} {K : PySem.W.Frag} {mg : Str → Option Value} {base : Heap} {fa ca : Nat → Addr}
theorem sc__law_right : FnScope (["p", "q", "many", "picture", "at", "cords", "both", "crossing", "words", "call", "told", "exact", "value", "power", "number", "whole"] : List Str) ["p", "q"] (defScope (top 70)) := ⟨rfl, rfl, rfl, by decide +kernel, rfl, by decide +kernel, by decide +kernel⟩
theorem ok__law_right {fd : FuncData} {c Pt : Addr} (B : Blt2 K mg fa ca) (EF : ErrF K mg fa ca) (F : Fun K "_law_right" "_law_right" (top 70) (fa 48) fd) (hm : mg "_law_right" = some (.ref (fa 48))) (hb : Binds K fd ["p", "q"] []) (hc : CodeIs K (fa 48) c) (TBt : TabB base mg c Pt) (hPt : fa 900000 = Pt) (hP0 : Pt ≠ 0) (hij : fa 900000 ≠ fa 900001) (K__law_common : Kn P w K mg base fa ca 1 46 "_law_common" ["p", "q"] f__law_common) (K__law_strands : Kn P w K mg base fa ca 1 44 "_law_strands" ["cup", "strands", "signs"] f__law_strands) (K__law_like : Kn P w K mg base fa ca 7 39 "_law_like" ["one", "other"] (f__law_like 6)) (K_count_cords : Kn P w K mg base fa ca 5 12 "count_cords" ["picture"] f_count_cords) (K_is_picture : Kn P w K mg base fa ca 3 8 "is_picture" ["value"] f_is_picture) (K_torus_pieces : Kn P w K mg base fa ca 4 26 "torus_pieces" ["p", "q"] f_torus_pieces) (K_torus_picture : Kn P w K mg base fa ca 4 25 "torus_picture" ["p", "q"] f_torus_picture) (K__law_cords : Kn P w K mg base fa ca 3 43 "_law_cords" ["crossings"] f__law_cords) (K_torus_round : Kn P w K mg base fa ca 4 29 "torus_round" ["p", "q"] f_torus_round) (K__law_sum : Kn P w K mg base fa ca 1 47 "_law_sum" ["p", "q"] f__law_sum) (K_torus_mark : Kn P w K mg base fa ca 5 28 "torus_mark" ["p", "q"] f_torus_mark) (K_torus_sum : Kn P w K mg base fa ca 5 27 "torus_sum" ["p", "q"] f_torus_sum) (K_value_at : Kn P w K mg base fa ca 4 19 "value_at" ["one", "sign"] f_value_at) (K_product : Kn P w K mg base fa ca 4 17 "product" ["one", "other"] f_product) (K_quotient : Kn P w K mg base fa ca 4 20 "quotient" ["one", "other"] f_quotient) (K_turned : Kn P w K mg base fa ca 4 18 "turned" ["one"] f_turned) : Kn P w K mg base fa ca 8 48 "_law_right" ["p", "q"] f__law_right :=
  kn_ofL (lvl := 7) (N := ["p", "q", "many", "picture", "at", "cords", "both", "crossing", "words", "call", "told", "exact", "value", "power", "number", "whole"]) (b := b__law_right) F hm sc__law_right hb hc fun A outer s H E hr => by
    have S := sc__law_right
    have hu := hr.units
    have tk : L2N.Takes (cxOf (L2N.CX P w) P w K mg base ["p", "q", "many", "picture", "at", "cords", "both", "crossing", "words", "call", "told", "exact", "value", "power", "number", "whole"] "_law_right" (defScope (top 70)) (fa 48) (.ref c) A outer s H E) (fun cls d _ H => E cls d H) := L2N.takes_of rfl rfl rfl rfl
    have hx : Passes (L2N.CX P w) (cxOf (L2N.CX P w) P w K mg base ["p", "q", "many", "picture", "at", "cords", "both", "crossing", "words", "call", "told", "exact", "value", "power", "number", "whole"] "_law_right" (defScope (top 70)) (fa 48) (.ref c) A outer s H E) E := L2N.passes_call tk fun _ _ _ _ h => h
    have hp : PassesOwn (model P w) (cxOf (L2N.CX P w) P w K mg base ["p", "q", "many", "picture", "at", "cords", "both", "crossing", "words", "call", "told", "exact", "value", "power", "number", "whole"] "_law_right" (defScope (top 70)) (fa 48) (.ref c) A outer s H E).A (cxOf (L2N.CX P w) P w K mg base ["p", "q", "many", "picture", "at", "cords", "both", "crossing", "words", "call", "told", "exact", "value", "power", "number", "whole"] "_law_right" (defScope (top 70)) (fa 48) (.ref c) A outer s H E).env (cxOf (L2N.CX P w) P w K mg base ["p", "q", "many", "picture", "at", "cords", "both", "crossing", "words", "call", "told", "exact", "value", "power", "number", "whole"] "_law_right" (defScope (top 70)) (fa 48) (.ref c) A outer s H E).xe := passes_of rfl
    have LH : LamH (cxOf (L2N.CX P w) P w K mg base ["p", "q", "many", "picture", "at", "cords", "both", "crossing", "words", "call", "told", "exact", "value", "power", "number", "whole"] "_law_right" (defScope (top 70)) (fa 48) (.ref c) A outer s H E) fa := lamH0 (k0 := 900000) TBt rfl (List.mem_cons_self) hPt hP0 rfl hij
    have F_call : ∀ k f, fs_call k = some f → ∃ (n : Str) (ps : List Str), Kn P w K mg base fa ca 5 k n ps f ∧ ps.length = 2 := by
      intro k f h
      unfold fs_call at h
      split at h
      · rename_i e; subst e; cases h; exact ⟨_, _, K_torus_sum.up (by decide), rfl⟩
      · split at h
        · rename_i e; subst e; cases h; exact ⟨_, _, K_torus_mark.up (by decide), rfl⟩
        · cases h
    exact (xCons (xAsg (xCallK (ps := [("p" : Str), ("q" : Str)]) K__law_common (hr.mono (by decide)) hx (xaCons (xVar 0) (xaCons (xVar 1) xaNil))) (xgName (pg_name (i := 2) S.nd rfl (by first | exact Or.inl rfl | exact Or.inr rfl))))
  (xCons (xAsg (xCallK (ps := [("cup" : Str), ("strands" : Str), ("signs" : Str)]) K__law_strands (hr.mono (by decide)) hx (xaCons xNon (xaCons (xVar 0) (xaCons (xComp (own := [(("at" : Str), 4)]) rfl S.nd (xiRng1 (by rfl) B.n_range (xaCons (xBin op_mul' ok_mul (xBin op_sub ok_sub (xVar 0) xInt) (xVar 1)) xaNil)) (blkOk_by (N := [("p" : Str), ("q" : Str), ("many" : Str), ("picture" : Str), ("at" : Str), ("cords" : Str), ("both" : Str), ("crossing" : Str), ("words" : Str), ("call" : Str), ("told" : Str), ("exact" : Str), ("value" : Str), ("power" : Str), ("number" : Str), ("whole" : Str)]) (sc := defScope (top 70)) (by decide +kernel)) (by decide) (fun _ _ _ _ _ => (xcName (pg_name (i := 4) S.nd rfl (by first | exact Or.inl rfl | exact Or.inr rfl)) (by decide))) (fun _ _ _ _ _ => xpNil) (fun _ _ _ _ _ => (xTup (xaCons (xBin op_modN ok_mod (xTy call_int1 ok_int (by rfl) B.n_int PyProof.Rows.boot_int (xaCons (xVar 4) xaNil)) (xBin op_sub ok_sub (xVar 0) xInt)) (xaCons xBl xaNil))))) xaNil)))) (xgName (pg_name (i := 3) S.nd rfl (by first | exact Or.inl rfl | exact Or.inr rfl))))
  (xCons (xSIf (xtNot (xtTru (xCallK (ps := [("one" : Str), ("other" : Str)]) K__law_like (hr.mono (by decide)) hx (xaCons (xLst (xaCons (xCallK (ps := [("p" : Str), ("q" : Str)]) K_torus_picture (hr.mono (by decide)) hx (xaCons (xVar 0) (xaCons (xVar 1) xaNil))) (xaCons (xCallK (ps := [("p" : Str), ("q" : Str)]) K_torus_pieces (hr.mono (by decide)) hx (xaCons (xVar 0) (xaCons (xVar 1) xaNil))) (xaCons (xCallK (ps := [("value" : Str)]) K_is_picture (hr.mono (by decide)) hx (xaCons (xVar 3) xaNil)) (xaCons (xCallK (ps := [("picture" : Str)]) K_count_cords (hr.mono (by decide)) hx (xaCons (xVar 3) xaNil)) xaNil))))) (xaCons (xLst (xaCons (xVar 3) (xaCons (xVar 2) (xaCons xBl (xaCons (xVar 2) xaNil))))) xaNil))))) (xLast (xRet xBl)) xNil)
  (xCons (xAsg (xCallK (ps := [("crossings" : Str)]) K__law_cords (hr.mono (by decide)) hx (xaCons (xIx hu (xVar 3) xInt) xaNil)) (xgName (pg_name (i := 5) S.nd rfl (by first | exact Or.inl rfl | exact Or.inr rfl))))
  (xCons (xSIf (xtCmp op_gt ok_gt (xVar 2) xInt rfl) (xCons (xAsgLc (own := [(("crossing" : Str), 7)]) rfl S.nd (i := 6) rfl rfl (sw_true rfl rfl rfl rfl) (xiSeq (xIx hu (xVar 3) xInt)) (blkOk_by (N := [("p" : Str), ("q" : Str), ("many" : Str), ("picture" : Str), ("at" : Str), ("cords" : Str), ("both" : Str), ("crossing" : Str), ("words" : Str), ("call" : Str), ("told" : Str), ("exact" : Str), ("value" : Str), ("power" : Str), ("number" : Str), ("whole" : Str)]) (sc := defScope (top 70)) (by decide +kernel)) (by decide) (fun _ _ _ _ _ => (xcName (pg_name (i := 7) S.nd rfl (by first | exact Or.inl rfl | exact Or.inr rfl)) (by decide))) (fun _ _ _ _ _ => (xpOne (xwOr (xwAnd (xtCmp (op_inP hu) ok_in (xIx hu (xVar 7) xInt) (xIx hu (xVar 5) xInt) rfl) (xwOne (xtCmp (op_inP hu) ok_in (xIx hu (xVar 7) xInt) (xIx hu (xVar 5) xInt) rfl) (by first | exact Or.inl rfl | exact Or.inr rfl))).pt (xwOne (xwAnd (xtCmp (op_inP hu) ok_in (xIx hu (xVar 7) xInt) (xIx hu (xVar 5) xInt) rfl) (xwOne (xtCmp (op_inP hu) ok_in (xIx hu (xVar 7) xInt) (xIx hu (xVar 5) xInt) rfl) (by first | exact Or.inl rfl | exact Or.inr rfl))).pt (by first | exact Or.inl rfl | exact Or.inr rfl))).pt)) (fun _ _ _ _ _ => (xVar 7)) (by intro _; rfl) (pg_name (i := 6) S.nd rfl (by first | exact Or.inl rfl | exact Or.inr rfl)))
  (xCons (xAsgLc (own := [(("call" : Str), 9)]) rfl S.nd (i := 8) rfl rfl (sw_true rfl rfl rfl rfl) (xiSeq (xTup (xaCons (xGfn (n := ("torus_sum" : Str)) (by rfl) B.g_torus_sum) (xaCons (xGfn (n := ("torus_mark" : Str)) (by rfl) B.g_torus_mark) xaNil)))) (blkOk_by (N := [("p" : Str), ("q" : Str), ("many" : Str), ("picture" : Str), ("at" : Str), ("cords" : Str), ("both" : Str), ("crossing" : Str), ("words" : Str), ("call" : Str), ("told" : Str), ("exact" : Str), ("value" : Str), ("power" : Str), ("number" : Str), ("whole" : Str)]) (sc := defScope (top 70)) (by decide +kernel)) (by decide) (fun _ _ _ _ _ => (xcName (pg_name (i := 9) S.nd rfl (by first | exact Or.inl rfl | exact Or.inr rfl)) (by decide))) (fun _ _ _ _ _ => xpNil) (fun _ _ _ _ _ => (xErrL (k := 5) EF LH.blk (hr.mono (by decide)) (hbody := fun _ _ _ _ _ _ _ hr2 => (xCallV (i := 9) F_call (hr2.mono (by decide)) lam_passes (xaCons (xVar 0) (xaCons (xVar 1) xaNil)))))) (by intro _; rfl) (pg_name (i := 8) S.nd rfl (by first | exact Or.inl rfl | exact Or.inr rfl)))
  (xLast (xRet (xAnd (xCallK (ps := [("one" : Str), ("other" : Str)]) K__law_like (hr.mono (by decide)) hx (xaCons (xCallK (ps := [("p" : Str), ("q" : Str)]) K_torus_round (hr.mono (by decide)) hx (xaCons (xVar 0) (xaCons (xVar 1) xaNil))) (xaCons (xBin op_fdivN ok_fdiv (xB call_lenA ok_lenA (by rfl) B.n_len PySem.boot_len (xaCons (xVar 6) xaNil)) xInt) xaNil))) (xAnd (xCmp (op_eqP hu) ok_eq (xBin op_mul' ok_mul (xBin op_mul' ok_mul (xB call_lenA ok_lenA (by rfl) B.n_len PySem.boot_len (xaCons (xVar 6) xaNil)) (xVar 2)) (xVar 2)) (xBin op_mul' ok_mul (xBin op_mul' ok_mul xInt (xVar 0)) (xVar 1)) rfl) (xOne (xCmp (op_eqP hu) ok_eq (xVar 8) (xBin op_mul' ok_mul (xLst (xaCons xStr xaNil)) xInt) rfl)))))))) xNil)
  (xCons (xAsg (xCallK (ps := [("p" : Str), ("q" : Str)]) K__law_sum (hr.mono (by decide)) hx (xaCons (xVar 0) (xaCons (xVar 1) xaNil))) (xgD (xdTup rfl (xsConsG (xdName (pg_name (i := 10) S.nd rfl (by first | exact Or.inl rfl | exact Or.inr rfl))) (xsConsG (xdName (pg_name (i := 11) S.nd rfl (by first | exact Or.inl rfl | exact Or.inr rfl))) xsNilG)))))
  (xCons (xAsg (xB (cr_sum rfl) ok_sum (by rfl) B.n_sum boot_sum (xaCons (xComp (own := [(("power" : Str), 13), (("number" : Str), 14)]) rfl S.nd (xiSeq (xVar 10)) (blkOk_by (N := [("p" : Str), ("q" : Str), ("many" : Str), ("picture" : Str), ("at" : Str), ("cords" : Str), ("both" : Str), ("crossing" : Str), ("words" : Str), ("call" : Str), ("told" : Str), ("exact" : Str), ("value" : Str), ("power" : Str), ("number" : Str), ("whole" : Str)]) (sc := defScope (top 70)) (by decide +kernel)) (by decide) (fun _ _ _ _ _ => (xcTup rfl (xcCons (xcName (pg_name (i := 13) S.nd rfl (by first | exact Or.inl rfl | exact Or.inr rfl)) (by decide)) (xcCons (xcName (pg_name (i := 14) S.nd rfl (by first | exact Or.inl rfl | exact Or.inr rfl)) (by decide)) xcNil)))) (fun _ _ _ _ _ => xpNil) (fun _ _ _ _ _ => (xIf (xtCmp (op_eqP hu) ok_eq (xBin op_modN ok_mod (xTy call_int1 ok_int (by rfl) B.n_int PyProof.Rows.boot_int (xaCons (xVar 13) xaNil)) xInt) xInt rfl) (xVar 14) (xUn un_neg ok_neg (xVar 14))))) xaNil)) (xgName (pg_name (i := 12) S.nd rfl (by first | exact Or.inl rfl | exact Or.inr rfl))))
  (xCons (xSIf (xwOr (xtNot (xtTru (xVar 11))) (xwOr (xtNot (xtTru (xCallK (ps := [("one" : Str), ("other" : Str)]) K__law_like (hr.mono (by decide)) hx (xaCons (xLst (xaCons (xCallK (ps := [("p" : Str), ("q" : Str)]) K_torus_sum (hr.mono (by decide)) hx (xaCons (xVar 0) (xaCons (xVar 1) xaNil))) (xaCons (xCallK (ps := [("p" : Str), ("q" : Str)]) K_torus_mark (hr.mono (by decide)) hx (xaCons (xVar 0) (xaCons (xVar 1) xaNil))) xaNil))) (xaCons (xLst (xaCons (xVar 10) (xaCons (xB call_abs ok_abs (by rfl) B.n_abs (by decide +kernel) (xaCons (xVar 12) xaNil)) xaNil))) xaNil))))) (xwOne (xtCmp (op_neP hu) ok_ne (xErrL (k := 5) EF LH (hr.mono (by decide)) (hbody := fun _ _ _ _ _ _ _ hr2 => (xCallK (ps := [("p" : Str), ("q" : Str)]) K_torus_round (hr2.mono (by decide)) lam_passes (xaCons (xVar 0) (xaCons (xVar 1) xaNil))))) xStr rfl) (by first | exact Or.inl rfl | exact Or.inr rfl)))).pt (xLast (xRet xBl)) xNil)
  (xCons (xSIf (xwOr (xtCmp (op_neP hu) ok_ne (xCallK (ps := [("one" : Str), ("sign" : Str)]) K_value_at (hr.mono (by decide)) hx (xaCons (xVar 10) (xaCons xInt xaNil))) xInt rfl) (xwOne (xtCmp (op_neP hu) ok_ne (xComp (own := [(("power" : Str), 13), (("number" : Str), 14)]) rfl S.nd (xiSeq (xRev (xVar 10))) (blkOk_by (N := [("p" : Str), ("q" : Str), ("many" : Str), ("picture" : Str), ("at" : Str), ("cords" : Str), ("both" : Str), ("crossing" : Str), ("words" : Str), ("call" : Str), ("told" : Str), ("exact" : Str), ("value" : Str), ("power" : Str), ("number" : Str), ("whole" : Str)]) (sc := defScope (top 70)) (by decide +kernel)) (by decide) (fun _ _ _ _ _ => (xcTup rfl (xcCons (xcName (pg_name (i := 13) S.nd rfl (by first | exact Or.inl rfl | exact Or.inr rfl)) (by decide)) (xcCons (xcName (pg_name (i := 14) S.nd rfl (by first | exact Or.inl rfl | exact Or.inr rfl)) (by decide)) xcNil)))) (fun _ _ _ _ _ => xpNil) (fun _ _ _ _ _ => (xTup (xaCons (xBin op_sub ok_sub (xIx hu (xIx hu (xVar 10) (xUn un_neg ok_neg xInt)) xInt) (xVar 13)) (xaCons (xVar 14) xaNil))))) (xTy call_list_of ok_list (by rfl) B.n_list PyProof.Rows.boot_list (xaCons (xVar 10) xaNil)) rfl) (by first | exact Or.inl rfl | exact Or.inr rfl))).pt (xLast (xRet xBl)) xNil)
  (xCons (xAsg (xCallK (ps := [("one" : Str), ("other" : Str)]) K_product (hr.mono (by decide)) hx (xaCons (xVar 10) (xaCons (xCallK (ps := [("one" : Str), ("other" : Str)]) K_product (hr.mono (by decide)) hx (xaCons (xTup (xaCons (xTup (xaCons xInt (xaCons (xUn un_neg ok_neg xInt) xaNil))) (xaCons (xTup (xaCons (xVar 0) (xaCons xInt xaNil))) xaNil))) (xaCons (xTup (xaCons (xTup (xaCons xInt (xaCons (xUn un_neg ok_neg xInt) xaNil))) (xaCons (xTup (xaCons (xVar 1) (xaCons xInt xaNil))) xaNil))) xaNil))) xaNil))) (xgName (pg_name (i := 15) S.nd rfl (by first | exact Or.inl rfl | exact Or.inr rfl))))
  (xCons (xSIf (xwOr (xtCmp (op_neP hu) ok_ne (xVar 15) (xCallK (ps := [("one" : Str), ("other" : Str)]) K_product (hr.mono (by decide)) hx (xaCons (xTup (xaCons (xTup (xaCons xInt (xaCons (xUn un_neg ok_neg xInt) xaNil))) (xaCons (xTup (xaCons (xBin op_mul' ok_mul (xVar 0) (xVar 1)) (xaCons xInt xaNil))) xaNil))) (xaCons (xTup (xaCons (xTup (xaCons xInt (xaCons (xUn un_neg ok_neg xInt) xaNil))) (xaCons (xTup (xaCons xInt (xaCons xInt xaNil))) xaNil))) xaNil))) rfl) (xwOne (xtCmp (op_neP hu) ok_ne (xCallK (ps := [("one" : Str), ("other" : Str)]) K_quotient (hr.mono (by decide)) hx (xaCons (xVar 15) (xaCons (xVar 10) xaNil))) (xCallK (ps := [("one" : Str), ("other" : Str)]) K_product (hr.mono (by decide)) hx (xaCons (xTup (xaCons (xTup (xaCons xInt (xaCons (xUn un_neg ok_neg xInt) xaNil))) (xaCons (xTup (xaCons (xVar 0) (xaCons xInt xaNil))) xaNil))) (xaCons (xTup (xaCons (xTup (xaCons xInt (xaCons (xUn un_neg ok_neg xInt) xaNil))) (xaCons (xTup (xaCons (xVar 1) (xaCons xInt xaNil))) xaNil))) xaNil))) rfl) (by first | exact Or.inl rfl | exact Or.inr rfl))).pt (xLast (xRet xBl)) xNil)
  (xCons (xSIf (xtCmp (op_neP hu) ok_ne (xCallK (ps := [("one" : Str)]) K_turned (hr.mono (by decide)) hx (xaCons (xCallK (ps := [("one" : Str)]) K_turned (hr.mono (by decide)) hx (xaCons (xVar 10) xaNil)) xaNil)) (xVar 10) rfl) (xLast (xRet xBl)) xNil)
  (xLast (xRet (xOr (xNot (xChain op_le op_le ok_le ok_le xInt (xVar 1) xInt)) (xOr (xCmp op_gt ok_gt (xBin op_mul' ok_mul (xBin op_sub ok_sub (xVar 1) xInt) (xVar 0)) xInt rfl) (xOne (xCmp (op_eqP hu) ok_eq (xCallK (ps := [("p" : Str), ("q" : Str)]) K_torus_sum (hr.mono (by decide)) hx (xaCons (xVar 1) (xaCons (xVar 0) xaNil))) (xVar 10) rfl))))))))))))))))))
end
end W71
end
section
set_option Elab.async false
set_option linter.all false
set_option maxRecDepth 100000
set_option maxHeartbeats 4000000
/-! El6: _law_cup and _law_roll, by hand. -/
namespace W71
open PySem PySem.Spec PyProof.Rows L2 LamX Ev
/-- what the two defs ask of the module's names -/
structure CupB (mg : Str → Option Value) : Prop where
  n_abs : mg "abs" = none
  n_int : mg "int" = none
  n_list : mg "list" = none
/-- a row's first cell, the list of two fresh numbers comes back -/
def spCup (K : PySem.W.Frag) : Sp := fun vs H Q _ => vs.length = 1 ∧ ∃ a ns, vs = [.ref a] ∧ SqL K H a ns ∧ ns.length ≤ 63 ∧ (∀ v ∈ ns, ∃ i, v = V.int i) ∧
  ∀ p x y H', H p = none → H' p = some (.lst [.int x, .int y]) → (∀ b o, H b = some o → H' b = some o) → Q (.ref p) H'
def rollB (b : Int) : Int := (b * 29147 + 9923).fmod 2147483543
def rollN (a b m : Int) : Int × Int × Int := if 0 < a then (a.fmod m, a / m, b) else ((((rollB b * (rollB b + 353)).fmod 2147483587) / 953).fmod m, a, rollB b)
def spRoll : Sp := fun vs H Q _ => vs.length = 2 ∧ ∃ p a b m, vs = [.ref p, .int m] ∧ H p = some (.lst [.int a, .int b]) ∧ 0 < m ∧ m < 1073741824 ∧
  Q (.int (rollN a b m).1) (upd H p (.lst [.int (rollN a b m).2.1, .int (rollN a b m).2.2]))
section
variable {P : Program} {w : World} {K : PySem.W.Frag} {mg : Str → Option Value} {base : Heap} {fa ca : Nat → Addr}
theorem sc__law_cup : FnScope (["script", "cell"] : List Str) ["script"] (defScope (top 58)) := ⟨rfl, rfl, rfl, by decide +kernel, rfl, by decide +kernel, by decide +kernel⟩
theorem sc__law_roll : FnScope (["cup", "many", "found", "deep"] : List Str) ["cup", "many"] (defScope (top 59)) := ⟨rfl, rfl, rfl, by decide +kernel, rfl, by decide +kernel, by decide +kernel⟩
theorem upd_upd {H : Hp} {a : Addr} {o o' : HO} : upd (upd H a o) a o' = upd H a o' := by
  funext b
  unfold upd
  split <;> rfl
theorem rollB_lt (b : Int) : 0 ≤ rollB b ∧ rollB b < 2147483543 := by
  unfold rollB
  rw [Int.fmod_eq_emod_of_nonneg _ (by decide)]
  exact ⟨Int.emod_nonneg _ (by decide), Int.emod_lt_of_pos _ (by decide)⟩
theorem ok__law_roll {fd : FuncData} (B : CupB mg) (F : Fun K "_law_roll" "_law_roll" (top 59) (fa 37) fd) : FnOk P w K mg base (L2N.CX P w) 1 (fa 37) fd ["cup", "many"] spRoll := by
  refine Fun_okN (k := 0) F sc__law_roll (fun vs H Q E h => h.1) fun cdv A outer s H vs Q E hr h => ?_
  have S := sc__law_roll
  refine ⟨_, pss_cons (ps_if (pt_cmpR op_gt (pe_ix ix_list (pv 0) pe_int (by exact fun _ _ => rfl)) pe_int (nomark _))
      (pss_cons (ps_asg (pe_op op_mod (pe_callTy call_int1 rfl B.n_int PyProof.Rows.boot_int (pa_cons (pe_ix ix_list (pv 0) pe_int (by exact fun _ _ => rfl)) pa_nil)) (pv 1)) (pg_name (i := 2) S.nd rfl (by first | exact Or.inl rfl | exact Or.inr rfl)))
        (pss_cons (ps_asg (pe_op op_fdiv (pe_ix ix_list (pv 0) pe_int (by exact fun _ _ => rfl)) (pv 1)) (pg_sub (pv 0) pe_int set_list))
          (pss_one (ps_ret (pv 2))))) pss_nil)
    (pss_cons (ps_asg (pe_op op_modN (pe_callTy call_int1 rfl B.n_int PyProof.Rows.boot_int (pa_cons (pe_op op_add (pe_op op_mul (pe_ix ix_list (pv 0) pe_int (by exact fun _ _ => rfl)) pe_int) pe_int) pa_nil)) pe_int) (pg_sub (pv 0) pe_int set_list))
    (pss_cons (ps_asg (pe_op op_modN (pe_callTy call_int1 rfl B.n_int PyProof.Rows.boot_int (pa_cons (pe_op op_mul (pe_ix ix_list (pv 0) pe_int (by exact fun _ _ => rfl)) (pe_op op_add (pe_ix ix_list (pv 0) pe_int (by exact fun _ _ => rfl)) pe_int)) pa_nil)) pe_int) (pg_name (i := 3) S.nd rfl (by first | exact Or.inl rfl | exact Or.inr rfl)))
    (pss_one (ps_ret (pe_op op_modN (pe_callTy call_int1 rfl B.n_int PyProof.Rows.boot_int (pa_cons (pe_op op_fdiv (pv 3) pe_int) pa_nil)) (pv 1)))))), ?_⟩
  obtain ⟨-, p, a, b, m, rfl, hp, m0, m1, q⟩ := h
  simp only [tSeq, tIfS, tTest, tOp, tVar, tC, tAsg, tCB, tCons, tNil, gSub, gName, tRet, tNext, rIxL, rSetL, rI, rI0]
  refine ⟨_, rfl, p, _, 0, _, rfl, rfl, .inl (.inl hp), rfl, _, _, rfl, rfl, _, rfl, ?_⟩
  unfold rollN at q
  by_cases h0 : 0 < a
  · rw [if_pos h0] at q
    rw [if_pos (decide_eq_true h0)]
    refine ⟨_, rfl, p, _, 0, _, rfl, rfl, .inl (.inl hp), rfl, .inl ⟨_, rfl, _, rfl, _, _, rfl, rfl, m0, _, rfl, p, _, 0, _, rfl, rfl, .inl (.inl hp), rfl, _, rfl, _, _, rfl, rfl, ⟨m0, m1⟩, _, rfl, p, _, 0, 0, rfl, rfl, hp, rfl, _, rfl, ?_⟩⟩
    rw [show a.fmod m = a % m from Int.fmod_eq_emod_of_nonneg _ (by omega)] at q
    exact q
  · rw [if_neg h0] at q
    rw [if_neg (by simpa using h0)]
    obtain ⟨l1, l2⟩ := rollB_lt b
    refine ⟨_, rfl, p, _, 1, _, rfl, rfl, .inl (.inl hp), rfl, _, _, rfl, rfl, .inr ⟨by decide, by decide⟩, _, _, rfl, rfl, .inl ⟨_, rfl, _, _, rfl, rfl, by decide, _, rfl, p, _, 1, 1, rfl, rfl, hp, rfl, ?_⟩⟩
    have hp2 : upd H p (.lst ([V.int a, V.int b].set 1 (V.int (rollB b)))) p = some (.lst [V.int a, V.int (rollB b)]) := upd_same
    refine ⟨_, rfl, p, _, 1, _, rfl, rfl, .inl (.inl hp2), rfl, _, rfl, p, _, 1, _, rfl, rfl, .inl (.inl hp2), rfl, _, _, rfl, rfl, _, _, rfl, rfl, .inl ⟨by omega, by omega⟩, .inl ⟨_, rfl, _, _, rfl, rfl, by decide, _, rfl, _, _, rfl, rfl, ⟨by decide, by decide⟩, .inl ⟨_, rfl, _, rfl, _, _, rfl, rfl, by omega, ?_⟩⟩⟩
    exact q
/-- what the two ints are is of no weight -/
theorem ok__law_cup {fd : FuncData} (B : CupB mg) (F : Fun K "_law_cup" "_law_cup" (top 58) (fa 36) fd) : FnOk P w K mg base (L2N.CX P w) 1 (fa 36) fd ["script"] (spCup K) := by
  refine Fun_okN (k := 0) F sc__law_cup (fun vs H Q E h => h.1) fun cdv A outer s H vs Q E hr h => ?_
  have S := sc__law_cup
  refine ⟨_, pss_cons (ps_asg (pe_callB call_abs rfl B.n_abs (by decide +kernel) (pa_cons (pe_ix ix_list (pe_op op_cat (pe_callTy call_list_of rfl B.n_list PyProof.Rows.boot_list (pa_cons (pv 0) pa_nil)) (pe_lst (pa_cons pe_int pa_nil))) pe_int (by exact fun _ _ => rfl)) pa_nil)) (pg_name (i := 1) S.nd rfl (by first | exact Or.inl rfl | exact Or.inr rfl)))
    (pss_one (ps_ret (pe_lst (pa_cons (pe_ifExp (pt_cmpR op_ge (pv 1) (pe_op op_pow pe_int pe_int) (nomark _)) (pe_op op_fdiv (pv 1) pe_int) pe_int)
      (pa_cons (pe_op op_add (pe_op op_mod (pe_callTy call_int1 rfl B.n_int PyProof.Rows.boot_int (pa_cons (pe_op op_add (pe_op op_mul (pv 1) pe_int) pe_int) pa_nil)) pe_int) pe_int) pa_nil))))), ?_⟩
  obtain ⟨-, a, ns, rfl, hs, hl, hi, q⟩ := h
  simp only [tSeq, tIfS, tTest, tOp, tVar, tC, tAsg, tCB, tCons, tNil, gSub, gName, tRet, tNext, rIxL, rSetL, rI, rI0, rCat, tLst, tIf]
  refine ⟨_, rfl, a, ns, rfl, .inl hs, fun l hl0 => ⟨by decide, fun l2 hl2 => ⟨l, l2, ns, [V.int 0], rfl, rfl, ?_, upd_same, ?_, fun l3 hl3 => ?_⟩⟩⟩
  · have n1 : l2 ≠ l := fun z => by rw [z, upd_same] at hl2; cases hl2
    rw [upd_ne n1.symm, upd_same]
  · show ns.length + 1 ≤ sizeLine
    rw [sizeLine_eq]
    omega
  · obtain ⟨c, hc⟩ : ∃ c, atI (ns ++ [V.int 0]) 0 = some (.int c) := by
      cases ns with
      | nil => exact ⟨0, rfl⟩
      | cons v r =>
        obtain ⟨c, e⟩ := hi v (List.mem_cons_self)
        exact ⟨c, by
          have : ixN ((v :: r) ++ [V.int 0]).length 0 = some 0 := by
            unfold ixN
            rw [if_pos (by decide), if_pos (by simp; omega)]; rfl
          unfold atI
          rw [this, e]; rfl⟩
    have k2 : ∀ b o, H b = some o → upd (upd (upd H l (.lst ns)) l2 (.lst [V.int 0])) l3 (.lst (ns ++ [V.int 0])) b = some o := fun b o e => by
      have d1 : ∀ {H1 : Hp} {l : Addr} {o1 : HO}, H1 l = none → H1 b = some o → upd H1 l o1 b = some o := fun {H1 l o1} h1 h2 => by
        rw [upd_ne (fun z => by rw [z, h1] at h2; cases h2)]; exact h2
      exact d1 hl3 (d1 hl2 (d1 hl0 e))
    refine ⟨l3, _, 0, _, rfl, rfl, .inl (.inl upd_same), hc, c, rfl, _, rfl, _, _, rfl, rfl, ⟨by decide, by decide, by decide⟩, _, _, rfl, rfl, _, rfl, ?_⟩
    generalize (if c < 0 then -c else c) = c1
    by_cases hc1 : decide ((10 : Int) ^ (18 : Int).toNat ≤ c1) = true
    · rw [if_pos hc1]
      refine ⟨_, rfl, _, _, rfl, rfl, ⟨by decide, by decide⟩, _, rfl, _, _, rfl, rfl, .inr ⟨by decide, by decide⟩, _, _, rfl, rfl, .inl ⟨_, rfl, _, _, rfl, rfl, by decide, _, _, rfl, rfl, by rw [sizeLine_eq]; exact (by decide : (2 : Nat) ≤ 2 ^ 24), fun p hp => q p _ _ _ ?_ upd_same fun b o e => ?_⟩⟩
      · exact Classical.byContradiction fun z => by
          cases e : H p with
          | none => exact z e
          | some o => rw [k2 p o e] at hp; cases hp
      · rw [upd_ne fun z => by rw [z] at e; rw [k2 p o e] at hp; cases hp]
        exact k2 b o e
    · rw [if_neg hc1]
      refine ⟨_, rfl, _, _, rfl, rfl, .inr ⟨by decide, by decide⟩, _, _, rfl, rfl, .inl ⟨_, rfl, _, _, rfl, rfl, by decide, _, _, rfl, rfl, by rw [sizeLine_eq]; exact (by decide : (2 : Nat) ≤ 2 ^ 24), fun p hp => q p _ _ _ ?_ upd_same fun b o e => ?_⟩⟩
      · exact Classical.byContradiction fun z => by
          cases e : H p with
          | none => exact z e
          | some o => rw [k2 p o e] at hp; cases hp
      · rw [upd_ne fun z => by rw [z] at e; rw [k2 p o e] at hp; cases hp]
        exact k2 b o e
end
end W71
end
section
set_option Elab.async false
set_option linter.all false
set_option maxRecDepth 100000
set_option maxHeartbeats 4000000
/-! El7: a call of _law_roll on the own list of a slot. -/
namespace W71
open PySem PySem.Spec PyProof.Rows L2 LamX Ev
def eRoll (ms : Ev (List R)) : Ev R := fun s => bd (ms s) fun rs s1 => match rs with
  | [.pk i, .fz (.int m)] => (match s1.env[i]? with
    | some (.ow (.lst [.int a, .int b])) => if 0 < m ∧ m < 1073741824 then some (.ok (.fz (.int (rollN a b m).1)) ⟨s1.env.set i (.ow (.lst [.int (rollN a b m).2.1, .int (rollN a b m).2.2])), s1.g⟩) else none
    | _ => none)
  | _ => none
section
variable {X : Cx} {fa ca : Nat → Addr} {E : XK} {ms : Ev (List R)} {e : Expr} {es : List Expr} {pos p : Pos}
theorem xRoll {fd : FuncData} (F : FnOk X.prog X.w X.K X.mg X.base (L2N.CX X.prog X.w) 1 (fa 37) fd ["cup", "many"] spRoll) (hm : X.mg "_law_roll" = some (.ref (fa 37))) (hk : PySem.W.keepIn X.K (.ref (fa 37)) = true) (hb : L2.Binds X.K fd ["cup", "many"] [])
    (hr : Room 1 X.A) (hx : Passes (L2N.CX X.prog X.w) X E) (ha : PA X (e :: es) (rdA X.K fa ca E ms)) (hg : Gl X "_law_roll" := by rfl) (hst : (e :: es).all notStar = true := by rfl) :
    PE X (.Call (.Name "_law_roll" p) (e :: es) [] pos) (rdE X.K fa ca E (eRoll ms)) := by
  have hst' := hst
  rw [List.all_cons, Bool.and_eq_true] at hst'
  refine PE_imp (pe_call F hr hg hm hk hb .nil hx ha (by decide) (star_of hst'.1) (noStars hst'.2)) fun σ H Q h => ?_
  obtain ⟨av, ga, s, rel, h⟩ := h
  refine ⟨av, ga, s, rel, aft_mono (aft_bd h) (fun rs s1 h1 fs vs ga1 H1 p1 => ?_) fun _ _ z => z⟩
  split at h1
  · rename_i i m
    split at h1
    · rename_i a b hi
      split at h1
      · rename_i hm01
        obtain ⟨rel1, rv, nw, st⟩ := p1
        cases rv with
        | pk hv rv =>
          cases rv with
          | fz hw rv =>
            cases rv
            cases hw
            rw [avU_nil] at rel1
            obtain ⟨q, q1, ⟨vs2, q2, q3⟩, q4, q5⟩ := rel1.ow i _ hi
            rw [hv] at q1
            cases q1
            cases q3 with
            | cons c1 q3 =>
              cases c1
              cases q3 with
              | cons c2 q3 =>
                cases c2
                cases q3
                refine ⟨rfl, q, a, b, m, rfl, q2, hm01.1, hm01.2, ?_⟩
                obtain ⟨w1, w2⟩ := rel1.write (c' := .lst [.int (rollN a b m).2.1, .int (rollN a b m).2.2]) hi hv (fun _ z => upd_ne z) ⟨_, upd_same, .cons (.int _) (.cons (.int _) .nil)⟩
                exact h1 [] _ _ _ ⟨by rw [avU_nil]; exact w1, .fz (.int _) .nil, (fun _ z => nomatch z), st.trans w2⟩
      · exact h1.elim
    · exact h1.elim
  · exact h1.elim
end
end W71
end
section
set_option Elab.async false
set_option linter.all false
set_option maxRecDepth 100000
set_option maxHeartbeats 4000000
/-! El8: the law's start: the cup is made; then plain. -/
namespace W71
open PySem PySem.Spec PyProof.Rows L2 LamX Ev
def spLaw (K : PySem.W.Frag) (fa : Nat → Addr) : Sp := fun vs H Q _ => vs.length = 1 ∧ ∃ a ns, vs = [.ref a] ∧ SqL K H a ns ∧ ns.length ≤ 63 ∧ (∀ v ∈ ns, ∃ i, v = V.int i) ∧ TB fa H ∧ ∀ H', Q (.bl true) H'
def law0 (n : Nat) (x y : Int) : S := ⟨.no :: .ow (.lst [.int x, .int y]) :: List.replicate n .no, []⟩
theorem law_start {K : PySem.W.Frag} {fa ca : Nat → Addr} {N : List Str} {n : Nat} {b : Ev Ct} {vs : List V} {H : Hp} {Q : VK} {E : XK} (hN : N.length = n + 2) (ev : ∀ x y : Int, ∃ s', b (law0 n x y) = some (.ok (.rt (.bl true)) s')) (h : spLaw K fa vs H Q E) :
    tSeq (tAsg (tCall (spCup K) [] E (tCons (tVar 0) tNil)) (gName 1)) (rdS K fa ca E b) { nx := fun _ H' => Q .non H', rt := Q } (L2.start N vs) H := by
  obtain ⟨-, a, ns, rfl, hs, hl, hi, tb, q⟩ := h
  refine ⟨.ref a, ?_, rfl, a, ns, rfl, hs, hl, hi, fun p x y H' hp hp' ext => ?_⟩
  · unfold L2.start; rfl
  obtain ⟨s', e⟩ := ev x y
  show rdS K fa ca E b { nx := fun _ H' => Q .non H', rt := Q } ((L2.start N [.ref a]).set 1 (some (.ref p))) H'
  have st : (L2.start N [V.ref a]).set 1 (some (V.ref p)) = some (.ref a) :: some (.ref p) :: List.replicate n none := by
    unfold L2.start
    rw [hN]
    show (some (V.ref a) :: List.replicate (n + 1) none).set 1 _ = _
    rw [List.replicate_succ]; rfl
  rw [st]
  have ow1 : ∀ (i : Nat) (d : D), (law0 n x y).env[i]? = some (.ow d) → i = 1 ∧ d = .lst [.int x, .int y] := fun i d z => by
    unfold law0 at z
    match i, z with
    | 0, z => cases z
    | 1, z => cases z; exact ⟨rfl, rfl⟩
    | i + 2, z => cases (List.mem_replicate.mp (List.mem_of_getElem? z)).2
  have fz1 : ∀ (i : Nat) (d : D), (law0 n x y).env[i]? = some (.fz d) → False := fun i d z => by
    unfold law0 at z
    match i, z with
    | 0, z => cases z
    | 1, z => cases z
    | i + 2, z => cases (List.mem_replicate.mp (List.mem_of_getElem? z)).2
  refine ⟨fun _ => False, fun _ => none, law0 n x y, ⟨by unfold law0; simp, fun i d z => (fz1 i d z).elim, fun i d z => ?_, fun i j d e' p' z1 z2 _ _ => (ow1 i d z1).1.trans (ow1 j e' z2).1.symm, ⟨fun k ds z => (nomatch z), fun _ _ _ z => (nomatch z), fun _ _ z => (nomatch z), tb.ext ext⟩, fun _ z => z.elim, fun _ _ z => z.elim⟩, ?_⟩
  · obtain ⟨rfl, rfl⟩ := ow1 i d z
    exact ⟨p, rfl, ⟨_, hp', .cons (.int x) (.cons (.int y) .nil)⟩, fun z => z, fun _ z => nomatch z⟩
  · rw [e]
    intro v ga' H2 g r st2
    cases r
    exact q H2
end W71
end
section
set_option Elab.async false
set_option linter.all false
set_option maxRecDepth 100000
set_option maxHeartbeats 4000000
/-! El8b: slots that are asked for no more. -/
namespace Ev
open PySem PySem.Spec PyProof.Rows L2
section
variable {K : PySem.W.Frag} {fa ca : Nat → Addr} {av : Addr → Prop} {ga : Nat → Option Addr} {σ : L2.St} {H : Hp} {s : S}
theorem get_no {e : List Slot} {i j : Nat} {x : Slot} (h : (e.set i .no)[j]? = some x) (hx : x ≠ .no) : e[j]? = some x := by
  by_cases hi : i < e.length
  · rcases get_set h hi with ⟨_, z⟩ | ⟨_, z⟩
    · exact absurd z hx
    · exact z
  · rwa [List.set_eq_of_length_le (by omega)] at h
theorem MuA_drop {i : Nat} {a : Addr} (h : MuA ga σ (s.env.set i .no) a) : MuA ga σ s.env a :=
  h.imp id fun ⟨j, d, h1, h2⟩ => ⟨j, d, get_no h1 (fun z => nomatch z), h2⟩
theorem Rel.drop (r : Rel K fa av ga σ H s) (i : Nat) : Rel K fa av ga σ H ⟨s.env.set i .no, s.g⟩ := by
  have hA : ∀ a, AvA av ga σ (s.env.set i .no) a → AvA av ga σ s.env a := fun a z => z.elim .inl fun y => .inr (MuA_drop y)
  refine ⟨by simpa using r.len, fun j e h => ?_, fun j e h => ?_, fun j k x y q h1 h2 h3 h4 => r.inj j k x y q (get_no h1 (fun z => nomatch z)) (get_no h2 (fun z => nomatch z)) h3 h4, r.gl.sub hA, r.dom, r.sep⟩
  · obtain ⟨v, h1, h2⟩ := r.fz j e (get_no h (fun z => nomatch z))
    exact ⟨v, h1, Rep.keep (Kp.sub hA) h2⟩
  · obtain ⟨q, q1, q2, q3, q4⟩ := r.ow j e (get_no h (fun z => nomatch z))
    exact ⟨q, q1, q2.keep (Kp.sub hA) rfl, q3, q4⟩
theorem Rel.drops (r : Rel K fa av ga σ H s) : ∀ ws : List Nat, Rel K fa av ga σ H (wipeS ws s) ∧ ∀ a, MuA ga σ (wipeS ws s).env a → MuA ga σ s.env a
  | [] => ⟨r, fun _ z => z⟩
  | w :: ws => by
    obtain ⟨h1, h2⟩ := Rel.drops r ws
    exact ⟨h1.drop w, fun a z => h2 a (MuA_drop (s := wipeS ws s) z)⟩
end
def sWipe (ws : List Nat) (m : Ev Ct) : Ev Ct := fun s => bd (m s) fun c s1 => match c with
  | .nx => some (.ok .nx (wipeS ws s1))
  | .rt d => some (.ok (.rt d) s1)
  | .bk => some (.ok .bk s1)
  | .ct => some (.ok .ct s1)
section
variable {X : Cx} {fa ca : Nat → Addr} {E : XK} {m : Ev Ct} {st : Stmt} {ws : List Nat}
theorem xWipe (h : PS X st (rdS X.K fa ca E m)) : PS X st (rdS X.K fa ca E (sWipe ws m)) := PS_imp h fun De σ H h => by
  obtain ⟨av, ga, s, rel, h⟩ := h
  refine ⟨av, ga, s, rel, aft_mono (aft_bd h) (fun c s1 h1 => ?_) fun _ _ z => z⟩
  cases c with
  | nx => exact fun σ' ga' H' r st => h1 σ' ga' H' (r.drops ws).1 ⟨st.st, st.dm, fun a z => st.mm a ((r.drops ws).2 a z), st.gr⟩
  | rt d => exact h1
  | bk => exact h1
  | ct => exact h1
end
end Ev
end
section
set_option Elab.async false
set_option linter.all false
set_option maxRecDepth 100000
set_option maxHeartbeats 4000000
namespace W71
open PySem PySem.Spec PyProof.Rows L2 Ev LamX
/-- what the names of the module hold -/
structure Blt3 (K : PySem.W.Frag) (mg : Str → Option Value) (fa ca : Nat → Addr) : Prop where
  n_len : mg "len" = none
  n_range : mg "range" = none
  g_torus_mark : mg "torus_mark" = some (.ref (fa 28))
  g_torus_picture : mg "torus_picture" = some (.ref (fa 25))
  g_torus_pieces : mg "torus_pieces" = some (.ref (fa 26))
  g_torus_round : mg "torus_round" = some (.ref (fa 29))
  g_torus_sum : mg "torus_sum" = some (.ref (fa 27))
def fs_law : Nat → Option Fn := fun k => if k = 25 then some f_torus_picture else if k = 26 then some f_torus_pieces else if k = 27 then some f_torus_sum else if k = 28 then some f_torus_mark else if k = 29 then some f_torus_round else none
def b_turn : Ev Ct := (sSeq (sAsg (eOp2 dAdd (eVal (.int 2)) (eRoll (aCons (eVar 1) (aCons (eVal (.int 7)) aNil)))) (stR 3))
  (sIf (tNotM (tTru (eCall 2 f__law_right (aCons (eVar 3) (aCons (eOp2 dAdd (eVal (.int 1)) (eRoll (aCons (eVar 1) (aCons (eOp2 dFdiv (eVal (.int 40)) (eOp2 dSub (eVar 3) (eVal (.int 1)))) aNil)))) aNil))))) (sRet (eVal (.bl false))) sNil))
def b_law1 : Ev Ct := (sWipe [1, 2, 3] (sFor (iRng1 (aCons (eVal (.int 5)) aNil)) (stD 2) b_turn))
def b_law2 : Ev Ct := (sSeq (sAsg (eLst (aCons (eCall 2 f_torus_picture (aCons (eVal (.int 2)) (aCons (eVal (.int 3)) aNil))) (aCons (eCall 2 f_torus_pieces (aCons (eVal (.int 2)) (aCons (eVal (.int 4)) aNil))) (aCons (eCall 2 f_torus_sum (aCons (eVal (.int 2)) (aCons (eVal (.int 3)) aNil))) (aCons (eCall 2 f_torus_sum (aCons (eVal (.int 3)) (aCons (eVal (.int 4)) aNil))) (aCons (eCall 2 f_torus_mark (aCons (eVal (.int 2)) (aCons (eVal (.int 7)) aNil))) (aCons (eCall 2 f_torus_mark (aCons (eVal (.int 3)) (aCons (eVal (.int 5)) aNil))) aNil))))))) (tgD (stD 4)))
  (sSeq (sAsg (eOp2 dAdd (eVar 4) (eLst (aCons (eCall 2 f_torus_round (aCons (eVal (.int 2)) (aCons (eVal (.int 4)) aNil))) (aCons (eCall 2 f_torus_round (aCons (eVal (.int 3)) (aCons (eVal (.int 3)) aNil))) (aCons (eCall 2 f_torus_sum (aCons (eVal (.int 2)) (aCons (eVal (.int 1)) aNil))) (aCons (eCall 2 f_torus_pieces (aCons (eVal (.int 6)) (aCons (eVal (.int 8)) aNil))) aNil)))))) (tgD (stD 4)))
  (sSeq (sAsg (eLst (aCons (eTup (aCons (eTup (aCons (eTup (aCons (eVal (.int 5)) (aCons (eVal (.int 1)) (aCons (eVal (.int 0)) (aCons (eVal (.int 4)) aNil))))) (aCons (eTup (aCons (eVal (.int 1)) (aCons (eVal (.int 3)) (aCons (eVal (.int 2)) (aCons (eVal (.int 0)) aNil))))) (aCons (eTup (aCons (eVal (.int 3)) (aCons (eVal (.int 5)) (aCons (eVal (.int 4)) (aCons (eVal (.int 2)) aNil))))) aNil)))) (aCons (eVal (.int 0)) aNil))) (aCons (eVal (.int 2)) (aCons (eTup (aCons (eTup (aCons (eVal (.int 0)) (aCons (eVal (.int 1)) aNil))) (aCons (eTup (aCons (eVal (.int 1)) (aCons (eOp1 dNeg (eVal (.int 1))) aNil))) (aCons (eTup (aCons (eVal (.int 2)) (aCons (eVal (.int 1)) aNil))) aNil)))) aNil)))) (tgD (stD 5)))
  (sSeq (sAsg (eOp2 dAdd (eVar 5) (eLst (aCons (eTup (aCons (eTup (aCons (eVal (.int 0)) (aCons (eVal (.int 1)) aNil))) (aCons (eTup (aCons (eVal (.int 1)) (aCons (eOp1 dNeg (eVal (.int 1))) aNil))) (aCons (eTup (aCons (eVal (.int 3)) (aCons (eVal (.int 1)) aNil))) (aCons (eTup (aCons (eVal (.int 5)) (aCons (eOp1 dNeg (eVal (.int 1))) aNil))) (aCons (eTup (aCons (eVal (.int 6)) (aCons (eVal (.int 1)) aNil))) aNil)))))) (aCons (eVal (.int 7)) (aCons (eVal (.int 1)) (aCons (eVal (.int 2)) (aCons (eVal (.int 1)) (aCons (eTup (aCons (eTup (aCons (eVal (.int 0)) (aCons (eVal (.int 1)) aNil))) aNil)) (aCons (eVal (.int 2)) aNil))))))))) (tgD (stD 5)))
  (sSeq (sIf (tNotM (tTru (eCall 2 (f__law_like 6) (aCons (eVar 4) (aCons (eVar 5) aNil))))) (sRet (eVal (.bl false))) sNil)
  (sSeq (sFor (iSeq (eTup (aCons (eTup (aCons (eVal (.int 2)) (aCons (eVal (.int 1)) aNil))) (aCons (eTup (aCons (eVal (.int 2)) (aCons (eVal (.int 2)) aNil))) (aCons (eTup (aCons (eVal (.int 2)) (aCons (eVal (.int 40)) aNil))) (aCons (eTup (aCons (eVal (.int 2)) (aCons (eVal (.int 39)) aNil))) (aCons (eTup (aCons (eVal (.int 3)) (aCons (eVal (.int 20)) aNil))) (aCons (eTup (aCons (eVal (.int 3)) (aCons (eVal (.int 19)) aNil))) (aCons (eTup (aCons (eVal (.int 4)) (aCons (eVal (.int 6)) aNil))) (aCons (eTup (aCons (eVal (.int 5)) (aCons (eVal (.int 7)) aNil))) (aCons (eTup (aCons (eVal (.int 6)) (aCons (eVal (.int 8)) aNil))) (aCons (eTup (aCons (eVal (.int 7)) (aCons (eVal (.int 6)) aNil))) (aCons (eTup (aCons (eVal (.int 8)) (aCons (eVal (.int 5)) aNil))) (aCons (eTup (aCons (eVal (.int 8)) (aCons (eVal (.int 1)) aNil))) (aCons (eTup (aCons (eVal (.int 4)) (aCons (eVal (.int 4)) aNil))) aNil))))))))))))))) (tgT [(stD 3), (stD 6)]) (sIf (tNotM (tTru (eCall 2 f__law_right (aCons (eVar 3) (aCons (eVar 6) aNil))))) (sRet (eVal (.bl false))) sNil))
  (sSeq (sFor (iSeq (eTup (aCons (eTup (aCons (eVal (.int 2)) (aCons (eVal (.int 3)) aNil))) (aCons (eTup (aCons (eVal (.int 2)) (aCons (eVal (.int 7)) aNil))) (aCons (eTup (aCons (eVal (.int 3)) (aCons (eVal (.int 4)) aNil))) (aCons (eTup (aCons (eVal (.int 3)) (aCons (eVal (.int 5)) aNil))) aNil)))))) (tgT [(stD 3), (stD 6)]) (sSeq (sAsg (eCall 2 f_torus_picture (aCons (eVar 3) (aCons (eVar 6) aNil))) (stR 7))
  (sIf (tBool (eOp2 dLt (eOp2 dMul (eVal (.int 2)) (eOpL dLenA (aCons (eCall 2 f_changes_for (aCons (eVar 7) (aCons (eCall 1 f_plain_start (aCons (eVar 7) aNil)) aNil))) aNil))) (eOp2 dMul (eOp2 dSub (eVar 3) (eVal (.int 1))) (eOp2 dSub (eVar 6) (eVal (.int 1)))))) (sRet (eVal (.bl false))) sNil)))
  (sSeq (sAsg (eLst aNil) (tgD (stD 8)))
  (sSeq (sFor (iSeq (eTup (aCons (eVal (.fn 25)) (aCons (eVal (.fn 26)) (aCons (eVal (.fn 27)) (aCons (eVal (.fn 28)) (aCons (eVal (.fn 29)) aNil))))))) (stD 9) (sSeq (sAsg (eOp2 dAdd (eVar 8) (eComp [10] (iSeq (eTup (aCons (eVal .non) (aCons (eVal (.int 1)) (aCons (eVal (.int 9)) (aCons (eVal (.bl true)) (aCons (eVal (.str (PySem.Str.ofString "2"))) aNil))))))) (stD 10) tYesM (eErr (eCallV 9 fs_law 2 (aCons (eVar 10) (aCons (eVal .non) aNil)))))) (tgD (stD 8)))
  (sSeq (sAsg (eOp2 dAdd (eVar 8) (eComp [10] (iSeq (eTup (aCons (eVal .non) (aCons (eVal (.int 0)) (aCons (eVal (.int 41)) (aCons (eVal (.bl true)) aNil)))))) (stD 10) tYesM (eErr (eCallV 9 fs_law 2 (aCons (eVal (.int 2)) (aCons (eVar 10) aNil)))))) (tgD (stD 8)))
  (sAsg (eOp2 dAdd (eVar 8) (eComp [11] (iSeq (eTup (aCons (eTup (aCons (eVal (.int 3)) (aCons (eVal (.int 21)) aNil))) (aCons (eTup (aCons (eVal (.int 8)) (aCons (eVal (.int 6)) aNil))) (aCons (eTup (aCons (eVal (.int 4)) (aCons (eVal (.int 14)) aNil))) aNil))))) (stD 11) tYesM (eErr (eCallV 9 fs_law 2 (aCons (eOp2 dSub_ (eVar 11) (eVal (.int 0))) (aCons (eOp2 dSub_ (eVar 11) (eVal (.int 1))) aNil)))))) (tgD (stD 8))))))
  (sRet (eOp2 dEq (eVar 8) (eOp2 dMul (eLst (aCons (eVal (.str (PySem.Str.ofString "number error"))) aNil)) (eVal (.int 60))))))))))))))
def b_law : Ev Ct := (sSeq b_law1 b_law2)
section
variable {P : Program} {w : World} {K : PySem.W.Frag} {mg : Str → Option Value} {base : Heap} {fa ca : Nat → Addr}
theorem sc_law : FnScope (["script", "cup", "turn", "p", "told", "due", "q", "picture", "words", "call", "odd", "own"] : List Str) ["script"] (defScope (top 71)) := ⟨rfl, rfl, rfl, by decide +kernel, rfl, by decide +kernel, by decide +kernel⟩
theorem ok_law {fd fd_cup fd_roll : FuncData} {c Pt : Addr} (B : Blt3 K mg fa ca) (EF : ErrF K mg fa ca) (F : Fun K "law" "law" (top 71) (fa 49) fd) (hc : CodeIs K (fa 49) c) (TBt : TabB base mg c Pt) (hPt : fa 900001 = Pt) (hP0 : Pt ≠ 0) (hij : fa 900000 ≠ fa 900001)
    (F_cup : FnOk P w K mg base (L2N.CX P w) 1 (fa 36) fd_cup ["script"] (spCup K)) (hm_cup : mg "_law_cup" = some (.ref (fa 36))) (hk_cup : PySem.W.keepIn K (.ref (fa 36)) = true) (hb_cup : L2.Binds K fd_cup ["script"] [])
    (F_roll : FnOk P w K mg base (L2N.CX P w) 1 (fa 37) fd_roll ["cup", "many"] spRoll) (hm_roll : mg "_law_roll" = some (.ref (fa 37))) (hk_roll : PySem.W.keepIn K (.ref (fa 37)) = true) (hb_roll : L2.Binds K fd_roll ["cup", "many"] [])
    (K__law_right : Kn P w K mg base fa ca 8 48 "_law_right" ["p", "q"] f__law_right) (K_torus_mark : Kn P w K mg base fa ca 5 28 "torus_mark" ["p", "q"] f_torus_mark) (K_torus_sum : Kn P w K mg base fa ca 5 27 "torus_sum" ["p", "q"] f_torus_sum) (K_torus_pieces : Kn P w K mg base fa ca 4 26 "torus_pieces" ["p", "q"] f_torus_pieces) (K_torus_picture : Kn P w K mg base fa ca 4 25 "torus_picture" ["p", "q"] f_torus_picture) (K_torus_round : Kn P w K mg base fa ca 4 29 "torus_round" ["p", "q"] f_torus_round) (K__law_like : Kn P w K mg base fa ca 7 39 "_law_like" ["one", "other"] (f__law_like 6)) (K_changes_for : Kn P w K mg base fa ca 6 34 "changes_for" ["picture", "start"] f_changes_for) (K_plain_start : Kn P w K mg base fa ca 5 35 "plain_start" ["picture"] f_plain_start)
    (ev : ∀ x y : Int, ∃ s', b_law (law0 10 x y) = some (.ok (.rt (.bl true)) s')) : FnOk P w K mg base (L2N.CX P w) 9 (fa 49) fd ["script"] (spLaw K fa) := by
  obtain ⟨_, _, _, _, _, _, cdv, _, _, rfl, lk, hcd⟩ := F.ex
  have e := code_of hc lk
  subst e
  refine fn_of (k := 8) (N := ["script", "cup", "turn", "p", "told", "due", "q", "picture", "words", "call", "odd", "own"]) lk hcd sc_law (fun vs H Q E h => h.1) fun A outer s H vs Q E hr h => ?_
  have S := sc_law
  have hu := hr.units
  have tk : L2N.Takes (cxOf (L2N.CX P w) P w K mg base ["script", "cup", "turn", "p", "told", "due", "q", "picture", "words", "call", "odd", "own"] "law" (defScope (top 71)) (fa 49) (.ref c) A outer s H E) (fun cls d _ H => E cls d H) := L2N.takes_of rfl rfl rfl rfl
  have hx : Passes (L2N.CX P w) (cxOf (L2N.CX P w) P w K mg base ["script", "cup", "turn", "p", "told", "due", "q", "picture", "words", "call", "odd", "own"] "law" (defScope (top 71)) (fa 49) (.ref c) A outer s H E) E := L2N.passes_call tk fun _ _ _ _ h => h
  have hp : PassesOwn (model P w) (cxOf (L2N.CX P w) P w K mg base ["script", "cup", "turn", "p", "told", "due", "q", "picture", "words", "call", "odd", "own"] "law" (defScope (top 71)) (fa 49) (.ref c) A outer s H E).A (cxOf (L2N.CX P w) P w K mg base ["script", "cup", "turn", "p", "told", "due", "q", "picture", "words", "call", "odd", "own"] "law" (defScope (top 71)) (fa 49) (.ref c) A outer s H E).env (cxOf (L2N.CX P w) P w K mg base ["script", "cup", "turn", "p", "told", "due", "q", "picture", "words", "call", "odd", "own"] "law" (defScope (top 71)) (fa 49) (.ref c) A outer s H E).xe := passes_of rfl
  have LH : LamH (cxOf (L2N.CX P w) P w K mg base ["script", "cup", "turn", "p", "told", "due", "q", "picture", "words", "call", "odd", "own"] "law" (defScope (top 71)) (fa 49) (.ref c) A outer s H E) fa := lamH0 (k0 := 900001) TBt rfl (List.mem_cons_of_mem _ List.mem_cons_self) hPt hP0 rfl hij
  have F_call : ∀ k f, fs_law k = some f → ∃ (n : Str) (ps : List Str), Kn P w K mg base fa ca 5 k n ps f ∧ ps.length = 2 := by
    intro k f h
    unfold fs_law at h
    split at h
    · rename_i e; subst e; cases h; exact ⟨_, _, K_torus_picture.up (by decide), rfl⟩
    split at h
    · rename_i e; subst e; cases h; exact ⟨_, _, K_torus_pieces.up (by decide), rfl⟩
    split at h
    · rename_i e; subst e; cases h; exact ⟨_, _, K_torus_sum.up (by decide), rfl⟩
    split at h
    · rename_i e; subst e; cases h; exact ⟨_, _, K_torus_mark.up (by decide), rfl⟩
    split at h
    · rename_i e; subst e; cases h; exact ⟨_, _, K_torus_round.up (by decide), rfl⟩
    cases h
  have R : PSs (cxOf (L2N.CX P w) P w K mg base ["script", "cup", "turn", "p", "told", "due", "q", "picture", "words", "call", "odd", "own"] "law" (defScope (top 71)) (fa 49) (.ref c) A outer s H E) (defBody (top 71)).tail (rdS K fa ca E b_law) := (xCons (xWipe (xFor hp rfl (xiRng1 (by rfl) B.n_range (xaCons xInt xaNil)) (xdName (pg_name (i := 2) S.nd rfl (by first | exact Or.inl rfl | exact Or.inr rfl))) (xCons (xAsg (xBin op_add' ok_add xInt (xRoll F_roll hm_roll hk_roll hb_roll (hr.mono (by decide)) hx (xaCons (xVar 1) (xaCons xInt xaNil)))) (xgName (pg_name (i := 3) S.nd rfl (by first | exact Or.inl rfl | exact Or.inr rfl))))
  (xLast (xSIf (xtNot (xtTru (xCallK (ps := [("p" : Str), ("q" : Str)]) K__law_right (hr.mono (by decide)) hx (xaCons (xVar 3) (xaCons (xBin op_add' ok_add xInt (xRoll F_roll hm_roll hk_roll hb_roll (hr.mono (by decide)) hx (xaCons (xVar 1) (xaCons (xBin op_fdivN ok_fdiv xInt (xBin op_sub ok_sub (xVar 3) xInt)) xaNil)))) xaNil))))) (xLast (xRet xBl)) xNil)))))
  (xCons (xAsg (xLst (xaCons (xCallK (ps := [("p" : Str), ("q" : Str)]) K_torus_picture (hr.mono (by decide)) hx (xaCons xInt (xaCons xInt xaNil))) (xaCons (xCallK (ps := [("p" : Str), ("q" : Str)]) K_torus_pieces (hr.mono (by decide)) hx (xaCons xInt (xaCons xInt xaNil))) (xaCons (xCallK (ps := [("p" : Str), ("q" : Str)]) K_torus_sum (hr.mono (by decide)) hx (xaCons xInt (xaCons xInt xaNil))) (xaCons (xCallK (ps := [("p" : Str), ("q" : Str)]) K_torus_sum (hr.mono (by decide)) hx (xaCons xInt (xaCons xInt xaNil))) (xaCons (xCallK (ps := [("p" : Str), ("q" : Str)]) K_torus_mark (hr.mono (by decide)) hx (xaCons xInt (xaCons xInt xaNil))) (xaCons (xCallK (ps := [("p" : Str), ("q" : Str)]) K_torus_mark (hr.mono (by decide)) hx (xaCons xInt (xaCons xInt xaNil))) xaNil))))))) (xgD (xdName (pg_name (i := 4) S.nd rfl (by first | exact Or.inl rfl | exact Or.inr rfl)))))
  (xCons (xAsg (xBin op_add' ok_add (xVar 4) (xLst (xaCons (xCallK (ps := [("p" : Str), ("q" : Str)]) K_torus_round (hr.mono (by decide)) hx (xaCons xInt (xaCons xInt xaNil))) (xaCons (xCallK (ps := [("p" : Str), ("q" : Str)]) K_torus_round (hr.mono (by decide)) hx (xaCons xInt (xaCons xInt xaNil))) (xaCons (xCallK (ps := [("p" : Str), ("q" : Str)]) K_torus_sum (hr.mono (by decide)) hx (xaCons xInt (xaCons xInt xaNil))) (xaCons (xCallK (ps := [("p" : Str), ("q" : Str)]) K_torus_pieces (hr.mono (by decide)) hx (xaCons xInt (xaCons xInt xaNil))) xaNil)))))) (xgD (xdName (pg_name (i := 4) S.nd rfl (by first | exact Or.inl rfl | exact Or.inr rfl)))))
  (xCons (xAsg (xLst (xaCons (xTup (xaCons (xTup (xaCons (xTup (xaCons xInt (xaCons xInt (xaCons xInt (xaCons xInt xaNil))))) (xaCons (xTup (xaCons xInt (xaCons xInt (xaCons xInt (xaCons xInt xaNil))))) (xaCons (xTup (xaCons xInt (xaCons xInt (xaCons xInt (xaCons xInt xaNil))))) xaNil)))) (xaCons xInt xaNil))) (xaCons xInt (xaCons (xTup (xaCons (xTup (xaCons xInt (xaCons xInt xaNil))) (xaCons (xTup (xaCons xInt (xaCons (xUn un_neg ok_neg xInt) xaNil))) (xaCons (xTup (xaCons xInt (xaCons xInt xaNil))) xaNil)))) xaNil)))) (xgD (xdName (pg_name (i := 5) S.nd rfl (by first | exact Or.inl rfl | exact Or.inr rfl)))))
  (xCons (xAsg (xBin op_add' ok_add (xVar 5) (xLst (xaCons (xTup (xaCons (xTup (xaCons xInt (xaCons xInt xaNil))) (xaCons (xTup (xaCons xInt (xaCons (xUn un_neg ok_neg xInt) xaNil))) (xaCons (xTup (xaCons xInt (xaCons xInt xaNil))) (xaCons (xTup (xaCons xInt (xaCons (xUn un_neg ok_neg xInt) xaNil))) (xaCons (xTup (xaCons xInt (xaCons xInt xaNil))) xaNil)))))) (xaCons xInt (xaCons xInt (xaCons xInt (xaCons xInt (xaCons (xTup (xaCons (xTup (xaCons xInt (xaCons xInt xaNil))) xaNil)) (xaCons xInt xaNil))))))))) (xgD (xdName (pg_name (i := 5) S.nd rfl (by first | exact Or.inl rfl | exact Or.inr rfl)))))
  (xCons (xSIf (xtNot (xtTru (xCallK (ps := [("one" : Str), ("other" : Str)]) K__law_like (hr.mono (by decide)) hx (xaCons (xVar 4) (xaCons (xVar 5) xaNil))))) (xLast (xRet xBl)) xNil)
  (xCons (xFor hp rfl (xiSeq (xTup (xaCons (xTup (xaCons xInt (xaCons xInt xaNil))) (xaCons (xTup (xaCons xInt (xaCons xInt xaNil))) (xaCons (xTup (xaCons xInt (xaCons xInt xaNil))) (xaCons (xTup (xaCons xInt (xaCons xInt xaNil))) (xaCons (xTup (xaCons xInt (xaCons xInt xaNil))) (xaCons (xTup (xaCons xInt (xaCons xInt xaNil))) (xaCons (xTup (xaCons xInt (xaCons xInt xaNil))) (xaCons (xTup (xaCons xInt (xaCons xInt xaNil))) (xaCons (xTup (xaCons xInt (xaCons xInt xaNil))) (xaCons (xTup (xaCons xInt (xaCons xInt xaNil))) (xaCons (xTup (xaCons xInt (xaCons xInt xaNil))) (xaCons (xTup (xaCons xInt (xaCons xInt xaNil))) (xaCons (xTup (xaCons xInt (xaCons xInt xaNil))) xaNil))))))))))))))) (xdTup rfl (xsConsG (xdName (pg_name (i := 3) S.nd rfl (by first | exact Or.inl rfl | exact Or.inr rfl))) (xsConsG (xdName (pg_name (i := 6) S.nd rfl (by first | exact Or.inl rfl | exact Or.inr rfl))) xsNilG))) (xLast (xSIf (xtNot (xtTru (xCallK (ps := [("p" : Str), ("q" : Str)]) K__law_right (hr.mono (by decide)) hx (xaCons (xVar 3) (xaCons (xVar 6) xaNil))))) (xLast (xRet xBl)) xNil)))
  (xCons (xFor hp rfl (xiSeq (xTup (xaCons (xTup (xaCons xInt (xaCons xInt xaNil))) (xaCons (xTup (xaCons xInt (xaCons xInt xaNil))) (xaCons (xTup (xaCons xInt (xaCons xInt xaNil))) (xaCons (xTup (xaCons xInt (xaCons xInt xaNil))) xaNil)))))) (xdTup rfl (xsConsG (xdName (pg_name (i := 3) S.nd rfl (by first | exact Or.inl rfl | exact Or.inr rfl))) (xsConsG (xdName (pg_name (i := 6) S.nd rfl (by first | exact Or.inl rfl | exact Or.inr rfl))) xsNilG))) (xCons (xAsg (xCallK (ps := [("p" : Str), ("q" : Str)]) K_torus_picture (hr.mono (by decide)) hx (xaCons (xVar 3) (xaCons (xVar 6) xaNil))) (xgName (pg_name (i := 7) S.nd rfl (by first | exact Or.inl rfl | exact Or.inr rfl))))
  (xLast (xSIf (xtCmp op_lt ok_lt (xBin op_mul' ok_mul xInt (xB call_lenA ok_lenA (by rfl) B.n_len PySem.boot_len (xaCons (xCallK (ps := [("picture" : Str), ("start" : Str)]) K_changes_for (hr.mono (by decide)) hx (xaCons (xVar 7) (xaCons (xCallK (ps := [("picture" : Str)]) K_plain_start (hr.mono (by decide)) hx (xaCons (xVar 7) xaNil)) xaNil))) xaNil))) (xBin op_mul' ok_mul (xBin op_sub ok_sub (xVar 3) xInt) (xBin op_sub ok_sub (xVar 6) xInt)) rfl) (xLast (xRet xBl)) xNil))))
  (xCons (xAsg (xLst xaNil) (xgD (xdName (pg_name (i := 8) S.nd rfl (by first | exact Or.inl rfl | exact Or.inr rfl)))))
  (xCons (xFor hp rfl (xiSeq (xTup (xaCons (xGfn (n := ("torus_picture" : Str)) (by rfl) B.g_torus_picture) (xaCons (xGfn (n := ("torus_pieces" : Str)) (by rfl) B.g_torus_pieces) (xaCons (xGfn (n := ("torus_sum" : Str)) (by rfl) B.g_torus_sum) (xaCons (xGfn (n := ("torus_mark" : Str)) (by rfl) B.g_torus_mark) (xaCons (xGfn (n := ("torus_round" : Str)) (by rfl) B.g_torus_round) xaNil))))))) (xdName (pg_name (i := 9) S.nd rfl (by first | exact Or.inl rfl | exact Or.inr rfl))) (xCons (xAsg (xBin op_add' ok_add (xVar 8) (xComp (own := [(("odd" : Str), 10)]) rfl S.nd (xiSeq (xTup (xaCons xNon (xaCons xInt (xaCons xInt (xaCons xBl (xaCons xStr xaNil))))))) (blkOk_by (N := [("script" : Str), ("cup" : Str), ("turn" : Str), ("p" : Str), ("told" : Str), ("due" : Str), ("q" : Str), ("picture" : Str), ("words" : Str), ("call" : Str), ("odd" : Str), ("own" : Str)]) (sc := defScope (top 71)) (by decide +kernel)) (by decide) (fun _ _ _ _ _ => (xcName (pg_name (i := 10) S.nd rfl (by first | exact Or.inl rfl | exact Or.inr rfl)) (by decide))) (fun _ _ _ _ _ => xpNil) (fun _ _ _ _ _ => (xErrL (k := 5) EF LH.blk (hr.mono (by decide)) (hbody := fun _ _ _ _ _ _ _ hr2 => (xCallV (i := 9) F_call (hr2.mono (by decide)) lam_passes (xaCons (xVar 10) (xaCons xNon xaNil)))))))) (xgD (xdName (pg_name (i := 8) S.nd rfl (by first | exact Or.inl rfl | exact Or.inr rfl)))))
  (xCons (xAsg (xBin op_add' ok_add (xVar 8) (xComp (own := [(("odd" : Str), 10)]) rfl S.nd (xiSeq (xTup (xaCons xNon (xaCons xInt (xaCons xInt (xaCons xBl xaNil)))))) (blkOk_by (N := [("script" : Str), ("cup" : Str), ("turn" : Str), ("p" : Str), ("told" : Str), ("due" : Str), ("q" : Str), ("picture" : Str), ("words" : Str), ("call" : Str), ("odd" : Str), ("own" : Str)]) (sc := defScope (top 71)) (by decide +kernel)) (by decide) (fun _ _ _ _ _ => (xcName (pg_name (i := 10) S.nd rfl (by first | exact Or.inl rfl | exact Or.inr rfl)) (by decide))) (fun _ _ _ _ _ => xpNil) (fun _ _ _ _ _ => (xErrL (k := 5) EF LH.blk (hr.mono (by decide)) (hbody := fun _ _ _ _ _ _ _ hr2 => (xCallV (i := 9) F_call (hr2.mono (by decide)) lam_passes (xaCons xInt (xaCons (xVar 10) xaNil)))))))) (xgD (xdName (pg_name (i := 8) S.nd rfl (by first | exact Or.inl rfl | exact Or.inr rfl)))))
  (xLast (xAsg (xBin op_add' ok_add (xVar 8) (xComp (own := [(("own" : Str), 11)]) rfl S.nd (xiSeq (xTup (xaCons (xTup (xaCons xInt (xaCons xInt xaNil))) (xaCons (xTup (xaCons xInt (xaCons xInt xaNil))) (xaCons (xTup (xaCons xInt (xaCons xInt xaNil))) xaNil))))) (blkOk_by (N := [("script" : Str), ("cup" : Str), ("turn" : Str), ("p" : Str), ("told" : Str), ("due" : Str), ("q" : Str), ("picture" : Str), ("words" : Str), ("call" : Str), ("odd" : Str), ("own" : Str)]) (sc := defScope (top 71)) (by decide +kernel)) (by decide) (fun _ _ _ _ _ => (xcName (pg_name (i := 11) S.nd rfl (by first | exact Or.inl rfl | exact Or.inr rfl)) (by decide))) (fun _ _ _ _ _ => xpNil) (fun _ _ _ _ _ => (xErrL (k := 5) EF LH.blk (hr.mono (by decide)) (hbody := fun _ _ _ _ _ _ _ hr2 => (xCallV (i := 9) F_call (hr2.mono (by decide)) lam_passes (xaCons (xIx hr2.units (xVar 11) xInt) (xaCons (xIx hr2.units (xVar 11) xInt) xaNil)))))))) (xgD (xdName (pg_name (i := 8) S.nd rfl (by first | exact Or.inl rfl | exact Or.inr rfl)))))))))
  (xLast (xRet (xCmp (op_eqP hu) ok_eq (xVar 8) (xBin op_mul' ok_mul (xLst (xaCons xStr xaNil)) xInt) rfl)))))))))))))
  exact ⟨_, pss_cons (ps_asg (pe_call F_cup (hr.mono (by decide)) rfl hm_cup hk_cup hb_cup .nil hx (pa_cons (pv 0) pa_nil)) (pg_name (i := 1) S.nd rfl (by first | exact Or.inl rfl | exact Or.inr rfl))) R, law_start (n := 10) rfl ev h⟩
end
end W71
end
section
set_option Elab.async false
set_option linter.all false
set_option maxRecDepth 100000
set_option maxHeartbeats 4000000
namespace W71
open PySem PySem.Spec PyProof.Rows L2 LamX Ev
/-- a def as the top has left it -/
structure DefAt (K : PySem.W.Frag) (mg : Str → Option Value) (nm : Str) (st : Stmt) (f : Addr) : Prop where
  mg : mg nm = some (.ref f)
  fd : ∃ fd, Fun K nm nm st f fd
structure ClsAt (K : PySem.W.Frag) (mg : Str → Option Value) (nm : Str) (c : Addr) : Prop where
  m : mg nm = some (.ref c)
  k : PySem.W.keepIn K (.ref c) = true
  q : PySem.W.excIn K c [.type "ValueError", .type "Exception", .type "BaseException", .type "object"] "ValueError.__new__" = true
  s : PySem.W.subIn K (.ref c) (.type "BaseException") = some true
  t : PySem.W.typeIn K (.ref c) = some (.type "type")
structure LamAt (K : PySem.W.Frag) (f c P : Addr) : Prop where
  cd : CodeIs K f c
  hd : PySem.W.codeHdIn K c P = true
  no : K.lookup P = none
section
variable {K : PySem.W.Frag} {h : Heap} {mg : Str → Option Value} {nm : Str} {f c P : Addr} {C : Prop} {v : Value}
theorem def_go {st : Stmt} {oc : Value} {od an : Option Addr} {osl : Array (Option Value)} {kV doc pm cdv ct : Value} (X : K.In h) (G : h.Ns mainGlobals mg) (a : PySem.W.nsIn K mainGlobals nm = some (some (.ref f)))
    (l : K.lookup f = some ⟨oc, od, .func (PySem.W.fnOf nm nm (defArgs st) (defBody st) (defScope st) .none kV doc pm an cdv ct), osl⟩) (c : PySem.W.codeIn K cdv nm = true) (k : PySem.W.keepIn K (.ref f) = true) (go : DefAt K mg nm st f → C) : C :=
  go ⟨PySem.W.mg_of X G a, _, fun_mk l c k⟩
theorem lam_go {st : Stmt} {oc : Value} {od an : Option Addr} {osl : Array (Option Value)} {kV doc pm ct : Value} (X : K.In h) (G : h.Ns mainGlobals mg) (a : PySem.W.nsIn K mainGlobals nm = some (some (.ref f)))
    (l : K.lookup f = some ⟨oc, od, .func (PySem.W.fnOf nm nm (defArgs st) (defBody st) (defScope st) .none kV doc pm an (.ref c) ct), osl⟩) (c' : PySem.W.codeIn K (.ref c) nm = true) (k : PySem.W.keepIn K (.ref f) = true)
    {e : Value} {dd : Option Addr} {vs : Array Value} {sl : Array (Option Value)} (t : K.lookup c = some ⟨e, dd, .fields vs, sl⟩) (t2 : vs[11]? = some (.ref P)) (hd : PySem.W.codeHdIn K c P = true) (no : K.lookup P = none) (go : DefAt K mg nm st f → LamAt K f c P → C) : C :=
  go ⟨PySem.W.mg_of X G a, _, fun_mk l c' k⟩ ⟨⟨_, _, l, rfl, rfl⟩, hd, no⟩
theorem no_go (X : K.In h) (G : h.Ns mainGlobals mg) (a : PySem.W.nsIn K mainGlobals nm = some none) (go : mg nm = none → C) : C := go (PySem.W.mg_none_of X G a)
theorem val_go (X : K.In h) (G : h.Ns mainGlobals mg) (a : PySem.W.nsIn K mainGlobals nm = some (some v)) (go : mg nm = some v → C) : C := go (PySem.W.mg_of X G a)
theorem cls_go (X : K.In h) (G : h.Ns mainGlobals mg) (a : PySem.W.nsIn K mainGlobals nm = some (some (.ref c))) (k : PySem.W.keepIn K (.ref c) = true)
    (q : PySem.W.excIn K c [.type "ValueError", .type "Exception", .type "BaseException", .type "object"] "ValueError.__new__" = true) (s : PySem.W.subIn K (.ref c) (.type "BaseException") = some true) (t : PySem.W.typeIn K (.ref c) = some (.type "type")) (go : ClsAt K mg nm c → C) : C :=
  go ⟨PySem.W.mg_of X G a, k, q, s, t⟩
theorem own_tab (own : OwnTab K f h) (L : LamAt K f c P) : h.get? P = some { cls := .none, data := .fields #[] } := by
  obtain ⟨⟨o, fd, h1, h2, h3⟩, e, _⟩ := L
  unfold PySem.W.codeHdIn at e
  split at e
  · rename_i vs _ hk
    simp only [Bool.and_eq_true] at e
    obtain ⟨⟨⟨⟨⟨e1, _⟩, _⟩, _⟩, _⟩, _⟩ := e
    split at e1
    · rename_i P' h11
      have hP : P' = P := beq_iff_eq.mp e1
      subst hP
      exact own _ _ _ _ _ _ _ _ h1 h2 h3 hk h11
    · cases e1
  · cases e
end
/-- the end where two defs hold lambdas; what the loose names hold is told, too -/
theorem walk_own2 {l : PySem.W.OpenLaw} {n k : Nat} {q : Program} {loose : List Str} {XP : (Str → Option Value) → Heap → Prop} {YP : World → Heap → Prop} {d : DefRec} {K : Params → PySem.W.Frag} {CX : World → CXT} {x nm2 : Str}
    (hn : l.most = some n) (hn2 : n ≤ sizeLine) (hdf : d.params.defaults = []) (hr : Room k callerA) (hrec : ((recsOf q).any fun e => e.name == d.name) = true) (hrec2 : ((recsOf q).any fun e => e.name == nm2) = true) (hY : ∀ (w : World) (h : Heap), YP w h → (K w.params).In h)
    (F : ∀ (w : World) (mg : Str → Option Value) (fa : Addr) (h : Heap), YP w h → (K w.params).In h → XP mg h → h.Ns mainGlobals mg → mg d.name = some (.ref fa) → OwnTab (K w.params) fa h → (∀ f2, mg nm2 = some (.ref f2) → OwnTab (K w.params) f2 h) → LawAtS l w (K w.params) (CX w) k n x mg fa h)
    (hCX : ∀ (w : World) (H : Hp) (s : Shared) (e : Value) (s' : Shared), CX w [] H s (fun _ _ _ => False) e s' → False) :
    PySem.W.WalkO q loose XP YP l.row.toRowW d [] (fun f vs => PySem.call f vs) := by
  refine Att.attach_callB hn hdf fun w s₀ s₁ mg mb fa o pm cd doc a vs ns G Y ho hd hcd hmg hobj hints hlen hbits hg => ?_
  have KX := hY w _ Y
  have own : ∀ (nm : Str) (f2 : Addr), ((recsOf q).any fun e => e.name == nm) = true → mg nm = some (.ref f2) → OwnTab (K w.params) f2 s₁.heap := fun nm f2 hrec hmg => fun c P o1 fd1 e dd vs1 sl k1 k2 k3 k4 k5 => by
    obtain ⟨dL, hm, hn1⟩ := List.any_eq_true.mp hrec
    have hn2 : dL.name = nm := beq_iff_eq.mp hn1
    obtain ⟨a', o', fd', c', P', h1, h2, h3, h4, h5, h6⟩ := G.T.tab dL hm
    rw [hn2, hmg] at h1
    cases h1
    have g1 := KX _ _ k1
    rw [g1] at h2
    cases h2
    rw [k2] at h3
    cases h3
    rw [k3] at h4
    cases h4
    obtain ⟨⟨oc, vc, e1, _, e3, e4⟩, hP⟩ := h6
    have g2 := KX _ _ k4
    rw [g2] at e1
    cases e1
    cases e3
    rw [k5] at e4
    cases e4
    exact hP
  obtain ⟨fd, cs, sp, hT, nT, C, hb, hsp, hF⟩ := F w mg fa _ Y KX G.X G.T.g hmg (own _ _ hrec hmg) fun f2 z => own _ _ hrec2 z
  exact law_callTs KX G.T.g G.T.b G.T.builtins G.T.nolimit hg hT nT C G.T.bmain hobj hints (Nat.le_trans hlen hn2) hr hF hb (fun H hH hS => hsp H a ns hlen hbits hH hS) fun H e s' => hCX w H s₁ e s'
def faOf (l : List Addr) (p q : Addr) : Nat → Addr := fun k => if k = 900000 then p else if k = 900001 then q else l.getD k 0
theorem law_at {l : PySem.W.OpenLaw} {w : World} {K : PySem.W.Frag} {h : Heap} {mg : Str → Option Value} {fa0 cR PR cL PL c0 c1 c3 c4 c2 c5 c6 f0 f1 f2 f3 f4 f5 f6 f7 f8 f9 f10 f11 f12 f13 f14 f15 f16 f17 f18 f19 f20 f21 f22 f23 f24 f25 f26 f27 f28 f29 f30 f31 f32 f33 f34 f35 f36 f37 f38 f39 f40 f41 f42 f43 f44 f45 f46 f47 f48 f49 : Addr} (KX : K.In h) (hfa : mg "law" = some (.ref fa0))
    (D0 : DefAt K mg "is_whole" (top 10) f0)
    (D1 : DefAt K mg "need_whole" (top 11) f1)
    (D2 : DefAt K mg "is_tuple_of" (top 12) f2)
    (D3 : DefAt K mg "is_crossing_of" (top 16) f3)
    (D4 : DefAt K mg "ends_of" (top 17) f4)
    (D5 : DefAt K mg "other_end" (top 18) f5)
    (D6 : DefAt K mg "face_list" (top 19) f6)
    (D7 : DefAt K mg "piece_list" (top 20) f7)
    (D8 : DefAt K mg "is_picture" (top 21) f8)
    (D9 : DefAt K mg "need_picture" (top 22) f9)
    (D10 : DefAt K mg "cord_from" (top 23) f10)
    (D11 : DefAt K mg "cord_list" (top 24) f11)
    (D12 : DefAt K mg "count_cords" (top 25) f12)
    (D13 : DefAt K mg "is_sum" (top 30) f13)
    (D14 : DefAt K mg "need_sum" (top 31) f14)
    (D15 : DefAt K mg "from_dict" (top 32) f15)
    (D16 : DefAt K mg "times" (top 33) f16)
    (D17 : DefAt K mg "product" (top 34) f17)
    (D18 : DefAt K mg "turned" (top 35) f18)
    (D19 : DefAt K mg "value_at" (top 36) f19)
    (D20 : DefAt K mg "quotient" (top 37) f20)
    (D21 : DefAt K mg "need_torus" (top 41) f21)
    (D22 : DefAt K mg "need_single" (top 42) f22)
    (D23 : DefAt K mg "less_one" (top 43) f23)
    (D24 : DefAt K mg "crossings_from" (top 44) f24)
    (D25 : DefAt K mg "torus_picture" (top 45) f25)
    (D26 : DefAt K mg "torus_pieces" (top 46) f26)
    (D27 : DefAt K mg "torus_sum" (top 47) f27)
    (D28 : DefAt K mg "torus_mark" (top 48) f28)
    (D29 : DefAt K mg "torus_round" (top 49) f29)
    (D30 : DefAt K mg "met_from" (top 51) f30)
    (D31 : DefAt K mg "fits_start" (top 52) f31)
    (D32 : DefAt K mg "need_start" (top 53) f32)
    (D33 : DefAt K mg "changes_in" (top 54) f33)
    (D34 : DefAt K mg "changes_for" (top 55) f34)
    (D35 : DefAt K mg "plain_start" (top 56) f35)
    (D38 : DefAt K mg "_law_sort" (top 60) f38)
    (D39 : DefAt K mg "_law_like" (top 61) f39)
    (D40 : DefAt K mg "_law_ends" (top 62) f40)
    (D41 : DefAt K mg "_law_other" (top 63) f41)
    (D42 : DefAt K mg "_law_walk" (top 64) f42)
    (D43 : DefAt K mg "_law_cords" (top 65) f43)
    (D44 : DefAt K mg "_law_strands" (top 66) f44)
    (D46 : DefAt K mg "_law_common" (top 68) f46)
    (D47 : DefAt K mg "_law_sum" (top 69) f47)
    (D36 : DefAt K mg "_law_cup" (top 58) f36)
    (D37 : DefAt K mg "_law_roll" (top 59) f37)
    (D45 : DefAt K mg "_law_error" (top 67) f45)
    (D48 : DefAt K mg "_law_right" (top 70) f48)
    (D49 : DefAt K mg "law" (top 71) f49)
    (n_abs : mg "abs" = none)
    (n_all : mg "all" = none)
    (n_bool : mg "bool" = none)
    (n_dict : mg "dict" = none)
    (n_enumerate : mg "enumerate" = none)
    (n_int : mg "int" = none)
    (n_isinstance : mg "isinstance" = none)
    (n_len : mg "len" = none)
    (n_list : mg "list" = none)
    (n_max : mg "max" = none)
    (n_min : mg "min" = none)
    (n_range : mg "range" = none)
    (n_set : mg "set" = none)
    (n_sorted : mg "sorted" = none)
    (n_str : mg "str" = none)
    (n_sum : mg "sum" = none)
    (n_tuple : mg "tuple" = none)
    (n_zip : mg "zip" = none)
    (n_gcd : mg "gcd" = some (.builtin "math.gcd"))
    (c_CROSSINGS : ∃ t, mg "CROSSINGS" = some (.int 40 t))
    (c_GREAT : ∃ t, mg "GREAT" = some (.int 1000000000000000000000000000000000000000000000000000000000000 t))
    (c_LONG : ∃ t, mg "LONG" = some (.int 400 t))
    (c_POWER : ∃ t, mg "POWER" = some (.int 1000 t))
    (c_RINGS : ∃ t, mg "RINGS" = some (.int 20 t))
    (c_ROUNDS : ∃ t, mg "ROUNDS" = some (.int 40 t))
    (c_STRANDS : ∃ t, mg "STRANDS" = some (.int 8 t))
    (C1 : ClsAt K mg "InvalidNumber" c1)
    (C3 : ClsAt K mg "InvalidPicture" c3)
    (C4 : ClsAt K mg "InvalidRow" c4)
    (C2 : ClsAt K mg "InvalidSum" c2)
    (C5 : ClsAt K mg "NotFound" c5)
    (C6 : ClsAt K mg "NotNow" c6)
    (C0 : mg "CordError" = some (.ref c0)) (x1 : PySem.W.exmOne K (.ref c1) (.ref c0) = some true) (x6 : PySem.W.exmOne K (.ref c6) (.ref c0) = some true) (k11 : PySem.W.kitOne K (.ref c1) (.ref c1) = some true) (k16 : PySem.W.kitOne K (.ref c1) (.ref c6) = some false) (k61 : PySem.W.kitOne K (.ref c6) (.ref c1) = some false) (k66 : PySem.W.kitOne K (.ref c6) (.ref c6) = some true) (e1 : ExcC K c1) (e6 : ExcC K c6)
    (LR : LamAt K f48 cR PR) (LL : LamAt K f49 cL PL) (pR : PR ≠ 0) (pL : PL ≠ 0) (pRL : PR ≠ PL) (oL : OwnTab K fa0 h) (oR : ∀ f2, mg "_law_right" = some (.ref f2) → OwnTab K f2 h)
    (ev : ∀ x y : Int, ∃ s', b_law (law0 10 x y) = some (.ok (.rt (.bl true)) s')) : LawAtS l w K (L2N.CX l.prog w) 20 63 "script" mg fa0 h := by
  have efa : f49 = fa0 := by cases hfa.symm.trans D49.mg; rfl
  subst efa
  have tR := own_tab (oR _ D48.mg) LR
  have tL := own_tab oL LL
  obtain ⟨fa, gR, gL, g0, g1, g2, g3, g4, g5, g6, g7, g8, g9, g10, g11, g12, g13, g14, g15, g16, g17, g18, g19, g20, g21, g22, g23, g24, g25, g26, g27, g28, g29, g30, g31, g32, g33, g34, g35, g36, g37, g38, g39, g40, g41, g42, g43, g44, g45, g46, g47, g48, g49⟩ : ∃ fa : Nat → Addr, fa 900000 = PR ∧ fa 900001 = PL ∧ fa 0 = f0 ∧ fa 1 = f1 ∧ fa 2 = f2 ∧ fa 3 = f3 ∧ fa 4 = f4 ∧ fa 5 = f5 ∧ fa 6 = f6 ∧ fa 7 = f7 ∧ fa 8 = f8 ∧ fa 9 = f9 ∧ fa 10 = f10 ∧ fa 11 = f11 ∧ fa 12 = f12 ∧ fa 13 = f13 ∧ fa 14 = f14 ∧ fa 15 = f15 ∧ fa 16 = f16 ∧ fa 17 = f17 ∧ fa 18 = f18 ∧ fa 19 = f19 ∧ fa 20 = f20 ∧ fa 21 = f21 ∧ fa 22 = f22 ∧ fa 23 = f23 ∧ fa 24 = f24 ∧ fa 25 = f25 ∧ fa 26 = f26 ∧ fa 27 = f27 ∧ fa 28 = f28 ∧ fa 29 = f29 ∧ fa 30 = f30 ∧ fa 31 = f31 ∧ fa 32 = f32 ∧ fa 33 = f33 ∧ fa 34 = f34 ∧ fa 35 = f35 ∧ fa 36 = f36 ∧ fa 37 = f37 ∧ fa 38 = f38 ∧ fa 39 = f39 ∧ fa 40 = f40 ∧ fa 41 = f41 ∧ fa 42 = f42 ∧ fa 43 = f43 ∧ fa 44 = f44 ∧ fa 45 = f45 ∧ fa 46 = f46 ∧ fa 47 = f47 ∧ fa 48 = f48 ∧ fa 49 = f49 := ⟨faOf [f0, f1, f2, f3, f4, f5, f6, f7, f8, f9, f10, f11, f12, f13, f14, f15, f16, f17, f18, f19, f20, f21, f22, f23, f24, f25, f26, f27, f28, f29, f30, f31, f32, f33, f34, f35, f36, f37, f38, f39, f40, f41, f42, f43, f44, f45, f46, f47, f48, f49] PR PL, rfl, rfl, rfl, rfl, rfl, rfl, rfl, rfl, rfl, rfl, rfl, rfl, rfl, rfl, rfl, rfl, rfl, rfl, rfl, rfl, rfl, rfl, rfl, rfl, rfl, rfl, rfl, rfl, rfl, rfl, rfl, rfl, rfl, rfl, rfl, rfl, rfl, rfl, rfl, rfl, rfl, rfl, rfl, rfl, rfl, rfl, rfl, rfl, rfl, rfl, rfl, rfl⟩
  subst g0 g1 g2 g3 g4 g5 g6 g7 g8 g9 g10 g11 g12 g13 g14 g15 g16 g17 g18 g19 g20 g21 g22 g23 g24 g25 g26 g27 g28 g29 g30 g31 g32 g33 g34 g35 g36 g37 g38 g39 g40 g41 g42 g43 g44 g45 g46 g47 g48 g49
  obtain ⟨ca, y0, y1, y2, y3, y4, y5, y6⟩ : ∃ ca : Nat → Addr, ca 0 = c0 ∧ ca 1 = c1 ∧ ca 2 = c2 ∧ ca 3 = c3 ∧ ca 4 = c4 ∧ ca 5 = c5 ∧ ca 6 = c6 := ⟨fun k => [c0, c1, c2, c3, c4, c5, c6].getD k 0, rfl, rfl, rfl, rfl, rfl, rfl, rfl⟩
  subst y0 y1 y2 y3 y4 y5 y6
  have B : Blt K mg fa ca := ⟨n_all, n_bool, n_dict, n_enumerate, n_gcd, n_int, n_isinstance, n_len, n_list, n_max, n_min, n_range, n_set, n_sorted, n_str, n_sum, n_tuple, n_zip, c_CROSSINGS, c_GREAT, c_LONG, c_POWER, c_RINGS, c_ROUNDS, c_STRANDS, C1.m, C1.k, C1.q, C1.s, C1.t, C3.m, C3.k, C3.q, C3.s, C3.t, C4.m, C4.k, C4.q, C4.s, C4.t, C2.m, C2.k, C2.q, C2.s, C2.t, C5.m, C5.k, C5.q, C5.s, C5.t, C6.m, C6.k, C6.q, C6.s, C6.t⟩
  have B2 : Blt2 K mg fa ca := ⟨n_abs, n_int, n_len, n_list, n_range, n_sum, D28.mg, D27.mg⟩
  have B3 : Blt3 K mg fa ca := ⟨n_len, n_range, D28.mg, D25.mg, D26.mg, D29.mg, D27.mg⟩
  have BC : CupB mg := ⟨n_abs, n_int, n_list⟩
  obtain ⟨fd0, F0⟩ := D0.fd
  have b0 := F0.binds (ps := ["value", "low", "high"]) fun _ _ _ _ _ _ us hl => match us, hl with | [_, _, _], _ => rfl
  obtain ⟨fd1, F1⟩ := D1.fd
  have b1 := F1.binds (ps := ["value", "low", "high"]) fun _ _ _ _ _ _ us hl => match us, hl with | [_, _, _], _ => rfl
  obtain ⟨fd2, F2⟩ := D2.fd
  have b2 := F2.binds (ps := ["value", "low", "high"]) fun _ _ _ _ _ _ us hl => match us, hl with | [_, _, _], _ => rfl
  obtain ⟨fd3, F3⟩ := D3.fd
  have b3 := F3.binds (ps := ["value", "edges"]) fun _ _ _ _ _ _ us hl => match us, hl with | [_, _], _ => rfl
  obtain ⟨fd4, F4⟩ := D4.fd
  have b4 := F4.binds (ps := ["crossings"]) fun _ _ _ _ _ _ us hl => match us, hl with | [_], _ => rfl
  obtain ⟨fd5, F5⟩ := D5.fd
  have b5 := F5.binds (ps := ["ends", "crossings", "end"]) fun _ _ _ _ _ _ us hl => match us, hl with | [_, _, _], _ => rfl
  obtain ⟨fd6, F6⟩ := D6.fd
  have b6 := F6.binds (ps := ["crossings"]) fun _ _ _ _ _ _ us hl => match us, hl with | [_], _ => rfl
  obtain ⟨fd7, F7⟩ := D7.fd
  have b7 := F7.binds (ps := ["crossings"]) fun _ _ _ _ _ _ us hl => match us, hl with | [_], _ => rfl
  obtain ⟨fd8, F8⟩ := D8.fd
  have b8 := F8.binds (ps := ["value"]) fun _ _ _ _ _ _ us hl => match us, hl with | [_], _ => rfl
  obtain ⟨fd9, F9⟩ := D9.fd
  have b9 := F9.binds (ps := ["value"]) fun _ _ _ _ _ _ us hl => match us, hl with | [_], _ => rfl
  obtain ⟨fd10, F10⟩ := D10.fd
  have b10 := F10.binds (ps := ["ends", "crossings", "edge", "first"]) fun _ _ _ _ _ _ us hl => match us, hl with | [_, _, _, _], _ => rfl
  obtain ⟨fd11, F11⟩ := D11.fd
  have b11 := F11.binds (ps := ["crossings"]) fun _ _ _ _ _ _ us hl => match us, hl with | [_], _ => rfl
  obtain ⟨fd12, F12⟩ := D12.fd
  have b12 := F12.binds (ps := ["picture"]) fun _ _ _ _ _ _ us hl => match us, hl with | [_], _ => rfl
  obtain ⟨fd13, F13⟩ := D13.fd
  have b13 := F13.binds (ps := ["value"]) fun _ _ _ _ _ _ us hl => match us, hl with | [_], _ => rfl
  obtain ⟨fd14, F14⟩ := D14.fd
  have b14 := F14.binds (ps := ["value"]) fun _ _ _ _ _ _ us hl => match us, hl with | [_], _ => rfl
  obtain ⟨fd15, F15⟩ := D15.fd
  have b15 := F15.binds (ps := ["found"]) fun _ _ _ _ _ _ us hl => match us, hl with | [_], _ => rfl
  obtain ⟨fd16, F16⟩ := D16.fd
  have b16 := F16.binds (ps := ["one", "other"]) fun _ _ _ _ _ _ us hl => match us, hl with | [_, _], _ => rfl
  obtain ⟨fd17, F17⟩ := D17.fd
  have b17 := F17.binds (ps := ["one", "other"]) fun _ _ _ _ _ _ us hl => match us, hl with | [_, _], _ => rfl
  obtain ⟨fd18, F18⟩ := D18.fd
  have b18 := F18.binds (ps := ["one"]) fun _ _ _ _ _ _ us hl => match us, hl with | [_], _ => rfl
  obtain ⟨fd19, F19⟩ := D19.fd
  have b19 := F19.binds (ps := ["one", "sign"]) fun _ _ _ _ _ _ us hl => match us, hl with | [_, _], _ => rfl
  obtain ⟨fd20, F20⟩ := D20.fd
  have b20 := F20.binds (ps := ["one", "other"]) fun _ _ _ _ _ _ us hl => match us, hl with | [_, _], _ => rfl
  obtain ⟨fd21, F21⟩ := D21.fd
  have b21 := F21.binds (ps := ["p", "q"]) fun _ _ _ _ _ _ us hl => match us, hl with | [_, _], _ => rfl
  obtain ⟨fd22, F22⟩ := D22.fd
  have b22 := F22.binds (ps := ["p", "q"]) fun _ _ _ _ _ _ us hl => match us, hl with | [_, _], _ => rfl
  obtain ⟨fd23, F23⟩ := D23.fd
  have b23 := F23.binds (ps := ["power"]) fun _ _ _ _ _ _ us hl => match us, hl with | [_], _ => rfl
  obtain ⟨fd24, F24⟩ := D24.fd
  have b24 := F24.binds (ps := ["p", "q", "edges"]) fun _ _ _ _ _ _ us hl => match us, hl with | [_, _, _], _ => rfl
  obtain ⟨fd25, F25⟩ := D25.fd
  have b25 := F25.binds (ps := ["p", "q"]) fun _ _ _ _ _ _ us hl => match us, hl with | [_, _], _ => rfl
  obtain ⟨fd26, F26⟩ := D26.fd
  have b26 := F26.binds (ps := ["p", "q"]) fun _ _ _ _ _ _ us hl => match us, hl with | [_, _], _ => rfl
  obtain ⟨fd27, F27⟩ := D27.fd
  have b27 := F27.binds (ps := ["p", "q"]) fun _ _ _ _ _ _ us hl => match us, hl with | [_, _], _ => rfl
  obtain ⟨fd28, F28⟩ := D28.fd
  have b28 := F28.binds (ps := ["p", "q"]) fun _ _ _ _ _ _ us hl => match us, hl with | [_, _], _ => rfl
  obtain ⟨fd29, F29⟩ := D29.fd
  have b29 := F29.binds (ps := ["p", "q"]) fun _ _ _ _ _ _ us hl => match us, hl with | [_, _], _ => rfl
  obtain ⟨fd30, F30⟩ := D30.fd
  have b30 := F30.binds (ps := ["crossings", "edge", "way"]) fun _ _ _ _ _ _ us hl => match us, hl with | [_, _, _], _ => rfl
  obtain ⟨fd31, F31⟩ := D31.fd
  have b31 := F31.binds (ps := ["cords", "value"]) fun _ _ _ _ _ _ us hl => match us, hl with | [_, _], _ => rfl
  obtain ⟨fd32, F32⟩ := D32.fd
  have b32 := F32.binds (ps := ["picture", "start"]) fun _ _ _ _ _ _ us hl => match us, hl with | [_, _], _ => rfl
  obtain ⟨fd33, F33⟩ := D33.fd
  have b33 := F33.binds (ps := ["crossings", "start"]) fun _ _ _ _ _ _ us hl => match us, hl with | [_, _], _ => rfl
  obtain ⟨fd34, F34⟩ := D34.fd
  have b34 := F34.binds (ps := ["picture", "start"]) fun _ _ _ _ _ _ us hl => match us, hl with | [_, _], _ => rfl
  obtain ⟨fd35, F35⟩ := D35.fd
  have b35 := F35.binds (ps := ["picture"]) fun _ _ _ _ _ _ us hl => match us, hl with | [_], _ => rfl
  obtain ⟨fd38, F38⟩ := D38.fd
  have b38 := F38.binds (ps := ["value"]) fun _ _ _ _ _ _ us hl => match us, hl with | [_], _ => rfl
  obtain ⟨fd39, F39⟩ := D39.fd
  have b39 := F39.binds (ps := ["one", "other"]) fun _ _ _ _ _ _ us hl => match us, hl with | [_, _], _ => rfl
  obtain ⟨fd40, F40⟩ := D40.fd
  have b40 := F40.binds (ps := ["crossings"]) fun _ _ _ _ _ _ us hl => match us, hl with | [_], _ => rfl
  obtain ⟨fd41, F41⟩ := D41.fd
  have b41 := F41.binds (ps := ["ends", "crossings", "end"]) fun _ _ _ _ _ _ us hl => match us, hl with | [_, _, _], _ => rfl
  obtain ⟨fd42, F42⟩ := D42.fd
  have b42 := F42.binds (ps := ["crossings", "edge", "way"]) fun _ _ _ _ _ _ us hl => match us, hl with | [_, _, _], _ => rfl
  obtain ⟨fd43, F43⟩ := D43.fd
  have b43 := F43.binds (ps := ["crossings"]) fun _ _ _ _ _ _ us hl => match us, hl with | [_], _ => rfl
  obtain ⟨fd44, F44⟩ := D44.fd
  have b44 := F44.binds (ps := ["cup", "strands", "signs"]) fun _ _ _ _ _ _ us hl => match us, hl with | [_, _, _], _ => rfl
  obtain ⟨fd46, F46⟩ := D46.fd
  have b46 := F46.binds (ps := ["p", "q"]) fun _ _ _ _ _ _ us hl => match us, hl with | [_, _], _ => rfl
  obtain ⟨fd47, F47⟩ := D47.fd
  have b47 := F47.binds (ps := ["p", "q"]) fun _ _ _ _ _ _ us hl => match us, hl with | [_, _], _ => rfl
  obtain ⟨fd36, F36⟩ := D36.fd
  have b36 := F36.binds (ps := ["script"]) fun _ _ _ _ _ _ us hl => match us, hl with | [_], _ => rfl
  obtain ⟨fd37, F37⟩ := D37.fd
  have b37 := F37.binds (ps := ["cup", "many"]) fun _ _ _ _ _ _ us hl => match us, hl with | [_, _], _ => rfl
  obtain ⟨fd45, F45⟩ := D45.fd
  have b45 := F45.binds (ps := ["call"]) fun _ _ _ _ _ _ us hl => match us, hl with | [_], _ => rfl
  obtain ⟨fd48, F48⟩ := D48.fd
  have b48 := F48.binds (ps := ["p", "q"]) fun _ _ _ _ _ _ us hl => match us, hl with | [_, _], _ => rfl
  obtain ⟨fd49, F49⟩ := D49.fd
  have b49 := F49.binds (ps := ["script"]) fun _ _ _ _ _ _ us hl => match us, hl with | [_], _ => rfl
  have EF : ErrF K mg fa ca := ⟨⟨C0, C1.m, C6.m, n_isinstance, x1, x6, k11, k16, k61, k66, e1, e6⟩, ⟨_, F45, b45⟩, D45.mg⟩
  have mR : (900000, (("_law_right" : Str) ++ ".<locals>.") ++ "<lambda>") ∈ tabNames := List.mem_cons_self
  refine ⟨fd49, [(cR, PR), (cL, PL)], spLaw K fa, fun p hp => ?_, fun p hp => ?_, fun p hp => ?_, ?_, fun H a ns hl hb hT hS => ?_, fun base KB GB TBs => ?_⟩
  · simp only [List.mem_cons, List.not_mem_nil, or_false] at hp
    rcases hp with rfl | rfl
    · exact tR
    · exact tL
  · simp only [List.mem_cons, List.not_mem_nil, or_false] at hp
    rcases hp with rfl | rfl
    · exact LR.no
    · exact LL.no
  · simp only [List.mem_cons, List.not_mem_nil, or_false] at hp
    rcases hp with rfl | rfl
    · exact PySem.W.codeHd_of_K KX LR.hd
    · exact PySem.W.codeHd_of_K KX LL.hd
  · obtain ⟨oc, od, kV, doc, pm, an, cdv, ct, osl, rfl, lk, hcd⟩ := F49.ex
    exact fun s v => .of_eq rfl
  · refine ⟨rfl, a, _, rfl, hS, by simpa using hl, fun v hv => ?_, fun p hp hz => ?_, fun _ => rfl⟩
    · obtain ⟨i, _, e⟩ := List.mem_map.mp hv
      exact ⟨i, e.symm⟩
    · unfold tabNames at hp
      simp only [List.mem_cons, List.not_mem_nil, or_false] at hp
      rcases hp with rfl | rfl
      · exact TabS.nil (by rw [show fa 900000 = PR from gR]; exact hT (cR, PR) List.mem_cons_self)
      · exact TabS.nil (by rw [show fa 900001 = PL from gL]; exact hT (cL, PL) (List.mem_cons_of_mem _ List.mem_cons_self))
  · have hij : fa 900000 ≠ fa 900001 := by rw [gR, gL]; exact pRL
    have K_is_whole : Kn l.prog w K mg base fa ca 1 0 "is_whole" ["value", "low", "high"] f_is_whole := ok_is_whole B F0 D0.mg b0 
    have K_need_whole : Kn l.prog w K mg base fa ca 2 1 "need_whole" ["value", "low", "high"] f_need_whole := ok_need_whole B F1 D1.mg b1 K_is_whole
    have K_is_tuple_of : Kn l.prog w K mg base fa ca 1 2 "is_tuple_of" ["value", "low", "high"] f_is_tuple_of := ok_is_tuple_of B F2 D2.mg b2 
    have K_is_crossing_of : Kn l.prog w K mg base fa ca 2 3 "is_crossing_of" ["value", "edges"] f_is_crossing_of := ok_is_crossing_of B F3 D3.mg b3 K_is_tuple_of K_is_whole
    have K_ends_of : Kn l.prog w K mg base fa ca 1 4 "ends_of" ["crossings"] f_ends_of := ok_ends_of B F4 D4.mg b4 
    have K_other_end : Kn l.prog w K mg base fa ca 1 5 "other_end" ["ends", "crossings", "end"] f_other_end := ok_other_end B F5 D5.mg b5 
    have K_face_list : Kn l.prog w K mg base fa ca 2 6 "face_list" ["crossings"] f_face_list := ok_face_list B F6 D6.mg b6 K_ends_of K_other_end
    have K_piece_list : Kn l.prog w K mg base fa ca 2 7 "piece_list" ["crossings"] f_piece_list := ok_piece_list B F7 D7.mg b7 K_ends_of K_other_end
    have K_is_picture : Kn l.prog w K mg base fa ca 3 8 "is_picture" ["value"] f_is_picture := ok_is_picture B F8 D8.mg b8 K_is_tuple_of K_is_whole K_is_crossing_of K_ends_of K_face_list K_piece_list
    have K_need_picture : Kn l.prog w K mg base fa ca 4 9 "need_picture" ["value"] f_need_picture := ok_need_picture B F9 D9.mg b9 K_is_picture
    have K_cord_from : Kn l.prog w K mg base fa ca 2 10 "cord_from" ["ends", "crossings", "edge", "first"] f_cord_from := ok_cord_from B F10 D10.mg b10 K_other_end
    have K_cord_list : Kn l.prog w K mg base fa ca 3 11 "cord_list" ["crossings"] f_cord_list := ok_cord_list B F11 D11.mg b11 K_ends_of K_cord_from
    have K_count_cords : Kn l.prog w K mg base fa ca 5 12 "count_cords" ["picture"] f_count_cords := ok_count_cords B F12 D12.mg b12 K_need_picture K_cord_list
    have K_is_sum : Kn l.prog w K mg base fa ca 2 13 "is_sum" ["value"] f_is_sum := ok_is_sum B F13 D13.mg b13 K_is_tuple_of K_is_whole
    have K_need_sum : Kn l.prog w K mg base fa ca 3 14 "need_sum" ["value"] f_need_sum := ok_need_sum B F14 D14.mg b14 K_is_sum
    have K_from_dict : Kn l.prog w K mg base fa ca 1 15 "from_dict" ["found"] f_from_dict := ok_from_dict B F15 D15.mg b15 
    have K_times : Kn l.prog w K mg base fa ca 2 16 "times" ["one", "other"] f_times := ok_times B F16 D16.mg b16 K_from_dict
    have K_product : Kn l.prog w K mg base fa ca 4 17 "product" ["one", "other"] f_product := ok_product B F17 D17.mg b17 K_need_sum K_times
    have K_turned : Kn l.prog w K mg base fa ca 4 18 "turned" ["one"] f_turned := ok_turned B F18 D18.mg b18 K_need_sum
    have K_value_at : Kn l.prog w K mg base fa ca 4 19 "value_at" ["one", "sign"] f_value_at := ok_value_at B F19 D19.mg b19 K_need_sum K_is_whole
    have K_quotient : Kn l.prog w K mg base fa ca 4 20 "quotient" ["one", "other"] f_quotient := ok_quotient B F20 D20.mg b20 K_need_sum K_from_dict
    have K_need_torus : Kn l.prog w K mg base fa ca 3 21 "need_torus" ["p", "q"] f_need_torus := ok_need_torus B F21 D21.mg b21 K_need_whole
    have K_need_single : Kn l.prog w K mg base fa ca 4 22 "need_single" ["p", "q"] f_need_single := ok_need_single B F22 D22.mg b22 K_need_torus
    have K_less_one : Kn l.prog w K mg base fa ca 1 23 "less_one" ["power"] f_less_one := ok_less_one B F23 D23.mg b23 
    have K_crossings_from : Kn l.prog w K mg base fa ca 1 24 "crossings_from" ["p", "q", "edges"] f_crossings_from := ok_crossings_from B F24 D24.mg b24 
    have K_torus_picture : Kn l.prog w K mg base fa ca 4 25 "torus_picture" ["p", "q"] f_torus_picture := ok_torus_picture B F25 D25.mg b25 K_need_torus K_crossings_from
    have K_torus_pieces : Kn l.prog w K mg base fa ca 4 26 "torus_pieces" ["p", "q"] f_torus_pieces := ok_torus_pieces B F26 D26.mg b26 K_need_torus
    have K_torus_sum : Kn l.prog w K mg base fa ca 5 27 "torus_sum" ["p", "q"] f_torus_sum := ok_torus_sum B F27 D27.mg b27 K_need_single K_quotient K_times K_less_one
    have K_torus_mark : Kn l.prog w K mg base fa ca 5 28 "torus_mark" ["p", "q"] f_torus_mark := ok_torus_mark B F28 D28.mg b28 K_need_single
    have K_torus_round : Kn l.prog w K mg base fa ca 4 29 "torus_round" ["p", "q"] f_torus_round := ok_torus_round B F29 D29.mg b29 K_need_torus
    have K_met_from : Kn l.prog w K mg base fa ca 2 30 "met_from" ["crossings", "edge", "way"] f_met_from := ok_met_from B F30 D30.mg b30 K_ends_of K_other_end
    have K_fits_start : Kn l.prog w K mg base fa ca 2 31 "fits_start" ["cords", "value"] f_fits_start := ok_fits_start B F31 D31.mg b31 K_is_tuple_of K_is_whole
    have K_need_start : Kn l.prog w K mg base fa ca 5 32 "need_start" ["picture", "start"] f_need_start := ok_need_start B F32 D32.mg b32 K_need_picture K_fits_start K_cord_list
    have K_changes_in : Kn l.prog w K mg base fa ca 3 33 "changes_in" ["crossings", "start"] f_changes_in := ok_changes_in B F33 D33.mg b33 K_met_from
    have K_changes_for : Kn l.prog w K mg base fa ca 6 34 "changes_for" ["picture", "start"] f_changes_for := ok_changes_for B F34 D34.mg b34 K_need_start K_changes_in
    have K_plain_start : Kn l.prog w K mg base fa ca 5 35 "plain_start" ["picture"] f_plain_start := ok_plain_start B F35 D35.mg b35 K_need_picture K_cord_list
    have K__law_sort : Kn l.prog w K mg base fa ca 1 38 "_law_sort" ["value"] f__law_sort := ok__law_sort B F38 D38.mg b38 
    have K__law_like : Kn l.prog w K mg base fa ca 7 39 "_law_like" ["one", "other"] (f__law_like 6) := ok__law_like B F39 D39.mg b39 K__law_sort 6
    have K__law_ends : Kn l.prog w K mg base fa ca 1 40 "_law_ends" ["crossings"] f__law_ends := ok__law_ends B F40 D40.mg b40 
    have K__law_other : Kn l.prog w K mg base fa ca 1 41 "_law_other" ["ends", "crossings", "end"] f__law_other := ok__law_other B F41 D41.mg b41 
    have K__law_walk : Kn l.prog w K mg base fa ca 2 42 "_law_walk" ["crossings", "edge", "way"] f__law_walk := ok__law_walk B F42 D42.mg b42 K__law_ends K__law_other
    have K__law_cords : Kn l.prog w K mg base fa ca 3 43 "_law_cords" ["crossings"] f__law_cords := ok__law_cords B F43 D43.mg b43 K__law_walk
    have K__law_strands : Kn l.prog w K mg base fa ca 1 44 "_law_strands" ["cup", "strands", "signs"] f__law_strands := ok__law_strands B F44 D44.mg b44 
    have K__law_common : Kn l.prog w K mg base fa ca 1 46 "_law_common" ["p", "q"] f__law_common := ok__law_common B F46 D46.mg b46 
    have K__law_sum : Kn l.prog w K mg base fa ca 1 47 "_law_sum" ["p", "q"] f__law_sum := ok__law_sum B F47 D47.mg b47 
    have K__law_right : Kn l.prog w K mg base fa ca 8 48 "_law_right" ["p", "q"] f__law_right := ok__law_right B2 EF F48 D48.mg b48 LR.cd (TBs _ List.mem_cons_self) gR pR hij K__law_common K__law_strands K__law_like K_count_cords K_is_picture K_torus_pieces K_torus_picture K__law_cords K_torus_round K__law_sum K_torus_mark K_torus_sum K_value_at K_product K_quotient K_turned
    exact (ok_law B3 EF F49 LL.cd (TBs _ (List.mem_cons_of_mem _ List.mem_cons_self)) gL pL hij (ok__law_cup BC F36) D36.mg F36.kp b36 (ok__law_roll BC F37) D37.mg F37.kp b37 K__law_right K_torus_mark K_torus_sum K_torus_pieces K_torus_picture K_torus_round K__law_like K_changes_for K_plain_start ev).mono (by decide)
end W71
end
section
set_option Elab.async false
set_option linter.all false
set_option maxRecDepth 100000
set_option maxHeartbeats 4000000
/-! Qa: quick forms (for the kernel): raw eliminators, readings by continuations, their promises. -/
noncomputable section
namespace Ev
open PySem PySem.Spec PyProof.Rows L2
inductive Qo where
  | rt (d : D) | ex (x : Exc)
abbrev O := Option Qo
abbrev En := List Slot
abbrev Qf := List D → O
abbrev QD := En → (D → O) → O
abbrev QR := En → (D → O) → (D → O) → O
abbrev QT := En → O → O → O
abbrev QA := En → (List D → O) → O
abbrev QI := En → (List D → En → O) → O
abbrev QG := D → En → (En → O) → O
abbrev QC := En → (En → O) → O
abbrev Q1 := D → (D → O) → (D → O) → O
abbrev Q2 := D → D → (D → O) → (D → O) → O
abbrev T2 := D → D → O → O → O
abbrev St (e : En) : S := ⟨e, []⟩
/-! ### raw eliminators -/
def D.kI (k : Int → O) (d : D) : O := D.rec (motive_1 := fun _ => O) (motive_2 := fun _ => Unit) none (fun _ => none) k (fun _ => none) (fun _ _ => none) (fun _ _ => none) (fun _ _ _ => none) (fun _ _ _ => none) (fun _ => none) (fun _ => none) (fun _ _ => none) () (fun _ _ _ _ => ()) d
def D.kB (k : Bool → O) (d : D) : O := D.rec (motive_1 := fun _ => O) (motive_2 := fun _ => Unit) none k (fun _ => none) (fun _ => none) (fun _ _ => none) (fun _ _ => none) (fun _ _ _ => none) (fun _ _ _ => none) (fun _ => none) (fun _ => none) (fun _ _ => none) () (fun _ _ _ _ => ()) d
def D.kT (k : List D → O) (d : D) : O := D.rec (motive_1 := fun _ => O) (motive_2 := fun _ => Unit) none (fun _ => none) (fun _ => none) (fun _ => none) (fun xs _ => k xs) (fun _ _ => none) (fun _ _ _ => none) (fun _ _ _ => none) (fun _ => none) (fun _ => none) (fun _ _ => none) () (fun _ _ _ _ => ()) d
def D.kL (k : List D → O) (d : D) : O := D.rec (motive_1 := fun _ => O) (motive_2 := fun _ => Unit) none (fun _ => none) (fun _ => none) (fun _ => none) (fun _ _ => none) (fun xs _ => k xs) (fun _ _ _ => none) (fun _ _ _ => none) (fun _ => none) (fun _ => none) (fun _ _ => none) () (fun _ _ _ _ => ()) d
def D.kS (a0 : O) (a1 : Bool → O) (a2 : Int → O) (a3 : Str → O) (a4 a5 : List D → O) (a6 : List Key → List D → O) (a7 : List (List Key) → List D → O) (a10 : List D → O) (d : D) : O :=
  D.rec (motive_1 := fun _ => O) (motive_2 := fun _ => Unit) a0 a1 a2 a3 (fun xs _ => a4 xs) (fun xs _ => a5 xs) (fun ks vs _ => a6 ks vs) (fun ks vs _ => a7 ks vs) (fun _ => none) (fun _ => none) (fun xs _ => a10 xs) () (fun _ _ _ _ => ()) d
theorem kI_some {k : Int → O} {d : D} {o : Qo} (h : D.kI k d = some o) : ∃ i, d = .int i ∧ k i = some o := by
  cases d <;> first | exact ⟨_, rfl, h⟩ | cases h
theorem kB_some {k : Bool → O} {d : D} {o : Qo} (h : D.kB k d = some o) : ∃ i, d = .bl i ∧ k i = some o := by
  cases d <;> first | exact ⟨_, rfl, h⟩ | cases h
theorem kT_some {k : List D → O} {d : D} {o : Qo} (h : D.kT k d = some o) : ∃ i, d = .tup i ∧ k i = some o := by
  cases d <;> first | exact ⟨_, rfl, h⟩ | cases h
theorem kL_some {k : List D → O} {d : D} {o : Qo} (h : D.kL k d = some o) : ∃ i, d = .lst i ∧ k i = some o := by
  cases d <;> first | exact ⟨_, rfl, h⟩ | cases h
def bK (kt kf : O) (b : Bool) : O := Bool.rec kf kt b
theorem bK_eq (kt kf : O) (b : Bool) : bK kt kf b = if b then kt else kf := by cases b <;> rfl
def nthS (i : Nat) (e : En) : Slot := Nat.rec (motive := fun _ => En → Slot) (fun l => List.rec .no (fun a _ _ => a) l) (fun _ ih l => List.rec .no (fun _ t _ => ih t) l) i e
def setS (i : Nat) (v : Slot) (e : En) : En := Nat.rec (motive := fun _ => En → En) (fun l => List.rec [] (fun _ t _ => v :: t) l) (fun _ ih l => List.rec [] (fun a t _ => a :: ih t) l) i e
theorem nthS_get : ∀ (i : Nat) (e : En) (s : Slot), nthS i e = s → s ≠ .no → e[i]? = some s
  | 0, [], s, h, n => absurd h.symm n
  | 0, a :: t, s, h, n => by rw [← h]; rfl
  | i + 1, [], s, h, n => absurd h.symm n
  | i + 1, a :: t, s, h, n => nthS_get i t s h n
theorem setS_eq : ∀ (i : Nat) (v : Slot) (e : En), setS i v e = e.set i v
  | 0, v, [] => rfl
  | 0, v, a :: t => rfl
  | i + 1, v, [] => rfl
  | i + 1, v, a :: t => by
    show a :: setS i v t = _
    rw [setS_eq i v t]; rfl
/-- a slot's value; of either kind; of one that stays; with the other continuation for one that changes -/
def sK (k1 k2 : D → O) (i : Nat) (e : En) : O := Slot.rec none k1 k2 (nthS i e)
theorem sK_some {k1 k2 : D → O} {i : Nat} {e : En} {o : Qo} (h : sK k1 k2 i e = some o) : (∃ d, e[i]? = some (.fz d) ∧ k1 d = some o) ∨ (∃ d, e[i]? = some (.ow d) ∧ k2 d = some o) := by
  unfold sK at h
  generalize q : nthS i e = s at h
  cases s with
  | no => cases h
  | fz d => exact .inl ⟨d, nthS_get _ _ _ q (by simp), h⟩
  | ow d => exact .inr ⟨d, nthS_get _ _ _ q (by simp), h⟩
/-! ### promises -/
def DOk (m : Ev R) (v : QD) : Prop := ∀ e k o, v e k = some o → ∃ r d, m (St e) = some (.ok r (St e)) ∧ nowR r (St e) = some d ∧ k d = some o
def ROk (m : Ev R) (w : QR) : Prop := ∀ e kz kr o, w e kz kr = some o → (∃ r d, m (St e) = some (.ok r (St e)) ∧ (∀ d', r ≠ .fr d') ∧ esc r (St e) = some (d, St e) ∧ kz d = some o) ∨ (∃ d, m (St e) = some (.ok (.fr d) (St e)) ∧ kr d = some o)
def TOk (m : Ev Bool) (t : QT) : Prop := ∀ e kt kf o, t e kt kf = some o → ∃ b, m (St e) = some (.ok b (St e)) ∧ (if b then kt else kf) = some o
def AOk (m : Ev (List R)) (v : QA) (n : Nat) : Prop := ∀ e k o, v e k = some o → ∃ rs ds, m (St e) = some (.ok rs (St e)) ∧ escL rs (St e) = some (ds, St e) ∧ ds.length = n ∧ k ds = some o
/-- arguments that may be slots' own objects: for a call behind which nothing is asked of the slots -/
def WOk (m : Ev (List R)) (v : QA) (n : Nat) : Prop := ∀ e k o, v e k = some o → ∃ rs ds, m (St e) = some (.ok rs (St e)) ∧ nowL rs (St e) = some ds ∧ ds.length = n ∧ k ds = some o
def IOk (m : Ev Src) (q : QI) : Prop := ∀ e k o, q e k = some o → ∃ ds e', m (St e) = some (.ok (.con ds) (St e')) ∧ k ds e' = some o
def UOk (m : Ev Unit) (q : QC) : Prop := ∀ e k o, q e k = some o → ∃ e', m (St e) = some (.ok () (St e')) ∧ k e' = some o
def GOk (m : D → Ev Unit) (q : QG) : Prop := ∀ d, UOk (m d) (q d)
def COk (m : Ev Ct) (q : QC) : Prop := ∀ e kn o, q e kn = some o → (∃ e', m (St e) = some (.ok .nx (St e')) ∧ kn e' = some o) ∨ (∃ d e', m (St e) = some (.ok (.rt d) (St e')) ∧ o = .rt d) ∨ (∃ x, m (St e) = some (.ex x []) ∧ o = .ex x)
def P1 (f : List D → Option R) (q : Q1) : Prop := ∀ a kz kr o, q a kz kr = some o → (∃ d, f [a] = some (.fz d) ∧ kz d = some o) ∨ (∃ d, f [a] = some (.fr d) ∧ kr d = some o)
def P2 (f : List D → Option R) (q : Q2) : Prop := ∀ a b kz kr o, q a b kz kr = some o → (∃ d, f [a, b] = some (.fz d) ∧ kz d = some o) ∨ (∃ d, f [a, b] = some (.fr d) ∧ kr d = some o)
def PT2 (f : List D → Option R) (q : T2) : Prop := ∀ a b kt kf o, q a b kt kf = some o → ∃ c, f [a, b] = some (.fz (.bl c)) ∧ (if c then kt else kf) = some o
def toF : Qo → FOut
  | .rt d => .ok d []
  | .ex x => .ex x []
def Lq (q : Qf) (f : Fn) : Prop := ∀ ds o, q ds = some o → f ds [] = some (toF o)
def pOf (q : Qf) : Fn := fun ds g => match g with
  | [] => (match q ds with
    | some o => some (toF o)
    | none => none)
  | _ => none
theorem le_pOf {q : Qf} {f : Fn} (h : Lq q f) : Le (pOf q) f := by
  intro ds g x e
  unfold pOf at e
  split at e
  · split at e
    · rename_i o q1
      cases e
      exact h _ _ q1
    · cases e
  · cases e
/-! ### expressions -/
variable {m a b : Ev R} {w wa wb : QR} {v va vb : QD} {ms : Ev (List R)} {vs : QA} {n : Nat} {f g : List D → Option R} {q1 : Q1} {q2 : Q2} {t2 : T2} {t ta tb : QT} {c ca cb : Ev Bool}
def kVarD (i : Nat) : QD := fun e k => sK k k i e
theorem dVar (i : Nat) : DOk (eVar i) (kVarD i) := fun e k o h => by
  rcases sK_some h with ⟨d, h1, h2⟩ | ⟨d, h1, h2⟩
  · exact ⟨.pk i, d, by simp [eVar, h1], by simp [nowR, h1], h2⟩
  · exact ⟨.pk i, d, by simp [eVar, h1], by simp [nowR, h1], h2⟩
def kVar (i : Nat) : QR := fun e kz _ => sK kz (fun _ => none) i e
theorem rVar (i : Nat) : ROk (eVar i) (kVar i) := fun e kz kr o h => by
  rcases sK_some h with ⟨d, h1, h2⟩ | ⟨d, h1, h2⟩
  · exact .inl ⟨.pk i, d, by simp only [eVar, h1], (fun _ z => nomatch z), by simp only [esc, h1], h2⟩
  · cases h2
def kW (w : QR) : QD := fun e k => w e k k
theorem esc_now {r : R} {s s' : S} {d : D} (h : esc r s = some (d, s')) : nowR r s = some d := by
  cases r with
  | fz d0 => cases h; rfl
  | fr d0 => cases h; rfl
  | pk i =>
    simp only [esc, nowR] at h ⊢
    split at h
    · rename_i q; cases h; simp [q]
    · rename_i q; cases h; simp [q]
    · cases h
theorem dR (h : ROk m w) : DOk m (kW w) := fun e k o q => by
  rcases h e k k o q with ⟨r, d, h1, _, h3, h4⟩ | ⟨d, h1, h2⟩
  · exact ⟨r, d, h1, esc_now h3, h4⟩
  · exact ⟨_, d, h1, rfl, h2⟩
def kVal (d : D) : QR := fun _ kz _ => kz d
theorem rVal (d : D) : ROk (eVal d) (kVal d) := fun e kz kr o h => .inl ⟨_, d, rfl, (fun _ z => nomatch z), rfl, h⟩
theorem op_end {ds : List D} {e : En} {kz kr : D → O} {o : Qo} {m : Ev R} (hm : m (St e) = lif (f ds) (St e)) (h : (∃ d, f ds = some (.fz d) ∧ kz d = some o) ∨ (∃ d, f ds = some (.fr d) ∧ kr d = some o)) :
    (∃ r d, m (St e) = some (.ok r (St e)) ∧ (∀ d', r ≠ .fr d') ∧ esc r (St e) = some (d, St e) ∧ kz d = some o) ∨ (∃ d, m (St e) = some (.ok (.fr d) (St e)) ∧ kr d = some o) := by
  rcases h with ⟨d, h1, h2⟩ | ⟨d, h1, h2⟩
  · exact .inl ⟨.fz d, d, by rw [hm, h1]; rfl, (fun _ z => nomatch z), rfl, h2⟩
  · exact .inr ⟨d, by rw [hm, h1]; rfl, h2⟩
def kOp2 (q : Q2) (va vb : QD) : QR := fun e kz kr => va e fun x => vb e fun y => q x y kz kr
theorem rOp2 (hq : P2 f q2) (ha : DOk a va) (hb : DOk b vb) : ROk (eOp2 f a b) (kOp2 q2 va vb) := fun e kz kr o h => by
  obtain ⟨r1, d1, a1, a2, h⟩ := ha _ _ _ h
  obtain ⟨r2, d2, b1, b2, h⟩ := hb _ _ _ h
  exact op_end (f := f) (ds := [d1, d2]) (by simp [eOp2, a1, b1, bd, nowL, a2, b2]) (hq _ _ _ _ _ h)
def kOp1 (q : Q1) (va : QD) : QR := fun e kz kr => va e fun x => q x kz kr
theorem rOp1 (hq : P1 f q1) (ha : DOk a va) : ROk (eOp1 f a) (kOp1 q1 va) := fun e kz kr o h => by
  obtain ⟨r1, d1, a1, a2, h⟩ := ha _ _ _ h
  exact op_end (f := f) (ds := [d1]) (by simp [eOp1, a1, bd, nowL, a2]) (hq _ _ _ _ h)
theorem rOpL1 (hq : P1 f q1) (ha : DOk a va) : ROk (eOpL f (aCons a aNil)) (kOp1 q1 va) := fun e kz kr o h => by
  obtain ⟨r1, d1, a1, a2, h⟩ := ha _ _ _ h
  exact op_end (f := f) (ds := [d1]) (by simp [eOpL, aCons, aNil, a1, bd, nowL, a2]) (hq _ _ _ _ h)
theorem rOpL2 (hq : P2 f q2) (ha : DOk a va) (hb : DOk b vb) : ROk (eOpL f (aCons a (aCons b aNil))) (kOp2 q2 va vb) := fun e kz kr o h => by
  obtain ⟨r1, d1, a1, a2, h⟩ := ha _ _ _ h
  obtain ⟨r2, d2, b1, b2, h⟩ := hb _ _ _ h
  exact op_end (f := f) (ds := [d1, d2]) (by simp [eOpL, aCons, aNil, a1, b1, bd, nowL, a2, b2]) (hq _ _ _ _ _ h)
/-! ### arguments, displays, calls -/
def kNil : QA := fun _ k => k []
def kCons (w : QR) (vs : QA) : QA := fun e k => w e (fun d => vs e fun ds => k (d :: ds)) (fun d => vs e fun ds => k (d :: ds))
theorem aNilOk : AOk aNil kNil 0 := fun e k o h => ⟨[], [], rfl, rfl, rfl, h⟩
theorem aConsOk (ha : ROk a wa) (hs : AOk ms vs n) : AOk (aCons a ms) (kCons wa vs) (n + 1) := fun e k o h => by
  rcases ha _ _ _ _ h with ⟨r, d, h1, _, h3, h4⟩ | ⟨d, h1, h4⟩
  · obtain ⟨rs, ds, b1, b2, b3, b4⟩ := hs _ _ _ h4
    exact ⟨r :: rs, d :: ds, by simp [aCons, h1, b1, bd], by simp [escL, h3, b2], by simp [b3], b4⟩
  · obtain ⟨rs, ds, b1, b2, b3, b4⟩ := hs _ _ _ h4
    exact ⟨.fr d :: rs, d :: ds, by simp [aCons, h1, b1, bd], by simp [escL, esc, b2], by simp [b3], b4⟩
def kConsD (v : QD) (vs : QA) : QA := fun e k => v e (fun d => vs e fun ds => k (d :: ds))
theorem wNilOk : WOk aNil kNil 0 := fun e k o h => ⟨[], [], rfl, rfl, rfl, h⟩
theorem wConsOk (ha : DOk a va) (hs : WOk ms vs n) : WOk (aCons a ms) (kConsD va vs) (n + 1) := fun e k o h => by
  obtain ⟨r, d, h1, h3, h4⟩ := ha _ _ _ h
  obtain ⟨rs, ds, b1, b2, b3, b4⟩ := hs _ _ _ h4
  exact ⟨r :: rs, d :: ds, by simp [aCons, h1, b1, bd], by simp [nowL, h3, b2], by simp [b3], b4⟩
def kTup (vs : QA) : QR := fun e kz _ => vs e fun ds => kz (.tup ds)
theorem rTup (hs : AOk ms vs n) (hn : n ≤ szL := by decide) : ROk (eTup ms) (kTup vs) := fun e kz kr o h => by
  obtain ⟨rs, ds, b1, b2, b3, b4⟩ := hs _ _ _ h
  exact .inl ⟨.fz (.tup ds), _, by simp only [eTup, b1, bd, b2]; rw [if_pos (by omega)], (fun _ z => nomatch z), rfl, b4⟩
def kLst (vs : QA) : QR := fun e _ kr => vs e fun ds => kr (.lst ds)
theorem rLst (hs : AOk ms vs n) (hn : n ≤ szL := by decide) : ROk (eLst ms) (kLst vs) := fun e kz kr o h => by
  obtain ⟨rs, ds, b1, b2, b3, b4⟩ := hs _ _ _ h
  exact .inr ⟨_, by simp only [eLst, b1, bd, b2]; rw [if_pos (by omega)], b4⟩
def kNew (d : D) : QR := fun _ _ kr => kr d
theorem rNew (d : D) : ROk (eNew d) (kNew d) := fun e kz kr o h => .inr ⟨d, rfl, h⟩
def callK (kz : D → O) (o : O) : O := Option.rec none (fun r => Qo.rec kz (fun _ => none) r) o
theorem callK_some {kz : D → O} {x : O} {o : Qo} (h : callK kz x = some o) : ∃ d, x = some (.rt d) ∧ kz d = some o := by
  cases x with
  | none => cases h
  | some r => cases r with
    | rt d => exact ⟨d, rfl, h⟩
    | ex x => cases h
def callX (k : O) (o : O) : O := Option.rec none (fun r => Qo.rec (fun _ => k) (fun x => some (.ex x)) r) o
theorem callX_some {k : O} {x : O} {o : Qo} (h : callX k x = some o) : (∃ d, x = some (.rt d) ∧ k = some o) ∨ (∃ y, x = some (.ex y) ∧ o = .ex y) := by
  cases x with
  | none => cases h
  | some r => cases r with
    | rt d => exact .inl ⟨d, rfl, h⟩
    | ex x => cases h; exact .inr ⟨_, rfl, rfl⟩
def kCall (q : Qf) (vs : QA) : QR := fun e kz _ => vs e fun ds => callK kz (q ds)
theorem rCall {q : Qf} {F : Fn} (hq : Lq q F) (hs : AOk ms vs n) : ROk (eCall n F ms) (kCall q vs) := fun e kz kr o h => by
  obtain ⟨rs, ds, b1, b2, b3, b4⟩ := hs _ _ _ h
  obtain ⟨d, c1, c2⟩ := callK_some b4
  refine .inl ⟨.fz d, d, ?_, (fun _ z => nomatch z), rfl, c2⟩
  simp only [eCall, b1, bd, b2, b3, if_true, hq _ _ c1, toF]
/-! ### tests, choices -/
def kIf (t : QT) (wa wb : QR) : QR := fun e kz kr => t e (wa e kz kr) (wb e kz kr)
theorem rIf (ht : TOk c t) (ha : ROk a wa) (hb : ROk b wb) : ROk (eIf c a b) (kIf t wa wb) := fun e kz kr o h => by
  obtain ⟨k, h1, h2⟩ := ht _ _ _ _ h
  cases k with
  | true =>
    have e1 : eIf c a b (St e) = a (St e) := by simp [eIf, h1, bd]
    rw [e1]; exact ha _ _ _ _ h2
  | false =>
    have e1 : eIf c a b (St e) = b (St e) := by simp [eIf, h1, bd]
    rw [e1]; exact hb _ _ _ _ h2
def kIfD (t : QT) (va vb : QD) : QD := fun e k => t e (va e k) (vb e k)
theorem dIf (ht : TOk c t) (ha : DOk a va) (hb : DOk b vb) : DOk (eIf c a b) (kIfD t va vb) := fun e k o h => by
  obtain ⟨z, h1, h2⟩ := ht _ _ _ _ h
  cases z with
  | true =>
    have e1 : eIf c a b (St e) = a (St e) := by simp [eIf, h1, bd]
    rw [e1]; exact ha _ _ _ h2
  | false =>
    have e1 : eIf c a b (St e) = b (St e) := by simp [eIf, h1, bd]
    rw [e1]; exact hb _ _ _ h2
def kAnd (va : QD) (wb : QR) : QR := fun e kz kr => va e fun d => D.kB (fun b => bK (wb e kz kr) (kz (.bl false)) b) d
theorem rAnd (ha : DOk a va) (hb : ROk b wb) : ROk (eAnd a b) (kAnd va wb) := fun e kz kr o h => by
  obtain ⟨r, d, a1, a2, h⟩ := ha _ _ _ h
  obtain ⟨i, e5, h5⟩ := kB_some h
  subst e5
  rw [bK_eq] at h5
  replace h := h5
  cases i with
  | true =>
    have e1 : eAnd a b (St e) = b (St e) := by simp [eAnd, a1, bd, a2]
    rw [e1]; exact hb _ _ _ _ h
  | false => exact .inl ⟨.fz (.bl false), _, by simp [eAnd, a1, bd, a2], (fun _ z => nomatch z), rfl, h⟩
def kOr (va : QD) (wb : QR) : QR := fun e kz kr => va e fun d => D.kB (fun b => bK (kz (.bl true)) (wb e kz kr) b) d
theorem rOr (ha : DOk a va) (hb : ROk b wb) : ROk (eOr a b) (kOr va wb) := fun e kz kr o h => by
  obtain ⟨r, d, a1, a2, h⟩ := ha _ _ _ h
  obtain ⟨i, e5, h5⟩ := kB_some h
  subst e5
  rw [bK_eq] at h5
  replace h := h5
  cases i with
  | false =>
    have e1 : eOr a b (St e) = b (St e) := by simp [eOr, a1, bd, a2]
    rw [e1]; exact hb _ _ _ _ h
  | true => exact .inl ⟨.fz (.bl true), _, by simp [eOr, a1, bd, a2], (fun _ z => nomatch z), rfl, h⟩
def kNot (va : QD) : QR := fun e kz _ => va e fun d => D.kB (fun b => bK (kz (.bl false)) (kz (.bl true)) b) d
theorem rNot (ha : DOk a va) : ROk (eNot a) (kNot va) := fun e kz kr o h => by
  obtain ⟨r, d, a1, a2, h⟩ := ha _ _ _ h
  obtain ⟨i, e5, h5⟩ := kB_some h
  subst e5
  rw [bK_eq] at h5
  replace h := h5
  cases i with
  | false => exact .inl ⟨.fz (.bl true), _, by simp [eNot, a1, bd, a2], (fun _ z => nomatch z), rfl, h⟩
  | true => exact .inl ⟨.fz (.bl false), _, by simp [eNot, a1, bd, a2], (fun _ z => nomatch z), rfl, h⟩
def tOp2 (q : T2) (va vb : QD) : QT := fun e kt kf => va e fun x => vb e fun y => q x y kt kf
theorem tOp2Ok (hq : PT2 f t2) (ha : DOk a va) (hb : DOk b vb) : TOk (tBool (eOp2 f a b)) (tOp2 t2 va vb) := fun e kt kf o h => by
  obtain ⟨r1, d1, a1, a2, h⟩ := ha _ _ _ h
  obtain ⟨r2, d2, b1, b2, h⟩ := hb _ _ _ h
  obtain ⟨c, c1, c2⟩ := hq _ _ _ _ _ h
  exact ⟨c, by simp [tBool, eOp2, a1, b1, bd, nowL, a2, b2, c1, lif], c2⟩
/-- a test as a value -/
def kT2 (q : T2) (va vb : QD) : QR := fun e kz _ => va e fun x => vb e fun y => q x y (kz (.bl true)) (kz (.bl false))
theorem rT2 (hq : PT2 f t2) (ha : DOk a va) (hb : DOk b vb) : ROk (eOp2 f a b) (kT2 t2 va vb) := fun e kz kr o h => by
  obtain ⟨r1, d1, a1, a2, h⟩ := ha _ _ _ h
  obtain ⟨r2, d2, b1, b2, h⟩ := hb _ _ _ h
  obtain ⟨c, c1, c2⟩ := hq _ _ _ _ _ h
  refine op_end (f := f) (ds := [d1, d2]) (by simp [eOp2, a1, b1, bd, nowL, a2, b2]) (.inl ⟨_, c1, ?_⟩)
  cases c <;> exact c2
def tTruK (va : QD) : QT := fun e kt kf => va e fun d => D.kS kf (fun b => bK kt kf b) (fun i => Int.rec (fun n => bK kf kt (Nat.beq n 0)) (fun _ => kt) i) (fun _ => none) (fun xs => List.rec kf (fun _ _ _ => kt) xs) (fun xs => List.rec kf (fun _ _ _ => kt) xs) (fun _ _ => none) (fun _ _ => none) (fun _ => none) d
theorem tTruOk (ha : DOk a va) : TOk (tTru a) (tTruK va) := fun e kt kf o h => by
  obtain ⟨r1, d1, a1, a2, h⟩ := ha _ _ _ h
  have key : ∃ b, truD d1 = some b ∧ (if b then kt else kf) = some o := by
    cases d1 with
    | non => exact ⟨false, rfl, h⟩
    | bl b => exact ⟨b, rfl, by cases b <;> exact h⟩
    | int i =>
      refine ⟨i != 0, rfl, ?_⟩
      cases i with
      | ofNat n => cases n <;> exact h
      | negSucc n => exact h
    | tup xs => cases xs <;> exact ⟨_, rfl, h⟩
    | lst xs => cases xs <;> exact ⟨_, rfl, h⟩
    | _ => cases h
  obtain ⟨b, k1, k2⟩ := key
  exact ⟨b, by simp [tTru, a1, bd, a2, lif, k1], k2⟩
def tNotK (t : QT) : QT := fun e kt kf => t e kf kt
theorem tNotOk (h : TOk c t) : TOk (tNotM c) (tNotK t) := fun e kt kf o q => by
  obtain ⟨b, h1, h2⟩ := h _ _ _ _ q
  exact ⟨!b, by simp [tNotM, h1, bd], by cases b <;> exact h2⟩
def tAndK (ta tb : QT) : QT := fun e kt kf => ta e (tb e kt kf) kf
theorem tAndOk (ha : TOk ca ta) (hb : TOk cb tb) : TOk (tAndM ca cb) (tAndK ta tb) := fun e kt kf o q => by
  obtain ⟨b, h1, h2⟩ := ha _ _ _ _ q
  cases b with
  | true =>
    obtain ⟨b, h3, h4⟩ := hb _ _ _ _ h2
    exact ⟨b, by simp [tAndM, h1, bd, h3], h4⟩
  | false => exact ⟨false, by simp [tAndM, h1, bd], h2⟩
def tOrK (ta tb : QT) : QT := fun e kt kf => ta e kt (tb e kt kf)
theorem tOrOk (ha : TOk ca ta) (hb : TOk cb tb) : TOk (tOrM ca cb) (tOrK ta tb) := fun e kt kf o q => by
  obtain ⟨b, h1, h2⟩ := ha _ _ _ _ q
  cases b with
  | false =>
    obtain ⟨b, h3, h4⟩ := hb _ _ _ _ h2
    exact ⟨b, by simp [tOrM, h1, bd, h3], h4⟩
  | true => exact ⟨true, by simp [tOrM, h1, bd], h2⟩
def tYesK : QT := fun _ kt _ => kt
theorem tYesOk : TOk tYesM tYesK := fun e kt kf o h => ⟨true, rfl, h⟩
def kChain (p q : T2) (va vb vc : QD) : QR := fun e kz _ => va e fun x => vb e fun y => p x y (vc e fun z => q y z (kz (.bl true)) (kz (.bl false))) (kz (.bl false))
theorem rChain {cc : Ev R} {vc : QD} {p q : T2} (hp : PT2 f p) (hq : PT2 g q) (ha : DOk a va) (hb : DOk b vb) (hc : DOk cc vc) : ROk (eChain f g a b cc) (kChain p q va vb vc) := fun e kz kr o h => by
  obtain ⟨r1, d1, a1, a2, h⟩ := ha _ _ _ h
  obtain ⟨r2, d2, b1, b2, h⟩ := hb _ _ _ h
  obtain ⟨k, c1, h⟩ := hp _ _ _ _ _ h
  cases k with
  | false => exact .inl ⟨.fz (.bl false), _, by simp [eChain, a1, b1, bd, nowL, a2, b2, c1], (fun _ z => nomatch z), rfl, h⟩
  | true =>
    obtain ⟨r3, d3, e1, e2, h⟩ := hc _ _ _ h
    obtain ⟨k, f1, h⟩ := hq _ _ _ _ _ h
    refine .inl ⟨.fz (.bl k), _, by simp [eChain, a1, b1, bd, nowL, a2, b2, c1, e1, e2, f1, lif], (fun _ z => nomatch z), rfl, ?_⟩
    cases k <;> exact h
end Ev
end
end
section
set_option Elab.async false
set_option linter.all false
set_option maxRecDepth 100000
set_option maxHeartbeats 4000000
/-! Qb: quick forms: statements, targets, loops, comprehensions, whole defs. -/
noncomputable section
namespace Ev
open PySem PySem.Spec PyProof.Rows L2
variable {m a b : Ev R} {w wa wb : QR} {v va vb : QD} {ms : Ev (List R)} {vs : QA} {n : Nat} {f g : List D → Option R} {q1 : Q1} {q2 : Q2} {t2 : T2} {t ta tb : QT} {c ca cb : Ev Bool} {sa sb : Ev Ct} {qa qb : QC} {tg : D → Ev Unit} {G1 : QG}
theorem now_esc {r : R} {e : En} {d : D} (h : nowR r (St e) = some d) : ∃ e', esc r (St e) = some (d, St e') := by
  cases r with
  | fz d0 => cases h; exact ⟨e, rfl⟩
  | fr d0 => cases h; exact ⟨e, rfl⟩
  | pk i =>
    simp only [nowR] at h
    split at h
    · rename_i q; cases h; exact ⟨e, by simp only [esc, q]⟩
    · rename_i q; cases h; exact ⟨e.set i (.fz d), by simp only [esc, q]⟩
    · cases h
theorem now_esc_at {r : R} {e : En} {d d' : D} {e' : En} {j : Nat} (h : nowR r (St e) = some d) (hj : e[j]? = some (.ow d')) : nowR r (St (e.set j (.fz d'))) = some d := by
  cases r with
  | fz d0 => exact h
  | fr d0 => exact h
  | pk i =>
    simp only [nowR] at h ⊢
    by_cases q : j = i
    · subst q
      rw [hj] at h
      have hl := (List.getElem?_eq_some_iff.mp hj).1
      rw [List.getElem?_set_self hl]
      exact h
    · rw [List.getElem?_set_ne q]
      exact h
/-- the slots' own objects may stay as they are from now on: nothing else changes -/
theorem esc_now_keep {r r2 : R} {e e' : En} {d d2 : D} (h : esc r (St e) = some (d, St e')) (h2 : nowR r2 (St e) = some d2) : nowR r2 (St e') = some d2 := by
  cases r with
  | fz d0 => cases h; exact h2
  | fr d0 => cases h; exact h2
  | pk i =>
    simp only [esc] at h
    split at h
    · cases h; exact h2
    · rename_i d0 q
      cases h
      exact now_esc_at (e' := e) h2 q
    · cases h
theorem esc_nowL_keep {r : R} {e e' : En} {d : D} (h : esc r (St e) = some (d, St e')) : ∀ {rs : List R} {ds : List D}, nowL rs (St e) = some ds → nowL rs (St e') = some ds
  | [], ds, h2 => h2
  | r2 :: rs, ds, h2 => by
    simp only [nowL] at h2
    split at h2
    · cases h2
    · rename_i d1 q1
      split at h2
      · cases h2
      · rename_i ds1 q2
        cases h2
        simp only [nowL, esc_now_keep h q1, esc_nowL_keep h q2]
theorem nowL_escL : ∀ {rs : List R} {ds : List D} {e : En}, nowL rs (St e) = some ds → ∃ e', escL rs (St e) = some (ds, St e')
  | [], ds, e, h => by cases h; exact ⟨e, rfl⟩
  | r :: rs, ds, e, h => by
    simp only [nowL] at h
    split at h
    · cases h
    · rename_i d1 h1
      split at h
      · cases h
      · rename_i ds1 h2
        cases h
        obtain ⟨e1, k1⟩ := now_esc h1
        obtain ⟨e2, k2⟩ := nowL_escL (esc_nowL_keep k1 h2)
        exact ⟨e2, by simp only [escL, k1, k2]⟩
/-! ### statements -/
def sNilK : QC := fun e k => k e
theorem cNil : COk sNil sNilK := fun e k o h => .inl ⟨e, rfl, h⟩
def sSeqK (qa qb : QC) : QC := fun e k => qa e fun e1 => qb e1 k
theorem cSeq (ha : COk sa qa) (hb : COk sb qb) : COk (sSeq sa sb) (sSeqK qa qb) := fun e k o h => by
  rcases ha _ _ _ h with ⟨e1, h1, h2⟩ | ⟨d, e1, h1, h2⟩ | ⟨x, h1, h2⟩
  · have e0 : sSeq sa sb (St e) = sb (St e1) := by simp [sSeq, h1, bd]
    rw [e0]; exact hb _ _ _ h2
  · exact .inr (.inl ⟨d, e1, by simp [sSeq, h1, bd], h2⟩)
  · exact .inr (.inr ⟨x, by simp [sSeq, h1, bd], h2⟩)
def sIfK (t : QT) (qa qb : QC) : QC := fun e k => t e (qa e k) (qb e k)
theorem cIf (ht : TOk c t) (ha : COk sa qa) (hb : COk sb qb) : COk (sIf c sa sb) (sIfK t qa qb) := fun e k o h => by
  obtain ⟨z, h1, h2⟩ := ht _ _ _ _ h
  cases z with
  | true =>
    have e0 : sIf c sa sb (St e) = sa (St e) := by simp [sIf, h1, bd]
    rw [e0]; exact ha _ _ _ h2
  | false =>
    have e0 : sIf c sa sb (St e) = sb (St e) := by simp [sIf, h1, bd]
    rw [e0]; exact hb _ _ _ h2
def sRetK (v : QD) : QC := fun e _ => v e fun d => some (.rt d)
theorem cRet (hm : DOk m v) : COk (sRet m) (sRetK v) := fun e k o h => by
  obtain ⟨r, d, h1, h2, h3⟩ := hm _ _ _ h
  obtain ⟨e', h4⟩ := now_esc h2
  cases h3
  exact .inr (.inl ⟨d, e', by simp only [sRet, h1, bd, h4], rfl⟩)
def sRaiseK (k : Nat) : QC := fun _ _ => some (.ex ⟨k, none⟩)
theorem cRaise (k : Nat) : COk (sRaise k) (sRaiseK k) := fun e kn o h => by
  cases h
  exact .inr (.inr ⟨⟨k, none⟩, rfl, rfl⟩)
def sAsgK (w : QR) (i : Nat) : QC := fun e k => w e (fun d => k (setS i (.fz d) e)) (fun d => k (setS i (.ow d) e))
theorem stR_nf {r : R} {d : D} {e : En} {i : Nat} (n : ∀ d', r ≠ .fr d') (h : esc r (St e) = some (d, St e)) : stR i r (St e) = some (.ok () (St (setS i (.fz d) e))) := by
  rw [setS_eq]
  cases r with
  | fr d0 => exact absurd rfl (n d0)
  | fz d0 => cases h; rfl
  | pk j => simp only [stR, h]
theorem cAsg {i : Nat} (hm : ROk m w) : COk (sAsg m (stR i)) (sAsgK w i) := fun e k o h => by
  rcases hm _ _ _ _ h with ⟨r, d, h1, h2, h3, h4⟩ | ⟨d, h1, h4⟩
  · exact .inl ⟨_, by simp only [sAsg, h1, bd, stR_nf h2 h3], h4⟩
  · exact .inl ⟨_, by simp only [sAsg, h1, bd, stR, setS_eq], h4⟩
/-- x = y -/
def sAsgVK (j i : Nat) : QC := fun e k => sK (fun d => k (setS i (.fz d) e)) (fun d => k (setS i (.fz d) (setS j (.fz d) e))) j e
theorem cAsgV {i j : Nat} : COk (sAsg (eVar j) (stR i)) (sAsgVK j i) := fun e k o h => by
  rcases sK_some h with ⟨d, h1, h2⟩ | ⟨d, h1, h2⟩
  · exact .inl ⟨_, by simp only [sAsg, eVar, h1, bd, stR, esc, setS_eq], h2⟩
  · exact .inl ⟨_, by simp only [sAsg, eVar, h1, bd, stR, esc, setS_eq], h2⟩
def sAsgDK (w : QR) (g : QG) : QC := fun e k => w e (fun d => g d e k) (fun d => g d e k)
theorem cAsgD (hm : ROk m w) (hg : GOk tg G1) : COk (sAsg m (tgD tg)) (sAsgDK w G1) := fun e k o h => by
  rcases hm _ _ _ _ h with ⟨r, d, h1, h2, h3, h4⟩ | ⟨d, h1, h4⟩
  · obtain ⟨e', k1, k2⟩ := hg d _ _ _ h4
    exact .inl ⟨e', by simp only [sAsg, h1, bd, tgD, h3, k1], k2⟩
  · obtain ⟨e', k1, k2⟩ := hg d _ _ _ h4
    exact .inl ⟨e', by simp only [sAsg, h1, bd, tgD, esc, k1], k2⟩
def sExprK (w : QR) : QC := fun e k => w e (fun _ => k e) (fun _ => k e)
theorem cExpr (hm : ROk m w) : COk (sExpr m) (sExprK w) := fun e k o h => by
  rcases hm _ _ _ _ h with ⟨r, d, h1, h2, h3, h4⟩ | ⟨d, h1, h4⟩
  · exact .inl ⟨e, by simp only [sExpr, h1, bd], h4⟩
  · exact .inl ⟨e, by simp only [sExpr, h1, bd], h4⟩
def sExprCallK (q : Qf) (vs : QA) : QC := fun e k => vs e fun ds => callX (k e) (q ds)
theorem cExprCall {q : Qf} {F : Fn} (hq : Lq q F) (hs : AOk ms vs n) : COk (sExpr (eCall n F ms)) (sExprCallK q vs) := fun e k o h => by
  obtain ⟨rs, ds, b1, b2, b3, b4⟩ := hs _ _ _ h
  rcases callX_some b4 with ⟨d, c1, c2⟩ | ⟨x, c1, c2⟩
  · exact .inl ⟨e, by simp only [sExpr, eCall, b1, bd, b2, b3, if_true, hq _ _ c1, toF], c2⟩
  · exact .inr (.inr ⟨x, by simp only [sExpr, eCall, b1, bd, b2, b3, if_true, hq _ _ c1, toF], c2⟩)
def sRetCallK (q : Qf) (vs : QA) : QC := fun e _ => vs e fun ds => q ds
theorem cRetCall {q : Qf} {F : Fn} (hq : Lq q F) (hs : WOk ms vs n) : COk (sRet (eCall n F ms)) (sRetCallK q vs) := fun e k o h => by
  obtain ⟨rs, ds, b1, b2, b3, b4⟩ := hs _ _ _ h
  obtain ⟨e', b5⟩ := nowL_escL b2
  have := hq _ _ b4
  cases o with
  | rt d => exact .inr (.inl ⟨d, e', by simp only [sRet, eCall, b1, bd, b5, b3, if_true, this, toF, esc], rfl⟩)
  | ex x => exact .inr (.inr ⟨x, by simp only [sRet, eCall, b1, bd, b5, b3, if_true, this, toF, esc], rfl⟩)
/-! ### targets -/
def gDK (i : Nat) : QG := fun d e k => k (setS i (.fz d) e)
theorem gD (i : Nat) : GOk (stD i) (gDK i) := fun d e k o h => ⟨_, by simp only [stD, setS_eq], h⟩
variable {tg1 tg2 tg3 : D → Ev Unit} {G2 G3 : QG}
def gT2K (g1 g2 : QG) : QG := fun d e k => D.kT (fun xs => List.rec none (fun a t _ => List.rec none (fun b t2 _ => List.rec (g1 a e fun e1 => g2 b e1 k) (fun _ _ _ => none) t2) t) xs) d
theorem tup2_some {xs : List D} {F : D → D → O} {o : Qo} (h : (List.rec none (fun a t _ => List.rec none (fun b t2 _ => List.rec (F a b) (fun _ _ _ => none) t2) t) xs : O) = some o) : ∃ a b, xs = [a, b] ∧ F a b = some o := by
  match xs, h with
  | [], h => cases h
  | [a], h => cases h
  | [a, b], h => exact ⟨a, b, rfl, h⟩
  | _ :: _ :: _ :: _, h => cases h
theorem gT2 (h1 : GOk tg1 G1) (h2 : GOk tg2 G2) : GOk (tgT [tg1, tg2]) (gT2K G1 G2) := fun d e k o h => by
  obtain ⟨xs, rfl, h⟩ := kT_some h
  obtain ⟨x, y, rfl, h⟩ := tup2_some h
  obtain ⟨e1, k1, h⟩ := h1 _ _ _ _ h
  obtain ⟨e2, k2, h⟩ := h2 _ _ _ _ h
  exact ⟨e2, by simp only [tgT, List.length_cons, List.length_nil, if_true, runT, k1, bd, k2], h⟩
def gT3K (g1 g2 g3 : QG) : QG := fun d e k => D.kT (fun xs => List.rec none (fun a t _ => List.rec none (fun b t2 _ => List.rec none (fun c t3 _ => List.rec (g1 a e fun e1 => g2 b e1 fun e2 => g3 c e2 k) (fun _ _ _ => none) t3) t2) t) xs) d
theorem gT3 (h1 : GOk tg1 G1) (h2 : GOk tg2 G2) (h3 : GOk tg3 G3) : GOk (tgT [tg1, tg2, tg3]) (gT3K G1 G2 G3) := fun d e k o h => by
  obtain ⟨xs, rfl, h⟩ := kT_some h
  match xs, h with
  | [], h => cases h
  | [a], h => cases h
  | [a, b], h => cases h
  | [a, b, c], h =>
    obtain ⟨e1, k1, h⟩ := h1 _ _ _ _ h
    obtain ⟨e2, k2, h⟩ := h2 _ _ _ _ h
    obtain ⟨e3, k3, h⟩ := h3 _ _ _ _ h
    exact ⟨e3, by simp only [tgT, List.length_cons, List.length_nil, if_true, runT, k1, bd, k2, k3], h⟩
  | _ :: _ :: _ :: _ :: _, h => cases h
abbrev Q3 := D → D → D → (D → O) → O
def P3 (q : Q3) : Prop := ∀ c k d kk o, q c k d kk = some o → ∃ c', stC c k d = some c' ∧ kk c' = some o
def gSK (q : Q3) (i : Nat) (v : QD) : QG := fun d e k => v e fun key => sK (fun _ => none) (fun c => q c key d fun c' => k (setS i (.ow c') e)) i e
theorem gS {q : Q3} {i : Nat} (hq : P3 q) (hm : DOk m v) : GOk (tgS i m) (gSK q i v) := fun d e k o h => by
  obtain ⟨r, kk, h1, h2, h⟩ := hm _ _ _ h
  rcases sK_some h with ⟨c, h3, h4⟩ | ⟨c, h3, h4⟩
  · cases h4
  · obtain ⟨c', k1, k2⟩ := hq _ _ _ _ _ h4
    exact ⟨_, by simp only [tgS, h3, h1, bd, wrS, h2, k1, setS_eq], k2⟩
/-! ### methods -/
abbrev QM := D → List D → (D → O) → O
def MOk (isL : Bool) (f : D → List D → Option (D × D)) (q : QM) : Prop := ∀ c ds k o, q c ds k = some o → tyD isL c = true ∧ ∃ d c', f c ds = some (d, c') ∧ k c' = some o
def sMetK (q : QM) (i : Nat) (vs : QA) : QC := fun e k => vs e fun ds => sK (fun _ => none) (fun c => q c ds fun c' => k (setS i (.ow c') e)) i e
theorem cMet {isL : Bool} {mf : D → List D → Option (D × D)} {q : QM} {i : Nat} (hq : MOk isL mf q) (hs : AOk ms vs n) : COk (sExpr (eMet isL i mf ms)) (sMetK q i vs) := fun e k o h => by
  obtain ⟨rs, ds, b1, b2, b3, b4⟩ := hs _ _ _ h
  rcases sK_some b4 with ⟨c, h3, h4⟩ | ⟨c, h3, h4⟩
  · cases h4
  · obtain ⟨ty, d, c', k1, k2⟩ := hq _ _ _ _ h4
    exact .inl ⟨_, by simp only [sExpr, eMet, h3, ty, if_true, b1, bd, b2, k1, setS_eq], k2⟩
def metAt (q : QM) (i : Nat) (ds : List D) (e : En) (k : En → O) : O := sK (fun _ => none) (fun c => q c ds fun c' => k (setS i (.ow c') e)) i e
def sMetVK (q : QM) (i j : Nat) : QC := fun e k => sK (fun d => metAt q i [d] e k) (fun d => metAt q i [d] (setS j (.fz d) e) k) j e
theorem cMetV {isL : Bool} {mf : D → List D → Option (D × D)} {q : QM} {i j : Nat} (hq : MOk isL mf q) : COk (sExpr (eMet isL i mf (aCons (eVar j) aNil))) (sMetVK q i j) := fun e k o h => by
  rcases sK_some h with ⟨d, h1, h2⟩ | ⟨d, h1, h2⟩
  · rcases sK_some h2 with ⟨c, h3, h4⟩ | ⟨c, h3, h4⟩
    · cases h4
    · obtain ⟨ty, d', c', k1, k2⟩ := hq _ _ _ _ h4
      exact .inl ⟨_, by simp only [sExpr, eMet, h3, ty, if_true, aCons, aNil, eVar, h1, bd, escL, esc, k1, setS_eq], k2⟩
  · rcases sK_some h2 with ⟨c, h3, h4⟩ | ⟨c, h3, h4⟩
    · cases h4
    · obtain ⟨ty, d', c', k1, k2⟩ := hq _ _ _ _ h4
      rw [setS_eq] at h3
      rw [setS_eq j] at k2
      have hl := (List.getElem?_eq_some_iff.mp h1).1
      have ne : j ≠ i := fun z => by
        subst z
        rw [List.getElem?_set_self hl] at h3
        cases h3
      have h5 : e[i]? = some (.ow c) := by rwa [List.getElem?_set_ne ne] at h3
      rw [setS_eq] at k2
      exact .inl ⟨(e.set j (.fz d)).set i (.ow c'), by simp only [sExpr, eMet, h5, ty, if_true, aCons, aNil, eVar, h1, bd, escL, esc, h3, k1], k2⟩
/-! ### a, b = x, y -/
def rS (w : QR) : En → (Slot → O) → O := fun e k => w e (fun d => k (.fz d)) (fun d => k (.ow d))
theorem rS_some (hm : ROk m w) {e : En} {k : Slot → O} {o : Qo} (h : rS w e k = some o) : ∃ r r' sl, m (St e) = some (.ok r (St e)) ∧ (∀ rs rs' s2, resL rs (St e) = some (rs', s2) → resL (r :: rs) (St e) = some (r' :: rs', s2)) ∧ (∀ i e', stR i r' (St e') = some (.ok () (St (setS i sl e')))) ∧ k sl = some o := by
  rcases hm _ _ _ _ h with ⟨r, d, h1, h2, h3, h4⟩ | ⟨d, h1, h4⟩
  · refine ⟨r, .fz d, .fz d, h1, fun rs rs' s2 q => ?_, fun i e' => by simp only [stR, esc, setS_eq], h4⟩
    cases r with
    | fr d0 => exact absurd rfl (h2 d0)
    | fz d0 => simp only [resL, h3, q]
    | pk i => simp only [resL, h3, q]
  · exact ⟨.fr d, .fr d, .ow d, h1, fun rs rs' s2 q => by simp only [resL, q], fun i e' => by simp only [stR, setS_eq], h4⟩
def sPar2K (i j : Nat) (wa wb : QR) : QC := fun e k => rS wa e fun s1 => rS wb e fun s2 => k (setS j s2 (setS i s1 e))
theorem cPar2 {i j : Nat} (ha : ROk a wa) (hb : ROk b wb) : COk (sPar2 i j (aCons a (aCons b aNil))) (sPar2K i j wa wb) := fun e k o h => by
  obtain ⟨r1, r1', s1, a1, a2, a3, h⟩ := rS_some ha h
  obtain ⟨r2, r2', s2, b1, b2, b3, h⟩ := rS_some hb h
  have q := a2 _ _ _ (b2 [] [] _ rfl)
  exact .inl ⟨_, by simp only [sPar2, aCons, aNil, a1, b1, bd, q, a3, b3], h⟩
def sPar3K (i j l : Nat) (wa wb wc : QR) : QC := fun e k => rS wa e fun s1 => rS wb e fun s2 => rS wc e fun s3 => k (setS l s3 (setS j s2 (setS i s1 e)))
theorem cPar3 {i j l : Nat} {cc : Ev R} {wc : QR} (ha : ROk a wa) (hb : ROk b wb) (hc : ROk cc wc) : COk (sPar3 i j l (aCons a (aCons b (aCons cc aNil)))) (sPar3K i j l wa wb wc) := fun e k o h => by
  obtain ⟨r1, r1', s1, a1, a2, a3, h⟩ := rS_some ha h
  obtain ⟨r2, r2', s2, b1, b2, b3, h⟩ := rS_some hb h
  obtain ⟨r3, r3', s3, c1, c2, c3, h⟩ := rS_some hc h
  have q := a2 _ _ _ (b2 _ _ _ (c2 [] [] _ rfl))
  exact .inl ⟨_, by simp only [sPar3, aCons, aNil, a1, b1, c1, bd, q, a3, b3, c3], h⟩
/-! ### what is gone through -/
def seqK (d : D) (k : List D → O) : O := D.kS none (fun _ => none) (fun _ => none) (fun _ => none) k k (fun _ _ => none) (fun _ _ => none) k d
theorem seqK_some {d : D} {k : List D → O} {o : Qo} (h : seqK d k = some o) : ∃ ds, (d = .lst ds ∨ d = .tup ds ∨ d = .ktup ds) ∧ k ds = some o := by
  cases d with
  | lst ds => exact ⟨ds, .inl rfl, h⟩
  | tup ds => exact ⟨ds, .inr (.inl rfl), h⟩
  | ktup ds => exact ⟨ds, .inr (.inr rfl), h⟩
  | _ => cases h
/-- a source that changes no slot -/
def JOk (m : Ev Src) (q : QA) : Prop := ∀ e k o, q e k = some o → ∃ ds, m (St e) = some (.ok (.con ds) (St e)) ∧ k ds = some o
def iP (q : QA) : QI := fun e k => q e fun ds => k ds e
theorem iOfJ {it : Ev Src} {q : QA} (h : JOk it q) : IOk it (iP q) := fun e k o z => by
  obtain ⟨ds, h1, h2⟩ := h _ _ _ z
  exact ⟨ds, e, h1, h2⟩
def iSeqK (w : QR) : QA := fun e k => w e (fun d => seqK d k) (fun d => seqK d k)
theorem jSeq (hm : ROk m w) : JOk (iSeq m) (iSeqK w) := fun e k o h => by
  rcases hm _ _ _ _ h with ⟨r, d, h1, h2, h3, h4⟩ | ⟨d, h1, h4⟩
  · obtain ⟨ds, k1, k2⟩ := seqK_some h4
    refine ⟨ds, ?_, k2⟩
    rcases k1 with rfl | rfl | rfl <;> simp only [iSeq, h1, bd, h3]
  · obtain ⟨ds, k1, k2⟩ := seqK_some h4
    refine ⟨ds, ?_, k2⟩
    rcases k1 with rfl | rfl | rfl <;> simp only [iSeq, h1, bd, esc]
def iSeqVK (j : Nat) : QI := fun e k => sK (fun d => seqK d fun ds => k ds e) (fun d => seqK d fun ds => k ds (setS j (.fz d) e)) j e
theorem iSeqV {j : Nat} : IOk (iSeq (eVar j)) (iSeqVK j) := fun e k o h => by
  rcases sK_some h with ⟨d, h1, h2⟩ | ⟨d, h1, h2⟩
  · obtain ⟨ds, k1, k2⟩ := seqK_some h2
    refine ⟨ds, e, ?_, k2⟩
    rcases k1 with rfl | rfl | rfl <;> simp only [iSeq, eVar, h1, bd, esc]
  · obtain ⟨ds, k1, k2⟩ := seqK_some h2
    refine ⟨ds, _, ?_, k2⟩
    rcases k1 with rfl | rfl | rfl <;> simp only [iSeq, eVar, h1, bd, esc, setS_eq]
def rngK (n : Nat) : List D := Nat.rec (motive := fun _ => List D → List D) (fun acc => acc) (fun m ih acc => ih (.int (.ofNat m) :: acc)) n []
theorem rngK_eq (n : Nat) : rngK n = rngD 0 n := by
  have : ∀ n acc, (Nat.rec (motive := fun _ => List D → List D) (fun acc => acc) (fun m ih acc => ih (.int (.ofNat m) :: acc)) n acc : List D) = rngD 0 n ++ acc := by
    intro n
    induction n with
    | zero => intro acc; rfl
    | succ n ih =>
      intro acc
      show (Nat.rec (motive := fun _ => List D → List D) (fun acc => acc) (fun m ih acc => ih (.int (.ofNat m) :: acc)) n (.int (.ofNat n) :: acc) : List D) = _
      rw [ih]
      simp [rngD, List.range_succ]
  have := this n []
  simpa [rngK] using this
def iRngK (va : QD) : QA := fun e k => va e fun d => D.kI (fun j => Int.rec (fun n => bK (k (rngK n)) none (Nat.ble n 1000000)) (fun _ => none) j) d
theorem jRng (ha : DOk a va) : JOk (iRng1 (aCons a aNil)) (iRngK va) := fun e k o h => by
  obtain ⟨r, d, h1, h2, h⟩ := ha _ _ _ h
  obtain ⟨j, e5, h5⟩ := kI_some h
  subst e5
  cases j with
  | negSucc n => cases h5
  | ofNat n =>
    have h5 : bK (k (rngK n)) none (Nat.ble n 1000000) = some o := h5
    rw [bK_eq] at h5
    split at h5
    · rename_i hn
      rw [Nat.ble_eq] at hn
      rw [rngK_eq] at h5
      refine ⟨_, ?_, h5⟩
      simp only [iRng1, aCons, aNil, h1, bd, nowL, h2]
      rw [if_pos (by constructor <;> simp <;> omega)]
      simp
    · cases h5
def enK (ds : List D) : List D := List.rec (motive := fun _ => Nat → List D) (fun _ => []) (fun d _ ih n => .tup [.int (.ofNat n), d] :: ih (Nat.succ n)) ds 0
theorem enK_eq (ds : List D) : enK ds = enD 0 ds := by
  have : ∀ (ds : List D) n, (List.rec (motive := fun _ => Nat → List D) (fun _ => []) (fun d _ ih n => .tup [.int (.ofNat n), d] :: ih (Nat.succ n)) ds n : List D) = enD n ds := by
    intro ds
    induction ds with
    | nil => intro n; rfl
    | cons d ds ih => intro n; show _ :: _ = _; rw [ih]; rfl
  exact this ds 0
def sqK (d : D) (k : List D → O) : O := D.kS none (fun _ => none) (fun _ => none) (fun _ => none) k k (fun _ _ => none) (fun _ _ => none) (fun _ => none) d
theorem sqK_some {d : D} {k : List D → O} {o : Qo} (h : sqK d k = some o) : ∃ ds, (d = .lst ds ∨ d = .tup ds) ∧ k ds = some o := by
  cases d with
  | lst ds => exact ⟨ds, .inl rfl, h⟩
  | tup ds => exact ⟨ds, .inr rfl, h⟩
  | _ => cases h
def iEnK (w : QR) : QA := fun e k => w e (fun d => sqK d fun ds => k (enK ds)) (fun d => sqK d fun ds => k (enK ds))
theorem jEn (hm : ROk m w) : JOk (iEn (aCons m aNil)) (iEnK w) := fun e k o h => by
  rcases hm _ _ _ _ h with ⟨r, d, h1, h2, h3, h4⟩ | ⟨d, h1, h4⟩
  · obtain ⟨ds, k1, k2⟩ := sqK_some h4
    rw [enK_eq] at k2
    refine ⟨_, ?_, k2⟩
    rcases k1 with rfl | rfl <;> simp only [iEn, aCons, aNil, h1, bd, escL, h3]
  · obtain ⟨ds, k1, k2⟩ := sqK_some h4
    rw [enK_eq] at k2
    refine ⟨_, ?_, k2⟩
    rcases k1 with rfl | rfl <;> simp only [iEn, aCons, aNil, h1, bd, escL, esc]
def iEnVK (j : Nat) : QI := fun e k => sK (fun d => sqK d fun ds => k (enK ds) e) (fun d => sqK d fun ds => k (enK ds) (setS j (.fz d) e)) j e
theorem iEnV {j : Nat} : IOk (iEn (aCons (eVar j) aNil)) (iEnVK j) := fun e k o h => by
  rcases sK_some h with ⟨d, h1, h2⟩ | ⟨d, h1, h2⟩
  · obtain ⟨ds, k1, k2⟩ := sqK_some h2
    rw [enK_eq] at k2
    refine ⟨_, e, ?_, k2⟩
    rcases k1 with rfl | rfl <;> simp only [iEn, aCons, aNil, eVar, h1, bd, escL, esc]
  · obtain ⟨ds, k1, k2⟩ := sqK_some h2
    rw [enK_eq] at k2
    refine ⟨_, _, ?_, k2⟩
    rcases k1 with rfl | rfl <;> simp only [iEn, aCons, aNil, eVar, h1, bd, escL, esc, setS_eq]
def zipK (xs : List D) : List D → List D := List.rec (motive := fun _ => List D → List D) (fun _ => []) (fun a _ ih ys => List.rec [] (fun b t _ => .tup [a, b] :: ih t) ys) xs
theorem zipK_eq : ∀ (xs ys : List D), zipK xs ys = zipD xs ys
  | [], ys => by cases ys <;> rfl
  | a :: as, [] => rfl
  | a :: as, b :: bs => by
    show D.tup [a, b] :: zipK as bs = _
    rw [zipK_eq as bs]; rfl
/-- two lists, or two tuples -/
def zpK (d d2 : D) (k : List D → O) : O := D.kS none (fun _ => none) (fun _ => none) (fun _ => none) (fun xs => D.kS none (fun _ => none) (fun _ => none) (fun _ => none) (fun ys => k (zipK xs ys)) (fun _ => none) (fun _ _ => none) (fun _ _ => none) (fun ys => k (zipK xs ys)) d2) (fun xs => D.kL (fun ys => k (zipK xs ys)) d2) (fun _ _ => none) (fun _ _ => none)
  (fun xs => D.kS none (fun _ => none) (fun _ => none) (fun _ => none) (fun ys => k (zipK xs ys)) (fun _ => none) (fun _ _ => none) (fun _ _ => none) (fun ys => k (zipK xs ys)) d2) d
theorem zpK_some {d d2 : D} {k : List D → O} {o : Qo} (h : zpK d d2 k = some o) : ∃ xs ys, ((d = .lst xs ∧ d2 = .lst ys) ∨ (tupD d = some xs ∧ tupD d2 = some ys)) ∧ k (zipD xs ys) = some o := by
  have key : ∀ {d : D} {k : List D → O}, D.kS none (fun _ => none) (fun _ => none) (fun _ => none) (fun ys => k ys) (fun _ => none) (fun _ _ => none) (fun _ _ => none) (fun ys => k ys) d = some o → ∃ ys, tupD d = some ys ∧ k ys = some o := by
    intro d k h
    cases d with
    | tup ys => exact ⟨ys, rfl, h⟩
    | ktup ys => exact ⟨ys, rfl, h⟩
    | _ => cases h
  cases d with
  | lst xs =>
    obtain ⟨ys, rfl, h⟩ := kL_some (k := fun ys => k (zipK xs ys)) h
    exact ⟨xs, ys, .inl ⟨rfl, rfl⟩, by rw [← zipK_eq]; exact h⟩
  | tup xs =>
    obtain ⟨ys, h1, h⟩ := key (d := d2) (k := fun ys => k (zipK xs ys)) h
    exact ⟨xs, ys, .inr ⟨rfl, h1⟩, by rw [← zipK_eq]; exact h⟩
  | ktup xs =>
    obtain ⟨ys, h1, h⟩ := key (d := d2) (k := fun ys => k (zipK xs ys)) h
    exact ⟨xs, ys, .inr ⟨rfl, h1⟩, by rw [← zipK_eq]; exact h⟩
  | _ => cases h
def ls2 (ds : List D) (F : D → D → O) : O := List.rec none (fun a t _ => List.rec none (fun b t2 _ => List.rec (F a b) (fun _ _ _ => none) t2) t) ds
def iZpK (vs : QA) : QA := fun e k => vs e fun ds => ls2 ds fun a b => zpK a b k
theorem jZp (hs : AOk ms vs n) : JOk (iZp ms) (iZpK vs) := fun e k o h => by
  obtain ⟨rs, ds, b1, b2, b3, b4⟩ := hs _ _ _ h
  obtain ⟨x, y, rfl, h⟩ := tup2_some b4
  obtain ⟨xs, ys, k1, k2⟩ := zpK_some h
  refine ⟨_, ?_, k2⟩
  rcases k1 with ⟨rfl, rfl⟩ | ⟨k3, k4⟩
  · simp only [iZp, b1, bd, b2]
  · simp only [iZp, b1, bd, b2]
    cases x <;> simp [tupD] at k3 <;> cases y <;> simp [tupD] at k4 <;> subst k3 <;> subst k4 <;> rfl
/-! ### loops -/
def forK (t : QG) (b : QC) (ds : List D) : En → (En → O) → O := List.rec (motive := fun _ => En → (En → O) → O) (fun e k => k e) (fun d _ ih e k => t d e fun e1 => b e1 fun e2 => ih e2 k) ds
theorem forK_ok (hg : GOk tg G1) (hb : COk sb qb) : ∀ (ds : List D) e kn o, forK G1 qb ds e kn = some o → (∃ e', forC tg sb ds (St e) = some (.ok .nx (St e')) ∧ kn e' = some o) ∨ (∃ d e', forC tg sb ds (St e) = some (.ok (.rt d) (St e')) ∧ o = .rt d) ∨ (∃ x, forC tg sb ds (St e) = some (.ex x []) ∧ o = .ex x)
  | [], e, kn, o, h => .inl ⟨e, rfl, h⟩
  | d :: ds, e, kn, o, h => by
    obtain ⟨e1, h1, h⟩ := hg d _ _ _ h
    rcases hb _ _ _ h with ⟨e2, h2, h⟩ | ⟨d', e2, h2, h⟩ | ⟨x, h2, h⟩
    · have e0 : forC tg sb (d :: ds) (St e) = forC tg sb ds (St e2) := by simp only [forC, h1, bd, h2]
      rw [e0]
      exact forK_ok hg hb ds e2 kn o h
    · exact .inr (.inl ⟨d', e2, by simp only [forC, h1, bd, h2], h⟩)
    · exact .inr (.inr ⟨x, by simp only [forC, h1, bd, h2], h⟩)
def sForK (it : QI) (t : QG) (b : QC) : QC := fun e k => it e fun ds e1 => forK t b ds e1 k
theorem cFor {it : Ev Src} {qi : QI} (hi : IOk it qi) (hg : GOk tg G1) (hb : COk sb qb) : COk (sFor it tg sb) (sForK qi G1 qb) := fun e k o h => by
  obtain ⟨ds, e1, h1, h⟩ := hi _ _ _ h
  have e0 : sFor it tg sb (St e) = forC tg sb ds (St e1) := by simp only [sFor, h1, bd]
  rw [e0]
  exact forK_ok hg hb ds e1 k o h
def whK (t : QT) (b : QC) (n : Nat) : QC := Nat.rec (motive := fun _ => QC) (fun _ _ => none) (fun _ ih e k => t e (b e fun e1 => ih e1 k) (k e)) n
theorem whK_ok (ht : TOk c t) (hb : COk sb qb) : ∀ n, COk (whC c sb n) (whK t qb n)
  | 0 => fun e k o h => nomatch h
  | n + 1 => fun e k o h => by
    obtain ⟨z, h1, h⟩ := ht _ _ _ _ h
    cases z with
    | false => exact .inl ⟨e, by simp [whC, h1, bd], h⟩
    | true =>
      rcases hb _ _ _ h with ⟨e2, h2, h⟩ | ⟨d', e2, h2, h⟩ | ⟨x, h2, h⟩
      · have e0 : whC c sb (n + 1) (St e) = whC c sb n (St e2) := by simp [whC, h1, bd, h2]
        rw [e0]
        exact whK_ok ht hb n _ _ _ h
      · exact .inr (.inl ⟨d', e2, by simp [whC, h1, bd, h2], h⟩)
      · exact .inr (.inr ⟨x, by simp [whC, h1, bd, h2], h⟩)
theorem cWh {n : Nat} (ht : TOk c t) (hb : COk sb qb) : COk (sWh n c sb) (whK t qb n) := whK_ok ht hb n
end Ev
end
end
section
set_option Elab.async false
set_option linter.all false
set_option maxRecDepth 100000
set_option maxHeartbeats 4000000
/-! Qc: quick forms: comprehensions, expressions that let a slot's object stay, whole defs. -/
noncomputable section
namespace Ev
open PySem PySem.Spec PyProof.Rows L2
variable {m a b : Ev R} {w wa wb : QR} {v va vb : QD} {ms : Ev (List R)} {vs : QA} {n : Nat} {f g : List D → Option R} {q1 : Q1} {q2 : Q2} {t2 : T2} {t ta tb : QT} {c ca cb : Ev Bool} {sa sb : Ev Ct} {qa qb : QC} {tg : D → Ev Unit} {G1 : QG} {ws : List Nat}
/-! ### comprehensions -/
theorem wipe_len (e : En) : ∀ ws, (wipeE e ws).length = e.length
  | [] => rfl
  | v :: vs => by simp [wipeE, wipe_len e vs]
theorem wipe_get (e : En) : ∀ (ws : List Nat) (i : Nat), (wipeE e ws)[i]? = if i ∈ ws then (if i < e.length then some .no else none) else e[i]?
  | [], i => by simp [wipeE]
  | v :: vs, i => by
    simp only [wipeE, List.getElem?_set, wipe_len, wipe_get e vs i, List.mem_cons]
    by_cases h : v = i
    · subst h; simp
    · simp [h, Ne.symm h]
theorem wipe_same {e e1 : En} {ws : List Nat} (hl : e1.length = e.length) (h : ∀ i, i ∉ ws → e1[i]? = e[i]?) : wipeE e1 ws = wipeE e ws := by
  apply List.ext_getElem?
  intro i
  rw [wipe_get, wipe_get, hl]
  by_cases q : i ∈ ws
  · simp [q]
  · simp [q, h i q]
theorem wipe_wipe (e : En) (ws : List Nat) : wipeE (wipeE e ws) ws = wipeE e ws := wipe_same (wipe_len e ws) fun i h => by rw [wipe_get]; simp [h]
theorem back_get (e1 : En) : ∀ (ws : List Nat) (e : En) (i : Nat), e.length = e1.length → (backE e1 ws e)[i]? = if i ∈ ws then e1[i]? else e[i]?
  | [], e, i, h => by simp [backE]
  | v :: vs, e, i, h => by
    simp only [backE]
    rw [back_get e1 vs _ i (by simpa using h)]
    by_cases q : i ∈ vs
    · simp [q]
    · simp only [q, if_false, List.mem_cons, or_false]
      rw [List.getElem?_set]
      by_cases z : v = i
      · subst z
        by_cases hl : v < e.length
        · simp [hl, List.getD, List.getElem?_eq_getElem (h ▸ hl)]
        · simp [hl, List.getElem?_eq_none (by omega : e1.length ≤ v)]
      · simp [z, Ne.symm z]
theorem back_wipe (e : En) (ws : List Nat) : backE e ws (wipeE e ws) = e := by
  apply List.ext_getElem?
  intro i
  rw [back_get e ws _ i (wipe_len e ws), wipe_get]
  by_cases q : i ∈ ws <;> simp [q]
/-- a target that changes the slots ws alone -/
def HOk (ws : List Nat) (tg : D → Ev Unit) (G1 : QG) : Prop := ∀ d e k o, G1 d e k = some o → ∃ e', tg d (St e) = some (.ok () (St e')) ∧ k e' = some o ∧ wipeE e' ws = wipeE e ws
theorem hD (i : Nat) (hi : i ∈ ws := by decide) : HOk ws (stD i) (gDK i) := fun d e k o h => ⟨_, by simp only [stD, setS_eq], h, wipe_same (by simp [setS_eq]) fun j hj => by
  rw [setS_eq, List.getElem?_set_ne]; intro z; subst z; exact hj hi⟩
variable {tg1 tg2 tg3 : D → Ev Unit} {G2 G3 : QG}
theorem hT2 (h1 : HOk ws tg1 G1) (h2 : HOk ws tg2 G2) : HOk ws (tgT [tg1, tg2]) (gT2K G1 G2) := fun d e k o h => by
  obtain ⟨xs, rfl, h⟩ := kT_some h
  obtain ⟨x, y, rfl, h⟩ := tup2_some h
  obtain ⟨e1, k1, h, w1⟩ := h1 _ _ _ _ h
  obtain ⟨e2, k2, h, w2⟩ := h2 _ _ _ _ h
  exact ⟨e2, by simp only [tgT, List.length_cons, List.length_nil, if_true, runT, k1, bd, k2], h, w2.trans w1⟩
def wipeK (ws : List Nat) (e : En) : En := List.rec (motive := fun _ => En) e (fun v _ ih => setS v .no ih) ws
theorem wipeK_eq (e : En) : ∀ ws, wipeK ws e = wipeE e ws
  | [] => rfl
  | v :: vs => by
    show setS v .no (wipeK vs e) = _
    rw [wipeK_eq e vs, setS_eq]; rfl
def okK (ws : List Nat) (e : En) (k : O) : O := List.rec (motive := fun _ => O → O) (fun k => k) (fun v _ ih k => Slot.rec (ih k) (fun _ => ih k) (fun _ => none) (nthS v e)) ws k
theorem nthS_eq : ∀ (i : Nat) (e : En), nthS i e = e.getD i .no
  | 0, [] => rfl
  | 0, a :: t => rfl
  | i + 1, [] => rfl
  | i + 1, a :: t => by
    show nthS i t = _
    rw [nthS_eq i t]; simp
theorem okK_some {e : En} {k : O} {o : Qo} : ∀ {ws : List Nat}, okK ws e k = some o → okV e ws = true ∧ k = some o
  | [], h => ⟨rfl, h⟩
  | v :: vs, h => by
    have h : (Slot.rec (okK vs e k) (fun _ => okK vs e k) (fun _ => none) (nthS v e) : O) = some o := h
    rw [nthS_eq] at h
    simp only [okV]
    generalize e.getD v .no = s at h
    cases s with
    | ow d => cases h
    | no =>
      obtain ⟨h1, h2⟩ := okK_some (ws := vs) h
      exact ⟨by simp [h1], h2⟩
    | fz d =>
      obtain ⟨h1, h2⟩ := okK_some (ws := vs) h
      exact ⟨by simp [h1], h2⟩
def lenK (ds : List D) : Nat := List.rec (motive := fun _ => Nat → Nat) (fun n => n) (fun _ _ ih n => ih (Nat.succ n)) ds 0
theorem lenK_eq (ds : List D) : lenK ds = ds.length := by
  have : ∀ (ds : List D) n, (List.rec (motive := fun _ => Nat → Nat) (fun n => n) (fun _ _ ih n => ih (Nat.succ n)) ds n : Nat) = ds.length + n := by
    intro ds
    induction ds with
    | nil => intro n; simp
    | cons d ds ih => intro n; show (List.rec (motive := fun _ => Nat → Nat) (fun n => n) (fun _ _ ih n => ih (Nat.succ n)) ds (n + 1) : Nat) = _; rw [ih]; simp; omega
  exact this ds 0
def compK (t : QG) (tt : QT) (te : QR) (e0 : En) (ds : List D) : (List D → O) → O := List.rec (motive := fun _ => (List D → O) → O) (fun k => k []) (fun d _ ih k => t d e0 fun e1 => tt e1 (te e1 (fun x => ih fun r => k (x :: r)) (fun x => ih fun r => k (x :: r))) (ih k)) ds
theorem compK_ok {te : Ev R} {wt : QR} (hg : HOk ws tg G1) (ht : TOk c t) (he : ROk te wt) {e0 : En} (h0 : wipeE e0 ws = e0) : ∀ (ds : List D) (kk : Nat) (acc : List D) (k : List D → O) (o : Qo), ds.length + kk ≤ szL → compK G1 t wt e0 ds k = some o → ∃ xs, compC ws tg c te ds kk acc (St e0) = some (.ok (xs.reverse ++ acc) (St e0)) ∧ k xs = some o
  | [], kk, acc, k, o, _, h => ⟨[], rfl, h⟩
  | d :: ds, kk, acc, k, o, hl, h => by
    simp only [List.length_cons] at hl
    obtain ⟨e1, g1, h, g2⟩ := hg d _ _ _ h
    obtain ⟨z, t1, h⟩ := ht _ _ _ _ h
    have w1 : wipeS ws (St e1) = St e0 := by simp only [wipeS, g2, h0]
    cases z with
    | false =>
      obtain ⟨xs, k1, k2⟩ := compK_ok hg ht he h0 ds (kk + 1) acc k o (by omega) h
      exact ⟨xs, by simp [compC, g1, nxt, t1, w1, k1], k2⟩
    | true =>
      rcases he _ _ _ _ h with ⟨r, d', r1, r2, r3, r4⟩ | ⟨d', r1, r4⟩
      · obtain ⟨xs, k1, k2⟩ := compK_ok hg ht he h0 ds (kk + 1) (d' :: acc) _ o (by omega) r4
        refine ⟨d' :: xs, ?_, k2⟩
        simp only [compC, g1, nxt, t1, if_true, r1, r3, w1]
        rw [if_pos (by omega), k1]
        simp
      · obtain ⟨xs, k1, k2⟩ := compK_ok hg ht he h0 ds (kk + 1) (d' :: acc) _ o (by omega) r4
        refine ⟨d' :: xs, ?_, k2⟩
        simp only [compC, g1, nxt, t1, if_true, r1, esc, w1]
        rw [if_pos (by omega), k1]
        simp
def compAt (ws : List Nat) (t : QG) (tt : QT) (te : QR) (ds : List D) (e : En) (k : List D → O) : O := okK ws e (bK (compK t tt te (wipeK ws e) ds k) none (Nat.ble (lenK ds) 1000000))
theorem compAt_some {te : Ev R} {wt : QR} (hg : HOk ws tg G1) (ht : TOk c t) (he : ROk te wt) {ds : List D} {e : En} {k : List D → O} {o : Qo} (h : compAt ws G1 t wt ds e k = some o) : ∃ xs, okV e ws = true ∧ nxt (compC ws tg c te ds 0 [] (wipeS ws (St e))) (fun acc s2 => some (Out.ok (R.fr (.lst acc.reverse)) ⟨backE e ws s2.env, s2.g⟩)) = some (Out.ok (R.fr (.lst xs)) (St e)) ∧ k xs = some o := by
  obtain ⟨h1, h⟩ := okK_some h
  rw [bK_eq] at h
  split at h
  · rename_i hn
    rw [Nat.ble_eq, lenK_eq] at hn
    rw [wipeK_eq] at h
    obtain ⟨xs, k1, k2⟩ := compK_ok hg ht he (wipe_wipe e ws) ds 0 [] k o (by unfold szL; omega) h
    refine ⟨xs, h1, ?_, k2⟩
    have : wipeS ws (St e) = St (wipeE e ws) := rfl
    rw [this, k1]
    simp only [nxt, List.append_nil, List.reverse_reverse, back_wipe]
  · cases h
def kComp (ws : List Nat) (it : QA) (t : QG) (tt : QT) (te : QR) : QR := fun e _ kr => it e fun ds => compAt ws t tt te ds e fun xs => kr (.lst xs)
theorem rComp {te : Ev R} {wt : QR} {it : Ev Src} {qi : QA} (hi : JOk it qi) (hg : HOk ws tg G1) (ht : TOk c t) (he : ROk te wt) : ROk (eComp ws it tg c te) (kComp ws qi G1 t wt) := fun e kz kr o h => by
  obtain ⟨ds, h1, h⟩ := hi _ _ _ h
  obtain ⟨xs, k1, k2, k3⟩ := compAt_some hg ht he h
  exact .inr ⟨_, by simp only [eComp, h1, bd, k1, if_true, compD]; exact k2, k3⟩
/-! ### [.. for x in xs ..], xs a slot's own list that the turns leave alone -/
theorem compG_eq {te : Ev R} {wt : QR} {i : Nat} (hg : HOk ws tg G1) (ht : TOk c t) (he : ROk te wt) {e0 : En} (h0 : wipeE e0 ws = e0) {xs : List D} (hx : e0[i]? = some (.ow (.lst xs))) : ∀ (ds : List D) (pre : List D) (fu : Nat) (acc : List D) (k : List D → O) (o : Qo), xs = pre ++ ds → ds.length + pre.length < szL → ds.length < fu → compK G1 t wt e0 ds k = some o → ∃ ys, compG (.slot i) ws tg c te fu pre.length acc (St e0) = some (.ok (ys.reverse ++ acc) (St e0)) ∧ k ys = some o
  | [], pre, fu, acc, k, o, hp, _, hf, h => by
    match fu, hf with
    | fu + 1, hf =>
    refine ⟨[], ?_, h⟩
    have : xs[pre.length]? = none := by rw [hp]; simp
    simp [compG, srcAt, hx, this]
  | d :: ds, pre, fu, acc, k, o, hp, hl, hf, h => by
    match fu, hf with
    | fu + 1, hf =>
    simp only [List.length_cons] at hl hf
    have hd : xs[pre.length]? = some d := by rw [hp]; simp
    obtain ⟨e1, g1, h, g2⟩ := hg d _ _ _ h
    obtain ⟨z, t1, h⟩ := ht _ _ _ _ h
    have w1 : wipeS ws (St e1) = St e0 := by simp only [wipeS, g2, h0]
    have hp2 : xs = (pre ++ [d]) ++ ds := by rw [hp]; simp
    have hl2 : (pre ++ [d]).length = pre.length + 1 := by simp
    cases z with
    | false =>
      obtain ⟨ys, k1, k2⟩ := compG_eq hg ht he h0 hx ds (pre ++ [d]) fu acc k o hp2 (by omega) (by omega) h
      rw [hl2] at k1
      exact ⟨ys, by simp [compG, srcAt, hx, hd, g1, nxt, t1, w1, k1], k2⟩
    | true =>
      have hk : pre.length < szL := by omega
      rcases he _ _ _ _ h with ⟨r, d', r1, r2, r3, r4⟩ | ⟨d', r1, r4⟩
      · obtain ⟨ys, k1, k2⟩ := compG_eq hg ht he h0 hx ds (pre ++ [d]) fu (d' :: acc) _ o hp2 (by omega) (by omega) r4
        rw [hl2] at k1
        exact ⟨d' :: ys, by simp [compG, srcAt, hx, hd, g1, nxt, t1, w1, r1, r3, hk, k1], k2⟩
      · obtain ⟨ys, k1, k2⟩ := compG_eq hg ht he h0 hx ds (pre ++ [d]) fu (d' :: acc) _ o hp2 (by omega) (by omega) r4
        rw [hl2] at k1
        exact ⟨d' :: ys, by simp [compG, srcAt, hx, hd, g1, nxt, t1, w1, r1, esc, hk, k1], k2⟩
def kCompS (ws : List Nat) (i : Nat) (t : QG) (tt : QT) (te : QR) : QR := fun e _ kr => sK (fun _ => none) (fun d => D.kL (fun ds => compAt ws t tt te ds e fun xs => kr (.lst xs)) d) i e
theorem rCompS {te : Ev R} {wt : QR} {i : Nat} (hg : HOk ws tg G1) (ht : TOk c t) (he : ROk te wt) (hi : i ∉ ws := by decide) : ROk (eComp ws (iSlot i) tg c te) (kCompS ws i G1 t wt) := fun e kz kr o h => by
  rcases sK_some h with ⟨d, h1, h2⟩ | ⟨d, h1, h2⟩
  · cases h2
  · obtain ⟨ds, rfl, h⟩ := kL_some h2
    obtain ⟨ok, h⟩ := okK_some h
    rw [bK_eq] at h
    split at h
    · rename_i hn
      rw [Nat.ble_eq, lenK_eq] at hn
      rw [wipeK_eq] at h
      have hx : (wipeE e ws)[i]? = some (.ow (.lst ds)) := by rw [wipe_get]; simp [hi, h1]
      obtain ⟨ys, k1, k2⟩ := compG_eq hg ht he (wipe_wipe e ws) hx ds [] szL [] _ o rfl (by unfold szL; simp; omega) (by unfold szL; omega) h
      refine .inr ⟨_, ?_, k2⟩
      have hc : ws.contains i = false := by simpa using hi
      have e1 : iSlot i (St e) = some (.ok (.slot i) (St e)) := by simp only [iSlot, h1]
      have e2 : wipeS ws (St e) = St (wipeE e ws) := rfl
      simp only [eComp, e1, bd, ok, if_true, compD, hc, e2]
      have k1' : compG (.slot i) ws tg c te szL 0 [] (St (wipeE e ws)) = _ := k1
      simp only [Bool.false_eq_true, if_false, k1', nxt, List.append_nil, List.reverse_reverse, back_wipe]
    · cases h
/-! ### expressions behind which some slots' objects stay -/
abbrev QX := En → (D → En → O) → (D → En → O) → O
def XOk (m : Ev R) (w : QX) : Prop := ∀ e kz kr o, w e kz kr = some o → (∃ d e', m (St e) = some (.ok (.fz d) (St e')) ∧ kz d e' = some o) ∨ (∃ d e', m (St e) = some (.ok (.fr d) (St e')) ∧ kr d e' = some o)
abbrev QXs := En → (List D → En → O) → O
def XsOk (ms : Ev (List R)) (v : QXs) (n : Nat) : Prop := ∀ e k o, v e k = some o → ∃ rs ds e', ms (St e) = some (.ok rs (St e')) ∧ (∀ e2, escL rs (St e2) = some (ds, St e2)) ∧ ds.length = n ∧ k ds e' = some o
variable {wx wy : QX} {vx : QXs}
def kCompX (ws : List Nat) (it : QI) (t : QG) (tt : QT) (te : QR) : QX := fun e _ kr => it e fun ds e1 => compAt ws t tt te ds e1 fun xs => kr (.lst xs) e1
theorem zComp {te : Ev R} {wt : QR} {it : Ev Src} {qi : QI} (hi : IOk it qi) (hg : HOk ws tg G1) (ht : TOk c t) (he : ROk te wt) : XOk (eComp ws it tg c te) (kCompX ws qi G1 t wt) := fun e kz kr o h => by
  obtain ⟨ds, e1, h1, h⟩ := hi _ _ _ h
  obtain ⟨xs, k1, k2, k3⟩ := compAt_some hg ht he h
  exact .inr ⟨_, e1, by simp only [eComp, h1, bd, k1, if_true, compD]; exact k2, k3⟩
def keyK (ks : List Key) : List D := List.rec [] (fun k _ ih => (Sum.rec (fun n => D.int n) (fun x => D.str x) k : D) :: ih) ks
theorem keyK_eq : ∀ (ks : List Key), keyK ks = ks.map kD
  | [] => rfl
  | .inl n :: r => by
    show D.int n :: keyK r = _
    rw [keyK_eq r]; rfl
  | .inr n :: r => by
    show D.str n :: keyK r = _
    rw [keyK_eq r]; rfl
def D.kK (k : List Key → List D → O) (d : D) : O := D.rec (motive_1 := fun _ => O) (motive_2 := fun _ => Unit) none (fun _ => none) (fun _ => none) (fun _ => none) (fun _ _ => none) (fun _ _ => none) (fun ks vs _ => k ks vs) (fun _ _ _ => none) (fun _ => none) (fun _ => none) (fun _ _ => none) () (fun _ _ _ _ => ()) d
theorem kK_some {k : List Key → List D → O} {d : D} {o : Qo} (h : D.kK k d = some o) : ∃ ks vs, d = .dK ks vs ∧ k ks vs = some o := by
  cases d <;> first | exact ⟨_, _, rfl, h⟩ | cases h
def kCompKX (i : Nat) (ws : List Nat) (t : QG) (tt : QT) (te : QR) : QX := fun e _ kr => sK (fun _ => none) (fun d => D.kK (fun ks vs => (fun e1 => compAt ws t tt te (keyK ks) e1 fun xs => kr (.lst xs) e1) (setS i (.fz (.dK ks vs)) e)) d) i e
theorem zCompK {i : Nat} {te : Ev R} {wt : QR} (hg : HOk ws tg G1) (ht : TOk c t) (he : ROk te wt) : XOk (eCompK i ws tg c te) (kCompKX i ws G1 t wt) := fun e kz kr o h => by
  rcases sK_some h with ⟨d, h1, h2⟩ | ⟨d, h1, h2⟩
  · cases h2
  · obtain ⟨ks, ds, rfl, h⟩ := kK_some h2
    rw [setS_eq, keyK_eq] at h
    obtain ⟨xs, k1, k2, k3⟩ := compAt_some hg ht he h
    refine .inr ⟨_, _, ?_, k3⟩
    simp only [eCompK, h1, eComp, iCon, bd, k1, if_true, compD]
    exact k2
def kOp1X (q : Q1) (wx : QX) : QX := fun e kz kr => wx e (fun x e1 => q x (fun d => kz d e1) (fun d => kr d e1)) (fun x e1 => q x (fun d => kz d e1) (fun d => kr d e1))
theorem zOpL1 (hq : P1 f q1) (ha : XOk a wx) : XOk (eOpL f (aCons a aNil)) (kOp1X q1 wx) := fun e kz kr o h => by
  rcases ha _ _ _ _ h with ⟨d, e', h1, h⟩ | ⟨d, e', h1, h⟩ <;> rcases hq _ _ _ _ h with ⟨x, k1, k2⟩ | ⟨x, k1, k2⟩
  · exact .inl ⟨x, e', by simp only [eOpL, aCons, aNil, h1, bd, nowL, nowR, k1, lif], k2⟩
  · exact .inr ⟨x, e', by simp only [eOpL, aCons, aNil, h1, bd, nowL, nowR, k1, lif], k2⟩
  · exact .inl ⟨x, e', by simp only [eOpL, aCons, aNil, h1, bd, nowL, nowR, k1, lif], k2⟩
  · exact .inr ⟨x, e', by simp only [eOpL, aCons, aNil, h1, bd, nowL, nowR, k1, lif], k2⟩
def kOp1D (q : Q1) (va : QD) : QX := fun e kz kr => va e fun x => q x (fun d => kz d e) (fun d => kr d e)
theorem zOpL1D (hq : P1 f q1) (ha : DOk a va) : XOk (eOpL f (aCons a aNil)) (kOp1D q1 va) := fun e kz kr o h => by
  obtain ⟨r, d, h1, h2, h⟩ := ha _ _ _ h
  rcases hq _ _ _ _ h with ⟨x, k1, k2⟩ | ⟨x, k1, k2⟩
  · exact .inl ⟨x, e, by simp only [eOpL, aCons, aNil, h1, bd, nowL, h2, k1, lif], k2⟩
  · exact .inr ⟨x, e, by simp only [eOpL, aCons, aNil, h1, bd, nowL, h2, k1, lif], k2⟩
theorem now2 {r1 r2 : R} {d1 d2 : D} {s : S} (h1 : nowR r1 s = some d1) (h2 : nowR r2 s = some d2) : nowL [r1, r2] s = some [d1, d2] := by
  simp only [nowL, h1, h2]
def kT2X (q : T2) (wx : QX) (vb : QD) : QX := fun e kz _ => wx e (fun x e1 => vb e1 fun y => q x y (kz (.bl true) e1) (kz (.bl false) e1)) (fun x e1 => vb e1 fun y => q x y (kz (.bl true) e1) (kz (.bl false) e1))
theorem zT2 (hq : PT2 f t2) (ha : XOk a wx) (hb : DOk b vb) : XOk (eOp2 f a b) (kT2X t2 wx vb) := fun e kz kr o h => by
  rcases ha _ _ _ _ h with ⟨d, e', h1, h⟩ | ⟨d, e', h1, h⟩
  · obtain ⟨r2, d2, b1, b2, h⟩ := hb _ _ _ h
    obtain ⟨z, c1, c2⟩ := hq _ _ _ _ _ h
    exact .inl ⟨.bl z, e', by simp only [eOp2, h1, b1, bd, now2 (r1 := .fz d) (d1 := d) (s := St e') rfl b2, c1, lif], by cases z <;> exact c2⟩
  · obtain ⟨r2, d2, b1, b2, h⟩ := hb _ _ _ h
    obtain ⟨z, c1, c2⟩ := hq _ _ _ _ _ h
    exact .inl ⟨.bl z, e', by simp only [eOp2, h1, b1, bd, now2 (r1 := .fr d) (d1 := d) (s := St e') rfl b2, c1, lif], by cases z <;> exact c2⟩
def kNilX : QXs := fun e k => k [] e
theorem zsNil : XsOk aNil kNilX 0 := fun e k o h => ⟨[], [], e, rfl, fun _ => rfl, rfl, h⟩
def kConsX (wx : QX) (vx : QXs) : QXs := fun e k => wx e (fun d e1 => vx e1 fun ds e2 => k (d :: ds) e2) (fun d e1 => vx e1 fun ds e2 => k (d :: ds) e2)
theorem zsCons (ha : XOk a wx) (hs : XsOk ms vx n) : XsOk (aCons a ms) (kConsX wx vx) (n + 1) := fun e k o h => by
  rcases ha _ _ _ _ h with ⟨d, e', h1, h⟩ | ⟨d, e', h1, h⟩
  · obtain ⟨rs, ds, e2, b1, b2, b3, b4⟩ := hs _ _ _ h
    exact ⟨.fz d :: rs, d :: ds, e2, by simp only [aCons, h1, b1, bd], fun e3 => by simp only [escL, esc, b2], by simp [b3], b4⟩
  · obtain ⟨rs, ds, e2, b1, b2, b3, b4⟩ := hs _ _ _ h
    exact ⟨.fr d :: rs, d :: ds, e2, by simp only [aCons, h1, b1, bd], fun e3 => by simp only [escL, esc, b2], by simp [b3], b4⟩
def kTupX (vx : QXs) : QX := fun e kz _ => vx e fun ds e1 => kz (.tup ds) e1
theorem zTup (hs : XsOk ms vx n) (hn : n ≤ szL := by decide) : XOk (eTup ms) (kTupX vx) := fun e kz kr o h => by
  obtain ⟨rs, ds, e2, b1, b2, b3, b4⟩ := hs _ _ _ h
  exact .inl ⟨.tup ds, e2, by simp only [eTup, b1, bd, b2]; rw [if_pos (by omega)], b4⟩
def sRetXK (wx : QX) : QC := fun e _ => wx e (fun d _ => some (.rt d)) (fun d _ => some (.rt d))
theorem cRetX (ha : XOk a wx) : COk (sRet a) (sRetXK wx) := fun e kn o h => by
  rcases ha _ _ _ _ h with ⟨d, e', h1, h⟩ | ⟨d, e', h1, h⟩
  · cases h; exact .inr (.inl ⟨d, e', by simp only [sRet, h1, bd, esc], rfl⟩)
  · cases h; exact .inr (.inl ⟨d, e', by simp only [sRet, h1, bd, esc], rfl⟩)
def sAsgXK (wx : QX) (i : Nat) : QC := fun e k => wx e (fun d e1 => k (setS i (.fz d) e1)) (fun d e1 => k (setS i (.ow d) e1))
theorem cAsgX {i : Nat} (ha : XOk a wx) : COk (sAsg a (stR i)) (sAsgXK wx i) := fun e kn o h => by
  rcases ha _ _ _ _ h with ⟨d, e', h1, h⟩ | ⟨d, e', h1, h⟩
  · exact .inl ⟨_, by simp only [sAsg, h1, bd, stR, esc, setS_eq], h⟩
  · exact .inl ⟨_, by simp only [sAsg, h1, bd, stR, setS_eq], h⟩
def sRetTupK (vs : QA) : QC := fun e _ => vs e fun ds => some (.rt (.tup ds))
theorem cRetTup (hs : WOk ms vs n) (hn : n ≤ szL := by decide) : COk (sRet (eTup ms)) (sRetTupK vs) := fun e kn o h => by
  obtain ⟨rs, ds, b1, b2, b3, b4⟩ := hs _ _ _ h
  obtain ⟨e', b5⟩ := nowL_escL b2
  cases b4
  refine .inr (.inl ⟨.tup ds, e', ?_, rfl⟩)
  simp only [sRet, eTup, b1, bd, b5]
  rw [if_pos (by omega)]
  rfl
/-! ### whole defs -/
def endK : En → O := fun _ => some (.rt .non)
def kRun1 (tl : En) (b : QC) : Qf := fun ds => List.rec none (fun x t _ => List.rec (b (.fz x :: tl) endK) (fun _ _ _ => none) t) ds
def kRun2 (tl : En) (b : QC) : Qf := fun ds => List.rec none (fun x t _ => List.rec none (fun y t _ => List.rec (b (.fz x :: .fz y :: tl) endK) (fun _ _ _ => none) t) t) ds
def kRun3 (tl : En) (b : QC) : Qf := fun ds => List.rec none (fun x t _ => List.rec none (fun y t _ => List.rec none (fun z t _ => List.rec (b (.fz x :: .fz y :: .fz z :: tl) endK) (fun _ _ _ => none) t) t) t) ds
def kRun4 (tl : En) (b : QC) : Qf := fun ds => List.rec none (fun x t _ => List.rec none (fun y t _ => List.rec none (fun z t _ => List.rec none (fun u t _ => List.rec (b (.fz x :: .fz y :: .fz z :: .fz u :: tl) endK) (fun _ _ _ => none) t) t) t) t) ds
theorem run_end {n : Nat} {ds : List D} {e : En} {o : Qo} (hb : COk sb qb) (he : e = ds.map .fz ++ List.replicate (n - ds.length) .no) (h : qb e endK = some o) : runB n sb ds [] = some (toF o) := by
  unfold runB
  rw [← he]
  rcases hb _ _ _ h with ⟨e', h1, h2⟩ | ⟨d, e', h1, rfl⟩ | ⟨x, h1, rfl⟩
  · cases h2
    have h1 : sb ⟨e, []⟩ = _ := h1
    simp only [h1, toF]
  · have h1 : sb ⟨e, []⟩ = _ := h1
    simp only [h1, toF]
  · have h1 : sb ⟨e, []⟩ = _ := h1
    simp only [h1, toF]
theorem lq1 {n : Nat} {tl : En} (hb : COk sb qb) (ht : tl = List.replicate (n - 1) .no := by rfl) : Lq (kRun1 tl qb) (runB n sb) := fun ds o h => by
  match ds, h with
  | [], h => cases h
  | [x], h => exact run_end hb (by subst ht; rfl) h
  | _ :: _ :: _, h => cases h
theorem lq2 {n : Nat} {tl : En} (hb : COk sb qb) (ht : tl = List.replicate (n - 2) .no := by rfl) : Lq (kRun2 tl qb) (runB n sb) := fun ds o h => by
  match ds, h with
  | [], h => cases h
  | [x], h => cases h
  | [x, y], h => exact run_end hb (by subst ht; rfl) h
  | _ :: _ :: _ :: _, h => cases h
theorem lq3 {n : Nat} {tl : En} (hb : COk sb qb) (ht : tl = List.replicate (n - 3) .no := by rfl) : Lq (kRun3 tl qb) (runB n sb) := fun ds o h => by
  match ds, h with
  | [], h => cases h
  | [x], h => cases h
  | [x, y], h => cases h
  | [x, y, z], h => exact run_end hb (by subst ht; rfl) h
  | _ :: _ :: _ :: _ :: _, h => cases h
theorem lq4 {n : Nat} {tl : En} (hb : COk sb qb) (ht : tl = List.replicate (n - 4) .no := by rfl) : Lq (kRun4 tl qb) (runB n sb) := fun ds o h => by
  match ds, h with
  | [], h => cases h
  | [x], h => cases h
  | [x, y], h => cases h
  | [x, y, z], h => cases h
  | [x, y, z, u], h => exact run_end hb (by subst ht; rfl) h
  | _ :: _ :: _ :: _ :: _ :: _, h => cases h
/-- where the quick one answers nothing, the slow one is asked -/
def orK (q p : O) : O := Option.rec p (fun o => some o) q
theorem lqOr {p q : Qf} {F : Fn} (h1 : Lq q F) (h2 : Lq p F) : Lq (fun ds => orK (q ds) (p ds)) F := fun ds o h => by
  cases e : q ds with
  | none => simp only [orK, e] at h; exact h2 _ _ h
  | some o' => simp only [orK, e] at h; cases h; exact h1 _ _ e
/-- the def itself as a quick one -/
def slow (F : Fn) : Qf := fun ds => match F ds [] with
  | some (.ok d []) => some (.rt d)
  | some (.ex x []) => some (.ex x)
  | _ => none
theorem lqSlow (F : Fn) : Lq (slow F) F := fun ds o h => by
  unfold slow at h
  split at h
  · rename_i e; cases h; exact e
  · rename_i e; cases h; exact e
  · cases h
end Ev
end
end
section
set_option Elab.async false
set_option linter.all false
set_option maxRecDepth 100000
set_option maxHeartbeats 4000000
/-! Qd: quick operations on plain values. -/
noncomputable section
namespace Ev
open PySem PySem.Spec PyProof.Rows L2
/-! ### any operation, as it is -/
def gQ (kz kr : D → O) (o : Option R) : O := Option.rec none (fun r => R.rec kz kr (fun _ => none) r) o
theorem gQ_some {kz kr : D → O} {x : Option R} {o : Qo} (h : gQ kz kr x = some o) : (∃ d, x = some (.fz d) ∧ kz d = some o) ∨ (∃ d, x = some (.fr d) ∧ kr d = some o) := by
  cases x with
  | none => cases h
  | some r => cases r with
    | fz d => exact .inl ⟨d, rfl, h⟩
    | fr d => exact .inr ⟨d, rfl, h⟩
    | pk i => cases h
def G1q (f : List D → Option R) : Q1 := fun a kz kr => gQ kz kr (f [a])
theorem pG1 (f : List D → Option R) : P1 f (G1q f) := fun a kz kr o h => gQ_some h
def G2q (f : List D → Option R) : Q2 := fun a b kz kr => gQ kz kr (f [a, b])
theorem pG2 (f : List D → Option R) : P2 f (G2q f) := fun a b kz kr o h => gQ_some h
def gT (kt kf : O) (o : Option R) : O := gQ (fun d => D.kB (fun b => bK kt kf b) d) (fun _ => none) o
def GT2 (f : List D → Option R) : T2 := fun a b kt kf => gT kt kf (f [a, b])
theorem pGT (f : List D → Option R) : PT2 f (GT2 f) := fun a b kt kf o h => by
  rcases gQ_some h with ⟨d, h1, h2⟩ | ⟨d, h1, h2⟩
  · obtain ⟨i, rfl, h3⟩ := kB_some h2
    exact ⟨i, h1, by rw [bK_eq] at h3; exact h3⟩
  · cases h2
/-! ### ints -/
def eqIK (i j : Int) (kt kf : O) : O := Int.rec (fun a => Int.rec (fun b => bK kt kf (Nat.beq a b)) (fun _ => kf) j) (fun a => Int.rec (fun _ => kf) (fun b => bK kt kf (Nat.beq a b)) j) i
theorem eqIK_eq (i j : Int) (kt kf : O) : eqIK i j kt kf = if i = j then kt else kf := by
  cases i with
  | ofNat a => cases j with
    | ofNat b =>
      show bK kt kf (Nat.beq a b) = _
      rw [bK_eq]
      by_cases h : a = b
      · subst h; simp
      · have h2 : Nat.beq a b = false := by rw [← Bool.not_eq_true]; intro z; exact h (Nat.eq_of_beq_eq_true z)
        rw [h2, if_neg (by simp), if_neg (fun z => h (Int.ofNat.inj z))]
    | negSucc b => show kf = _; rw [if_neg (fun z => nomatch z)]
  | negSucc a => cases j with
    | ofNat b => show kf = _; rw [if_neg (fun z => nomatch z)]
    | negSucc b =>
      show bK kt kf (Nat.beq a b) = _
      rw [bK_eq]
      by_cases h : a = b
      · subst h; simp
      · have h2 : Nat.beq a b = false := by rw [← Bool.not_eq_true]; intro z; exact h (Nat.eq_of_beq_eq_true z)
        rw [h2, if_neg (by simp), if_neg (fun z => h (Int.negSucc.inj z))]
def leIK (i j : Int) (kt kf : O) : O := Int.rec (fun a => Int.rec (fun b => bK kt kf (Nat.ble a b)) (fun _ => kf) j) (fun a => Int.rec (fun _ => kt) (fun b => bK kt kf (Nat.ble b a)) j) i
theorem leIK_eq (i j : Int) (kt kf : O) : leIK i j kt kf = if i ≤ j then kt else kf := by
  have key : ∀ (a b : Nat) (p : Prop) [Decidable p], (a ≤ b ↔ p) → bK kt kf (Nat.ble a b) = if p then kt else kf := by
    intro a b p _ h
    rw [bK_eq]
    by_cases q : a ≤ b
    · rw [if_pos (Nat.ble_eq.mpr q), if_pos (h.mp q)]
    · rw [if_neg (fun z => q (Nat.ble_eq.mp z)), if_neg (fun z => q (h.mpr z))]
  cases i with
  | ofNat a => cases j with
    | ofNat b => exact key a b _ (by simp)
    | negSucc b => show kf = _; rw [if_neg (by simp only [Int.ofNat_eq_natCast]; omega)]
  | negSucc a => cases j with
    | ofNat b => show kt = _; rw [if_pos (by simp; omega)]
    | negSucc b => exact key b a _ (by omega)
def subNK (a b : Nat) (k : Int → O) : O := bK (k (.ofNat (Nat.sub a b))) (k (.negSucc (Nat.sub (Nat.sub b a) 1))) (Nat.ble b a)
theorem subNK_eq (a b : Nat) (k : Int → O) : subNK a b k = k ((a : Int) - b) := by
  unfold subNK
  rw [bK_eq]
  split
  · rename_i h
    rw [Nat.ble_eq] at h
    congr 1
    show ((a - b : Nat) : Int) = _
    omega
  · rename_i h
    rw [Nat.ble_eq] at h
    congr 1
    show Int.negSucc (b - a - 1) = _
    omega
def addK (i j : Int) (k : Int → O) : O := Int.rec (fun a => Int.rec (fun b => k (.ofNat (Nat.add a b))) (fun b => subNK a (Nat.succ b) k) j) (fun a => Int.rec (fun b => subNK b (Nat.succ a) k) (fun b => k (.negSucc (Nat.succ (Nat.add a b)))) j) i
theorem addK_eq (i j : Int) (k : Int → O) : addK i j k = k (i + j) := by
  cases i with
  | ofNat a => cases j with
    | ofNat b => rfl
    | negSucc b =>
      show subNK a (Nat.succ b) k = _
      rw [subNK_eq]; congr 1
  | negSucc a => cases j with
    | ofNat b =>
      show subNK b (Nat.succ a) k = _
      rw [subNK_eq]; congr 1
    | negSucc b => rfl
def subK (i j : Int) (k : Int → O) : O := Int.rec (fun a => Int.rec (fun b => subNK a b k) (fun b => k (.ofNat (Nat.add a (Nat.succ b)))) j) (fun a => Int.rec (fun b => k (.negSucc (Nat.add a b))) (fun b => subNK (Nat.succ b) (Nat.succ a) k) j) i
theorem subK_eq (i j : Int) (k : Int → O) : subK i j k = k (i - j) := by
  cases i with
  | ofNat a => cases j with
    | ofNat b => show subNK a b k = _; rw [subNK_eq]; rfl
    | negSucc b => rfl
  | negSucc a => cases j with
    | ofNat b => show k (.negSucc (a + b)) = _; congr 1; simp only [Int.ofNat_eq_natCast]; omega
    | negSucc b => show subNK (b + 1) (a + 1) k = _; rw [subNK_eq]; congr 1
def negNK (n : Nat) (k : Int → O) : O := Nat.rec (k (.ofNat 0)) (fun m _ => k (.negSucc m)) n
theorem negNK_eq (n : Nat) (k : Int → O) : negNK n k = k (-(n : Int)) := by
  cases n with
  | zero => rfl
  | succ m => rfl
def negK (i : Int) (k : Int → O) : O := Int.rec (fun a => negNK a k) (fun a => k (.ofNat (Nat.succ a))) i
theorem negK_eq (i : Int) (k : Int → O) : negK i k = k (-i) := by
  cases i with
  | ofNat a => show negNK a k = _; rw [negNK_eq]; rfl
  | negSucc a => rfl
def mulK (i j : Int) (k : Int → O) : O := Int.rec (fun a => Int.rec (fun b => k (.ofNat (Nat.mul a b))) (fun b => negNK (Nat.mul a (Nat.succ b)) k) j) (fun a => Int.rec (fun b => negNK (Nat.mul (Nat.succ a) b) k) (fun b => k (.ofNat (Nat.mul (Nat.succ a) (Nat.succ b)))) j) i
theorem mulK_eq (i j : Int) (k : Int → O) : mulK i j k = k (i * j) := by
  cases i with
  | ofNat a => cases j with
    | ofNat b => rfl
    | negSucc b =>
      show negNK (a * (b + 1)) k = _
      rw [negNK_eq]; congr 1
  | negSucc a => cases j with
    | ofNat b =>
      show negNK ((a + 1) * b) k = _
      rw [negNK_eq]; congr 1
    | negSucc b => rfl
/-- small enough -/
def smK (i : Int) (kt kf : O) : O := Int.rec (fun a => bK kt kf (Nat.ble a 1000000000000)) (fun a => bK kt kf (Nat.ble a 1000000000000)) i
theorem smK_some {i : Int} {kt kf : O} {o : Qo} (h : smK i kt kf = some o) : (smI i = true ∧ kt = some o) ∨ kf = some o := by
  cases i with
  | ofNat a =>
    have h : bK kt kf (Nat.ble a 1000000000000) = some o := h
    rw [bK_eq] at h
    split at h
    · rename_i q
      rw [Nat.ble_eq] at q
      refine .inl ⟨?_, h⟩
      unfold smI
      simp only [Bool.and_eq_true, decide_eq_true_eq]
      have : (Int.ofNat a : Int) = (a : Int) := rfl
      omega
    · exact .inr h
  | negSucc a =>
    have h : bK kt kf (Nat.ble a 1000000000000) = some o := h
    rw [bK_eq] at h
    split at h
    · rename_i q
      rw [Nat.ble_eq] at q
      refine .inl ⟨?_, h⟩
      unfold smI
      simp only [Bool.and_eq_true, decide_eq_true_eq]
      omega
    · exact .inr h
/-! ### operations on ints, else as they are -/
def intE (k : Int → O) (e : O) (d : D) : O := D.kS e (fun _ => e) k (fun _ => e) (fun _ => e) (fun _ => e) (fun _ _ => e) (fun _ _ => e) (fun _ => e) d
theorem intE_some {k : Int → O} {e : O} {d : D} {o : Qo} (h : intE k e d = some o) : (∃ i, d = .int i ∧ k i = some o) ∨ e = some o := by
  cases d <;> first | exact .inl ⟨_, rfl, h⟩ | exact .inr h | cases h
def int2 (F : Int → Int → O) (e : O) (a b : D) : O := intE (fun i => intE (fun j => F i j) e b) e a
theorem int2_some {F : Int → Int → O} {e : O} {a b : D} {o : Qo} (h : int2 F e a b = some o) : (∃ i j, a = .int i ∧ b = .int j ∧ F i j = some o) ∨ e = some o := by
  rcases intE_some h with ⟨i, e1, hz1⟩ | hz1
  · rcases intE_some hz1 with ⟨j, e2, hz2⟩ | hz2
    · exact .inl ⟨i, j, e1, e2, hz2⟩
    · exact .inr hz2
  · exact .inr hz1
def qAdd : Q2 := fun a b kz kr => int2 (fun i j => addK i j fun r => kz (.int r)) (gQ kz kr (dAdd [a, b])) a b
theorem pAdd : P2 dAdd qAdd := fun a b kz kr o h => by
  rcases int2_some h with ⟨i, j, rfl, rfl, hz1⟩ | hz1
  · rw [addK_eq] at hz1; exact .inl ⟨_, rfl, hz1⟩
  · exact gQ_some hz1
def qSub : Q2 := fun a b kz kr => int2 (fun i j => subK i j fun r => kz (.int r)) none a b
theorem pSub : P2 dSub qSub := fun a b kz kr o h => by
  rcases int2_some h with ⟨i, j, rfl, rfl, hz1⟩ | hz1
  · rw [subK_eq] at hz1; exact .inl ⟨_, rfl, hz1⟩
  · cases hz1
def qMul : Q2 := fun a b kz kr => int2 (fun i j => smK j (mulK i j fun r => kz (.int r)) (gQ kz kr (dMul [a, b]))) (gQ kz kr (dMul [a, b])) a b
theorem pMul : P2 dMul qMul := fun a b kz kr o h => by
  rcases int2_some h with ⟨i, j, rfl, rfl, hz1⟩ | hz1
  · rcases smK_some hz1 with ⟨h1, hz1⟩ | hz1
    · rw [mulK_eq] at hz1
      exact .inl ⟨_, by show (if smI i || smI j then some (R.fz (.int (i * j))) else none) = _; rw [if_pos (by rw [h1]; simp)], hz1⟩
    · exact gQ_some hz1
  · exact gQ_some hz1
def qMod : Q2 := fun a b kz kr => int2 (fun i j => Int.rec (fun n => Int.rec (fun m => Nat.rec none (fun m' _ => kz (.int (.ofNat (Nat.mod n (Nat.succ m'))))) m) (fun _ => gQ kz kr (dMod [a, b])) j) (fun _ => gQ kz kr (dMod [a, b])) i) none a b
theorem pMod : P2 dMod qMod := fun a b kz kr o h => by
  rcases int2_some h with ⟨i, j, rfl, rfl, hz1⟩ | hz1
  · cases i with
    | negSucc n => exact gQ_some hz1
    | ofNat n => cases j with
      | negSucc m => exact gQ_some hz1
      | ofNat m => cases m with
        | zero => cases hz1
        | succ m =>
          refine .inl ⟨_, ?_, hz1⟩
          show (if (Int.ofNat (m + 1)) ≠ 0 then some (R.fz (.int ((Int.ofNat n).fmod (Int.ofNat (m + 1))))) else none) = _
          rw [if_pos (fun z => by cases z)]
          have : (Int.ofNat n).fmod (Int.ofNat (m + 1)) = Int.ofNat (n % (m + 1)) := by
            exact Int.fmod_eq_emod_of_nonneg (Int.ofNat n) (show (0 : Int) ≤ Int.ofNat (m + 1) from Int.natCast_nonneg (m + 1))
          rw [this]
          rfl
  · cases hz1
def qNeg : Q1 := fun a kz kr => D.kI (fun i => negK i fun r => kz (.int r)) a
theorem pNeg : P1 dNeg qNeg := fun a kz kr o h => by
  obtain ⟨i, rfl, hz1⟩ := kI_some h
  rw [negK_eq] at hz1
  exact .inl ⟨_, rfl, hz1⟩
def qInt : Q1 := fun a kz kr => intE (fun i => kz (.int i)) (gQ kz kr (dInt [a])) a
theorem pInt : P1 dInt qInt := fun a kz kr o h => by
  rcases intE_some h with ⟨i, rfl, hz1⟩ | hz1
  · exact .inl ⟨_, rfl, hz1⟩
  · exact gQ_some hz1
def tLt : T2 := fun a b kt kf => int2 (fun i j => leIK j i kf kt) none a b
theorem ptLt : PT2 dLt tLt := fun a b kt kf o h => by
  rcases int2_some h with ⟨i, j, rfl, rfl, hz1⟩ | hz1
  · rw [leIK_eq] at hz1
    refine ⟨decide (i < j), rfl, ?_⟩
    by_cases q : i < j
    · rw [if_neg (by omega)] at hz1; simpa [q] using hz1
    · rw [if_pos (by omega)] at hz1; simpa [q] using hz1
  · cases hz1
def tGt : T2 := fun a b kt kf => int2 (fun i j => leIK i j kf kt) none a b
theorem ptGt : PT2 dGt tGt := fun a b kt kf o h => by
  rcases int2_some h with ⟨i, j, rfl, rfl, hz1⟩ | hz1
  · rw [leIK_eq] at hz1
    refine ⟨decide (j < i), rfl, ?_⟩
    by_cases q : j < i
    · rw [if_neg (by omega)] at hz1; simpa [q] using hz1
    · rw [if_pos (by omega)] at hz1; simpa [q] using hz1
  · cases hz1
def tLe : T2 := fun a b kt kf => int2 (fun i j => leIK i j kt kf) none a b
theorem ptLe : PT2 dLe tLe := fun a b kt kf o h => by
  rcases int2_some h with ⟨i, j, rfl, rfl, hz1⟩ | hz1
  · rw [leIK_eq] at hz1
    exact ⟨decide (i ≤ j), rfl, by simpa using hz1⟩
  · cases hz1
def tGe : T2 := fun a b kt kf => int2 (fun i j => leIK j i kt kf) none a b
theorem ptGe : PT2 dGe tGe := fun a b kt kf o h => by
  rcases int2_some h with ⟨i, j, rfl, rfl, hz1⟩ | hz1
  · rw [leIK_eq] at hz1
    exact ⟨decide (j ≤ i), rfl, by simpa using hz1⟩
  · cases hz1
theorem rNegLit {n : Nat} : ROk (eOp1 dNeg (eVal (.int (Int.ofNat (n + 1))))) (kVal (.int (Int.negSucc n))) := fun e kz kr o h => .inl ⟨.fz (.int (Int.negSucc n)), _, rfl, (fun _ z => nomatch z), rfl, h⟩
/-! ### lists -/
def nthO (n : Nat) (xs : List D) (k : D → O) : O := Nat.rec (motive := fun _ => List D → O) (fun l => List.rec none (fun a _ _ => k a) l) (fun _ ih l => List.rec none (fun _ t _ => ih t) l) n xs
theorem nthO_some {k : D → O} {o : Qo} : ∀ {n : Nat} {xs : List D}, nthO n xs k = some o → ∃ d, xs[n]? = some d ∧ k d = some o
  | 0, [], h => nomatch h
  | 0, a :: t, h => ⟨a, rfl, h⟩
  | n + 1, [], h => nomatch h
  | n + 1, a :: t, h => nthO_some (n := n) (xs := t) h
def atK (xs : List D) (i : Int) (k : D → O) : O := Int.rec (fun n => nthO n xs k) (fun m => bK (nthO (Nat.sub (lenK xs) (Nat.succ m)) xs k) none (Nat.ble (Nat.succ m) (lenK xs))) i
theorem atK_some {xs : List D} {i : Int} {k : D → O} {o : Qo} (h : atK xs i k = some o) : ∃ d, atD xs i = some d ∧ k d = some o := by
  cases i with
  | ofNat n =>
    obtain ⟨d, h1, h2⟩ := nthO_some (n := n) h
    exact ⟨d, by rw [atD_nat]; exact h1, h2⟩
  | negSucc m =>
    have h : bK (nthO (lenK xs - (m + 1)) xs k) none (Nat.ble (m + 1) (lenK xs)) = some o := h
    rw [bK_eq, lenK_eq] at h
    split at h
    · rename_i q
      rw [Nat.ble_eq] at q
      obtain ⟨d, h1, h2⟩ := nthO_some h
      refine ⟨d, ?_, h2⟩
      unfold atD
      rw [if_neg (by omega), if_pos (by omega)]
      rw [← h1]
      congr 1
      omega
    · cases h
/-- keys -/
def eqSK (x y : Str) (kt kf : O) : O := bK kt kf (decide (x = y))
def keyEqK (i : Int) (q : Key) (kt kf : O) : O := Sum.rec (fun j => eqIK j i kt kf) (fun _ => kf) q
theorem keyEqK_eq (i : Int) (q : Key) (kt kf : O) : keyEqK i q kt kf = if q = .inl i then kt else kf := by
  cases q with
  | inl j =>
    show eqIK j i kt kf = _
    rw [eqIK_eq]
    by_cases h : j = i
    · subst h; simp
    · rw [if_neg h, if_neg (fun z => h (Sum.inl.inj z))]
  | inr x => show kf = _; rw [if_neg (fun z => nomatch z)]
/-- look for an int among the keys: the value, or e -/
def lookK (i : Int) (e : O) (k : D → O) (ks : List Key) (vs : List D) : O := List.rec (motive := fun _ => List D → O) (fun _ => e) (fun q _ ih vs => List.rec e (fun v vt _ => keyEqK i q (k v) (ih vt)) vs) ks vs
theorem lookK_eq (i : Int) (e : O) (k : D → O) : ∀ (ks : List Key) (vs : List D), lookK i e k ks vs = match lookD (.inl i) ks vs with
    | some d => k d
    | none => e
  | [], vs => by simp [lookK, lookD]
  | q :: ks, [] => by simp [lookK, lookD]
  | q :: ks, v :: vs => by
    show keyEqK i q (k v) (lookK i e k ks vs) = _
    rw [keyEqK_eq, lookK_eq i e k ks vs]
    simp only [lookD]
    by_cases h : q = .inl i
    · simp [h]
    · simp [h]
def qIx : Q2 := fun a b kz kr => D.kS none (fun _ => none) (fun _ => none) (fun _ => none) (fun xs => D.kI (fun i => atK xs i kz) b) (fun xs => D.kI (fun i => atK xs i kz) b)
  (fun ks vs => intE (fun i => lookK i none kz ks vs) (gQ kz kr (dSub_ [a, b])) b) (fun _ _ => gQ kz kr (dSub_ [a, b])) (fun xs => D.kI (fun i => atK xs i kz) b) a
theorem pIx : P2 dSub_ qIx := fun a b kz kr o h => by
  cases a with
  | tup xs =>
    obtain ⟨i, rfl, hi⟩ := kI_some h
    obtain ⟨d, h1, h2⟩ := atK_some hi
    exact .inl ⟨d, by show (match atD xs i with | none => none | some d => some (R.fz d)) = _; rw [h1], h2⟩
  | lst xs =>
    obtain ⟨i, rfl, hi⟩ := kI_some h
    obtain ⟨d, h1, h2⟩ := atK_some hi
    exact .inl ⟨d, by show (match atD xs i with | none => none | some d => some (R.fz d)) = _; rw [h1], h2⟩
  | ktup xs =>
    obtain ⟨i, rfl, hi⟩ := kI_some h
    obtain ⟨d, h1, h2⟩ := atK_some hi
    exact .inl ⟨d, by show (match atD xs i with | none => none | some d => some (R.fz d)) = _; rw [h1], h2⟩
  | dK ks vs =>
    rcases intE_some h with ⟨i, rfl, hi⟩ | hi
    · rw [lookK_eq] at hi
      split at hi
      · rename_i d e1
        exact .inl ⟨d, by simp only [dSub_, keyD, e1], hi⟩
      · cases hi
    · exact gQ_some hi
  | dT ks vs => exact gQ_some h
  | _ => cases h
def lenA {α : Type} (ds : List α) : Nat := List.rec (motive := fun _ => Nat → Nat) (fun n => n) (fun _ _ ih n => ih (Nat.succ n)) ds 0
theorem lenA_eq {α : Type} (ds : List α) : lenA ds = ds.length := by
  have : ∀ (ds : List α) n, (List.rec (motive := fun _ => Nat → Nat) (fun n => n) (fun _ _ ih n => ih (Nat.succ n)) ds n : Nat) = ds.length + n := by
    intro ds
    induction ds with
    | nil => intro n; simp
    | cons d ds ih => intro n; show (List.rec (motive := fun _ => Nat → Nat) (fun n => n) (fun _ _ ih n => ih (Nat.succ n)) ds (n + 1) : Nat) = _; rw [ih]; simp; omega
  exact this ds 0
def qLen : Q1 := fun a kz kr => D.kS none (fun _ => none) (fun _ => none) (fun _ => none) (fun xs => kz (.int (.ofNat (lenK xs)))) (fun xs => kz (.int (.ofNat (lenK xs)))) (fun ks _ => kz (.int (.ofNat (lenA ks)))) (fun _ _ => none) (fun xs => kz (.int (.ofNat (lenK xs)))) a
theorem pLen : P1 dLenA qLen := fun a kz kr o h => by
  cases a with
  | tup xs => exact .inl ⟨.int (.ofNat (lenK xs)), by rw [lenK_eq]; rfl, h⟩
  | lst xs => exact .inl ⟨.int (.ofNat (lenK xs)), by rw [lenK_eq]; rfl, h⟩
  | ktup xs => exact .inl ⟨.int (.ofNat (lenK xs)), by rw [lenK_eq]; rfl, h⟩
  | dK ks vs => exact .inl ⟨.int (.ofNat (lenA ks)), by rw [lenA_eq]; rfl, h⟩
  | _ => cases h
def allK (xs : List D) (kt kf : O) : O := List.rec kt (fun d _ ih => D.kB (fun b => bK ih kf b) d) xs
theorem allK_some {kt kf : O} {o : Qo} : ∀ {xs : List D}, allK xs kt kf = some o → (∃ bs, asBls xs = some bs ∧ bs.all id = true ∧ kt = some o) ∨ kf = some o
  | [], h => .inl ⟨[], rfl, rfl, h⟩
  | d :: xs, h => by
    have h : D.kB (fun b => bK (allK xs kt kf) kf b) d = some o := h
    obtain ⟨b, rfl, hz1⟩ := kB_some h
    rw [bK_eq] at hz1
    cases b with
    | false => exact .inr hz1
    | true =>
      rcases allK_some (xs := xs) hz1 with ⟨bs, h1, h2, h3⟩ | hz1
      · exact .inl ⟨true :: bs, by simp only [asBls, h1], by simp [h2], h3⟩
      · exact .inr hz1
def qAll : Q1 := fun a kz kr => D.kL (fun xs => allK xs (kz (.bl true)) (gQ kz kr (dAll [a]))) a
theorem pAll : P1 dAll qAll := fun a kz kr o h => by
  obtain ⟨xs, rfl, hz1⟩ := kL_some h
  rcases allK_some hz1 with ⟨bs, h1, h2, h3⟩ | hz1
  · refine .inl ⟨_, ?_, h3⟩
    show (match asBls xs with | none => none | some ns => some (R.fz (.bl (ns.all id)))) = _
    rw [h1, ← h2]
  · exact gQ_some hz1
def qTuple : Q1 := fun a kz kr => sqK a fun xs => kz (.tup xs)
theorem pTuple : P1 dTuple qTuple := fun a kz kr o h => by
  obtain ⟨ds, h1, h2⟩ := sqK_some h
  rcases h1 with rfl | rfl <;> exact .inl ⟨_, rfl, h2⟩
def qList : Q1 := fun a kz kr => sqK a fun xs => kr (.lst xs)
theorem pList : P1 dList qList := fun a kz kr o h => by
  obtain ⟨ds, h1, h2⟩ := sqK_some h
  rcases h1 with rfl | rfl <;> exact .inr ⟨_, rfl, h2⟩
def qTupX : Q1 := fun a kz kr => D.kL (fun xs => kz (.ktup xs)) a
theorem pTupX : P1 dTupX qTupX := fun a kz kr o h => by
  obtain ⟨xs, rfl, hz1⟩ := kL_some h
  exact .inl ⟨_, rfl, hz1⟩
/-! ### ==, in -/
mutual
theorem depthDummy : True := True.intro
end
/-- plain, of depth at most n -/
def plK (d : D) : Nat → O → O := D.rec (motive_1 := fun _ => Nat → O → O) (motive_2 := fun _ => Nat → O → O) (fun _ k => k) (fun _ _ k => k) (fun _ _ k => k) (fun _ _ k => k) (fun _ ih n k => Nat.rec none (fun m _ => ih m k) n) (fun _ ih n k => Nat.rec none (fun m _ => ih m k) n) (fun _ _ _ _ _ => none) (fun _ _ _ _ _ => none) (fun _ _ _ => none) (fun _ _ _ => none)
  (fun _ ih n k => Nat.rec none (fun m _ => ih m k) n) (fun _ k => k) (fun _ _ ih1 ih2 n k => ih1 n (ih2 n k)) d
def plLK (ds : List D) : Nat → O → O := D.rec_1 (motive_1 := fun _ => Nat → O → O) (motive_2 := fun _ => Nat → O → O) (fun _ k => k) (fun _ _ k => k) (fun _ _ k => k) (fun _ _ k => k) (fun _ ih n k => Nat.rec none (fun m _ => ih m k) n) (fun _ ih n k => Nat.rec none (fun m _ => ih m k) n) (fun _ _ _ _ _ => none) (fun _ _ _ _ _ => none) (fun _ _ _ => none) (fun _ _ _ => none)
  (fun _ ih n k => Nat.rec none (fun m _ => ih m k) n) (fun _ k => k) (fun _ _ ih1 ih2 n k => ih1 n (ih2 n k)) ds
mutual
theorem plK_some {o : Qo} : ∀ (d : D) {n : Nat} {k : O}, plK d n k = some o → isPl d = true ∧ (toPy d).depth ≤ n ∧ k = some o
  | .non, n, k, h => ⟨rfl, Nat.zero_le _, h⟩
  | .bl _, n, k, h => ⟨rfl, Nat.zero_le _, h⟩
  | .int _, n, k, h => ⟨rfl, Nat.zero_le _, h⟩
  | .str _, n, k, h => ⟨rfl, Nat.zero_le _, h⟩
  | .tup xs, 0, k, h => nomatch h
  | .lst xs, 0, k, h => nomatch h
  | .ktup xs, 0, k, h => nomatch h
  | .tup xs, n + 1, k, h => by
    obtain ⟨h1, h2, h3⟩ := plLK_some xs (n := n) (k := k) h
    exact ⟨by simp only [isPl, h1], by simp only [toPy, PyData.depth]; omega, h3⟩
  | .lst xs, n + 1, k, h => by
    obtain ⟨h1, h2, h3⟩ := plLK_some xs (n := n) (k := k) h
    exact ⟨by simp only [isPl, h1], by simp only [toPy, PyData.depth]; omega, h3⟩
  | .ktup xs, n + 1, k, h => by
    obtain ⟨h1, h2, h3⟩ := plLK_some xs (n := n) (k := k) h
    exact ⟨by simp only [isPl, h1], by simp only [toPy, PyData.depth]; omega, h3⟩
theorem plLK_some {o : Qo} : ∀ (ds : List D) {n : Nat} {k : O}, plLK ds n k = some o → isPlL ds = true ∧ PyData.depthAll (toPyL ds) ≤ n ∧ k = some o
  | [], n, k, h => ⟨rfl, Nat.zero_le _, h⟩
  | d :: ds, n, k, h => by
    have h : plK d n (plLK ds n k) = some o := h
    obtain ⟨h1, h2, h⟩ := plK_some d h
    obtain ⟨h3, h4, h⟩ := plLK_some ds h
    exact ⟨by simp only [isPlL, h1, h3, Bool.and_self], by simp only [toPyL, PyData.depthAll]; omega, h⟩
end
def D.kTT (k : List D → O) (d : D) : O := D.rec (motive_1 := fun _ => O) (motive_2 := fun _ => Unit) none (fun _ => none) (fun _ => none) (fun _ => none) (fun xs _ => k xs) (fun _ _ => none) (fun _ _ _ => none) (fun _ _ _ => none) (fun _ => none) (fun _ => none) (fun xs _ => k xs) () (fun _ _ _ _ => ()) d
theorem kTT_some {k : List D → O} {d : D} {o : Qo} (h : D.kTT k d = some o) : ∃ i, (d = .tup i ∨ d = .ktup i) ∧ k i = some o := by
  cases d <;> first | exact ⟨_, .inl rfl, h⟩ | exact ⟨_, .inr rfl, h⟩ | cases h
def D.kSt (k : Str → O) (d : D) : O := D.rec (motive_1 := fun _ => O) (motive_2 := fun _ => Unit) none (fun _ => none) (fun _ => none) k (fun _ _ => none) (fun _ _ => none) (fun _ _ _ => none) (fun _ _ _ => none) (fun _ => none) (fun _ => none) (fun _ _ => none) () (fun _ _ _ _ => ()) d
theorem kSt_some {k : Str → O} {d : D} {o : Qo} (h : D.kSt k d = some o) : ∃ i, d = .str i ∧ k i = some o := by
  cases d <;> first | exact ⟨_, rfl, h⟩ | cases h
def eqR (d : D) : D → O → O → O := D.rec (motive_1 := fun _ => D → O → O → O) (motive_2 := fun _ => List D → O → O → O) (fun _ _ _ => none) (fun b e kt kf => D.kB (fun c => bK (bK kt kf c) (bK kf kt c) b) e) (fun i e kt kf => D.kI (fun j => eqIK i j kt kf) e) (fun x e kt kf => D.kSt (fun y => eqSK x y kt kf) e)
  (fun _ ih e kt kf => D.kTT (fun ys => ih ys kt kf) e) (fun _ ih e kt kf => D.kL (fun ys => ih ys kt kf) e) (fun _ _ _ _ _ _ => none) (fun _ _ _ _ _ _ => none) (fun _ _ _ _ => none) (fun _ _ _ _ => none) (fun _ ih e kt kf => D.kTT (fun ys => ih ys kt kf) e)
  (fun ys kt kf => List.rec kt (fun _ _ _ => kf) ys) (fun _ _ ih1 ih2 ys kt kf => List.rec kf (fun y yt _ => ih1 y (ih2 yt kt kf) kf) ys) d
def eqLR (ds : List D) : List D → O → O → O := D.rec_1 (motive_1 := fun _ => D → O → O → O) (motive_2 := fun _ => List D → O → O → O) (fun _ _ _ => none) (fun b e kt kf => D.kB (fun c => bK (bK kt kf c) (bK kf kt c) b) e) (fun i e kt kf => D.kI (fun j => eqIK i j kt kf) e) (fun x e kt kf => D.kSt (fun y => eqSK x y kt kf) e)
  (fun _ ih e kt kf => D.kTT (fun ys => ih ys kt kf) e) (fun _ ih e kt kf => D.kL (fun ys => ih ys kt kf) e) (fun _ _ _ _ _ _ => none) (fun _ _ _ _ _ _ => none) (fun _ _ _ _ => none) (fun _ _ _ _ => none) (fun _ ih e kt kf => D.kTT (fun ys => ih ys kt kf) e)
  (fun ys kt kf => List.rec kt (fun _ _ _ => kf) ys) (fun _ _ ih1 ih2 ys kt kf => List.rec kf (fun y yt _ => ih1 y (ih2 yt kt kf) kf) ys) ds
mutual
theorem eqR_some {o : Qo} : ∀ (d e : D) {kt kf : O}, eqR d e kt kf = some o → (if eqv d e then kt else kf) = some o
  | .non, e, kt, kf, h => nomatch h
  | .bl b, e, kt, kf, h => by
    obtain ⟨c, rfl, hz1⟩ := kB_some (k := fun c => bK (bK kt kf c) (bK kf kt c) b) (d := e) h
    cases b <;> cases c <;> exact hz1
  | .int i, e, kt, kf, hz1 => by
    obtain ⟨j, rfl, hz2⟩ := kI_some (k := fun j => eqIK i j kt kf) (d := e) hz1
    rw [eqIK_eq] at hz2
    have : eqv (.int i) (.int j) = (i == j) := by simp only [eqv, toPy, PyData.eqv]
    rw [this]
    by_cases q : i = j
    · subst q; simpa using hz2
    · rw [if_neg q] at hz2; rw [if_neg (by simpa using q)]; exact hz2
  | .str x, e, kt, kf, hz2 => by
    obtain ⟨y, rfl, hz3⟩ := kSt_some (k := fun y => eqSK x y kt kf) (d := e) hz2
    have : eqv (.str x) (.str y) = (x == y) := by simp only [eqv, toPy, PyData.eqv]
    rw [this]
    unfold eqSK at hz3
    rw [bK_eq] at hz3
    by_cases q : x = y
    · subst q; simpa using hz3
    · rw [if_neg (by simpa using q)] at hz3; rw [if_neg (by simpa using q)]; exact hz3
  | .tup xs, e, kt, kf, hz3 => by
    obtain ⟨ys, hy, hz3⟩ := kTT_some (k := fun ys => eqLR xs ys kt kf) (d := e) hz3
    have := eqLR_some xs ys hz3
    rcases hy with rfl | rfl <;> simpa only [eqv, toPy, PyData.eqv] using this
  | .ktup xs, e, kt, kf, hz3 => by
    obtain ⟨ys, hy, hz3⟩ := kTT_some (k := fun ys => eqLR xs ys kt kf) (d := e) hz3
    have := eqLR_some xs ys hz3
    rcases hy with rfl | rfl <;> simpa only [eqv, toPy, PyData.eqv] using this
  | .lst xs, e, kt, kf, hz3 => by
    obtain ⟨ys, rfl, hz4⟩ := kL_some (k := fun ys => eqLR xs ys kt kf) (d := e) hz3
    have := eqLR_some xs ys hz4
    simpa only [eqv, toPy, PyData.eqv] using this
theorem eqLR_some {o : Qo} : ∀ (ds es : List D) {kt kf : O}, eqLR ds es kt kf = some o → (if PyData.eqvAll (toPyL ds) (toPyL es) then kt else kf) = some o
  | [], [], kt, kf, h => h
  | [], _ :: _, kt, kf, h => h
  | _ :: _, [], kt, kf, h => h
  | d :: ds, e :: es, kt, kf, h => by
    have h : eqR d e (eqLR ds es kt kf) kf = some o := h
    have h1 := eqR_some d e h
    simp only [toPyL, PyData.eqvAll]
    have e1 : PyData.eqv (toPy d) (toPy e) = eqv d e := rfl
    rw [e1]
    cases q : eqv d e with
    | true => rw [q] at h1; simpa using eqLR_some ds es h1
    | false => rw [q] at h1; simpa using h1
end
def eqE (a b : D) (kt kf : O) : O := int2 (fun i j => eqIK i j kt kf) (plK a 60 (plK b 60 (eqR a b kt kf))) a b
theorem eqE_some {a b : D} {kt kf : O} {o : Qo} (h : eqE a b kt kf = some o) : ∃ c, eqD a b = some c ∧ (if c then kt else kf) = some o := by
  rcases int2_some h with ⟨i, j, rfl, rfl, hz1⟩ | hz1
  · rw [eqIK_eq] at hz1
    exact ⟨decide (i = j), rfl, by simpa using hz1⟩
  · obtain ⟨h1, h2, hz1⟩ := plK_some a hz1
    obtain ⟨h3, h4, hz1⟩ := plK_some b hz1
    have h5 := eqR_some a b hz1
    refine ⟨eqv a b, ?_, h5⟩
    unfold eqD
    split
    · rename_i i j
      simp only [eqv, toPy, PyData.eqv, Bool.beq_eq_decide_eq]
    · rw [if_pos (by simp [h1, h3, h4])]
def tEq : T2 := fun a b kt kf => eqE a b kt kf
theorem ptEq : PT2 dEq tEq := fun a b kt kf o h => by
  obtain ⟨c, h1, h2⟩ := eqE_some h
  exact ⟨c, by simp only [dEq, h1], h2⟩
def tNe : T2 := fun a b kt kf => eqE a b kf kt
theorem ptNe : PT2 dNe tNe := fun a b kt kf o h => by
  obtain ⟨c, h1, h2⟩ := eqE_some h
  exact ⟨!c, by simp only [dNe, h1], by cases c <;> exact h2⟩
def anyK (x : D) (ys : List D) (kt kf : O) : O := List.rec kf (fun y _ ih => eqR y x kt ih) ys
theorem anyEq_cons (x y : D) (ys : List D) : anyEq x (y :: ys) = (eqv y x || anyEq x ys) := by
  simp only [anyEq]
  congr 1
  split
  · simp only [eqv, toPy, PyData.eqv, Bool.beq_eq_decide_eq]
  · rfl
theorem anyK_some {x : D} {kt kf : O} {o : Qo} : ∀ {ys : List D}, anyK x ys kt kf = some o → (if anyEq x ys then kt else kf) = some o
  | [], h => h
  | y :: ys, h => by
    have h : eqR y x kt (anyK x ys kt kf) = some o := h
    have h1 := eqR_some y x h
    rw [anyEq_cons]
    cases q : eqv y x with
    | true => rw [q] at h1; simpa using h1
    | false =>
      rw [q] at h1
      have := anyK_some (ys := ys) (by simpa using h1)
      simpa using this
def keysK (xs : List D) (k : List Key → O) : O := List.rec (motive := fun _ => (List Key → O) → O) (fun k => k []) (fun d _ ih k => D.kI (fun i => ih fun r => k (.inl i :: r)) d) xs k
theorem keysK_some {o : Qo} : ∀ {xs : List D} {k : List Key → O}, keysK xs k = some o → ∃ ks, keysD xs = some ks ∧ k ks = some o
  | [], k, h => ⟨[], rfl, h⟩
  | d :: xs, k, h => by
    obtain ⟨i, rfl, hz1⟩ := kI_some (k := fun i => keysK xs fun r => k (.inl i :: r)) (d := d) h
    obtain ⟨ks, h1, h2⟩ := keysK_some (xs := xs) hz1
    exact ⟨_, by simp only [keysD, keyD, h1], h2⟩
def ksEq (ks qs : List Key) (kt kf : O) : O := List.rec (motive := fun _ => List Key → O) (fun qs => List.rec kt (fun _ _ _ => kf) qs) (fun a _ ih qs => List.rec kf (fun b t _ => Sum.rec (fun i => keyEqK i b (ih t) kf) (fun _ => none) a) qs) ks qs
theorem ksEq_some {kt kf : O} {o : Qo} : ∀ {ks qs : List Key}, ksEq ks qs kt kf = some o → (if qs = ks then kt else kf) = some o
  | [], [], h => h
  | [], _ :: _, h => h
  | a :: ks, [], h => h
  | .inr x :: ks, b :: qs, h => nomatch h
  | .inl i :: ks, b :: qs, h => by
    have h : keyEqK i b (ksEq ks qs kt kf) kf = some o := h
    rw [keyEqK_eq] at h
    by_cases q : b = .inl i
    · subst q
      rw [if_pos rfl] at h
      have := ksEq_some (ks := ks) (qs := qs) h
      by_cases z : qs = ks
      · subst z; simpa using this
      · rw [if_neg z] at this
        rw [if_neg (by simpa using z)]; exact this
    · rw [if_neg q] at h
      rw [if_neg (by intro z; injection z with z1 z2; exact q z1)]; exact h
def lookT (k0 : List Key) (kt kf : O) (ks : List (List Key)) (vs : List D) : O := List.rec (motive := fun _ => List D → O) (fun _ => kf) (fun q _ ih vs => List.rec kf (fun v vt _ => ksEq k0 q kt (ih vt)) vs) ks vs
theorem lookT_some {k0 : List Key} {kt kf : O} {o : Qo} : ∀ {ks : List (List Key)} {vs : List D}, lookT k0 kt kf ks vs = some o → (if (lookD k0 ks vs).isSome then kt else kf) = some o
  | [], vs, h => by
    have : lookD k0 [] vs = none := by simp [lookD]
    rw [this]; exact h
  | q :: ks, [], h => by
    have : lookD k0 (q :: ks) [] = none := by simp [lookD]
    rw [this]; exact h
  | q :: ks, v :: vs, h => by
    have h : ksEq k0 q kt (lookT k0 kt kf ks vs) = some o := h
    have h1 := ksEq_some h
    by_cases z : q = k0
    · have : lookD k0 (q :: ks) (v :: vs) = some v := by simp [lookD, z]
      rw [this]; rw [if_pos z] at h1; exact h1
    · have : lookD k0 (q :: ks) (v :: vs) = lookD k0 ks vs := by simp [lookD, z]
      rw [this]; rw [if_neg z] at h1; exact lookT_some (ks := ks) (vs := vs) h1
def inE (x c : D) (kt kf : O) (e : O) : O := D.kS none (fun _ => none) (fun _ => none) (fun _ => none) (fun ys => plK x 60 (plLK ys 100 (anyK x ys kt kf))) (fun ys => plK x 60 (plLK ys 100 (anyK x ys kt kf))) (fun ks vs => intE (fun i => lookK i kf (fun _ => kt) ks vs) e x) (fun ks vs => D.kT (fun xs => keysK xs fun k0 => lookT k0 kt kf ks vs) x) (fun _ => none) c
theorem inE_some {neg : Bool} {x c : D} {kt kf e : O} {o : Qo} (h : inE x c kt kf e = some o) : (∃ b, dIn neg [x, c] = some (.fz (.bl (neg ^^ b))) ∧ (if b then kt else kf) = some o) ∨ e = some o := by
  cases c with
  | tup ys =>
    obtain ⟨h1, h2, h⟩ := plK_some x h
    obtain ⟨h3, h4, h⟩ := plLK_some ys h
    exact .inl ⟨_, by simp only [dIn]; rw [if_pos (by simp [h1, h3, h2])], anyK_some h⟩
  | lst ys =>
    obtain ⟨h1, h2, h⟩ := plK_some x h
    obtain ⟨h3, h4, h⟩ := plLK_some ys h
    exact .inl ⟨_, by simp only [dIn]; rw [if_pos (by simp [h1, h3, h2])], anyK_some h⟩
  | dK ks vs =>
    rcases intE_some h with ⟨i, rfl, hz⟩ | hz
    · rw [lookK_eq] at hz
      refine .inl ⟨(lookD (.inl i) ks vs).isSome, by simp only [dIn, keyD], ?_⟩
      split at hz
      · rename_i e1; simpa [e1] using hz
      · rename_i e1; simpa [e1] using hz
    · exact .inr hz
  | dT ks vs =>
    obtain ⟨xs, rfl, hz⟩ := kT_some h
    obtain ⟨k0, h1, hy⟩ := keysK_some hz
    exact .inl ⟨(lookD k0 ks vs).isSome, by simp only [dIn, h1], lookT_some hy⟩
  | _ => cases h
def tIn : T2 := fun x c kt kf => inE x c kt kf (gT kt kf (dIn false [x, c]))
theorem ptIn : PT2 (dIn false) tIn := fun x c kt kf o h => by
  rcases inE_some (neg := false) h with ⟨b, h1, h2⟩ | h
  · exact ⟨b, by rw [h1]; simp, h2⟩
  · exact pGT (dIn false) _ _ _ _ _ h
def tNin : T2 := fun x c kt kf => inE x c kf kt (gT kt kf (dIn true [x, c]))
theorem ptNin : PT2 (dIn true) tNin := fun x c kt kf o h => by
  rcases inE_some (neg := true) h with ⟨b, h1, h2⟩ | h
  · exact ⟨!b, by rw [h1]; simp, by cases b <;> exact h2⟩
  · exact pGT (dIn true) _ _ _ _ _ h
end Ev
end
end
section
set_option Elab.async false
set_option linter.all false
set_option maxRecDepth 100000
set_option maxHeartbeats 4000000
/-! Qe: quick stores, methods, sorting, dicts. -/
noncomputable section
namespace Ev
open PySem PySem.Spec PyProof.Rows L2
def setLK (n : Nat) (d : D) (xs : List D) : List D := Nat.rec (motive := fun _ => List D → List D) (fun l => List.rec [] (fun _ t _ => d :: t) l) (fun _ ih l => List.rec [] (fun a t _ => a :: ih t) l) n xs
theorem setLK_eq : ∀ (n : Nat) (d : D) (xs : List D), setLK n d xs = xs.set n d
  | 0, v, [] => rfl
  | 0, v, a :: t => rfl
  | i + 1, v, [] => rfl
  | i + 1, v, a :: t => by
    show a :: setLK i v t = _
    rw [setLK_eq i v t]; rfl
/-- eager: the list made anew up to the place -/
def setC (n : Nat) (d : D) (xs : List D) (k : List D → O) : O := Nat.rec (motive := fun _ => List D → (List D → O) → O) (fun l k => List.rec none (fun _ t _ => k (d :: t)) l) (fun _ ih l k => List.rec none (fun a t _ => ih t fun t' => k (a :: t')) l) n xs k
theorem setC_some {d : D} {o : Qo} : ∀ {n : Nat} {xs : List D} {k : List D → O}, setC n d xs k = some o → n < xs.length ∧ k (xs.set n d) = some o
  | 0, [], k, h => nomatch h
  | 0, a :: t, k, h => ⟨by simp, h⟩
  | n + 1, [], k, h => nomatch h
  | n + 1, a :: t, k, h => by
    have h : setC n d t (fun t' => k (a :: t')) = some o := h
    obtain ⟨h1, h2⟩ := setC_some h
    exact ⟨by simpa using h1, h2⟩
def appC (d : D) (xs : List D) (k : List D → O) : O := List.rec (motive := fun _ => Nat → (List D → O) → O) (fun n k => bK (k [d]) none (Nat.ble n 1000000)) (fun a _ ih n k => ih (Nat.succ n) fun t => k (a :: t)) xs 0 k
theorem appC_some' {d : D} {o : Qo} : ∀ {xs : List D} {n : Nat} {k : List D → O}, (List.rec (motive := fun _ => Nat → (List D → O) → O) (fun n k => bK (k [d]) none (Nat.ble n 1000000)) (fun a _ ih n k => ih (Nat.succ n) fun t => k (a :: t)) xs n k : O) = some o → xs.length + n ≤ 1000000 ∧ k (xs ++ [d]) = some o
  | [], n, k, h => by
    have h : bK (k [d]) none (Nat.ble n 1000000) = some o := h
    rw [bK_eq] at h
    split at h
    · rename_i q; rw [Nat.ble_eq] at q; exact ⟨by simpa using q, h⟩
    · cases h
  | a :: t, n, k, h => by
    obtain ⟨h1, h2⟩ := appC_some' (xs := t) (n := n + 1) (k := fun t => k (a :: t)) h
    exact ⟨by simp; omega, h2⟩
theorem appC_some {d : D} {xs : List D} {k : List D → O} {o : Qo} (h : appC d xs k = some o) : xs.length ≤ 1000000 ∧ k (xs ++ [d]) = some o := appC_some' (n := 0) h
def appK {α : Type} (xs : List α) (d : α) : List α := List.rec [d] (fun a _ ih => a :: ih) xs
theorem appK_eq {α : Type} : ∀ (xs : List α) (d : α), appK xs d = xs ++ [d]
  | [], d => rfl
  | a :: t, d => by
    show a :: appK t d = _
    rw [appK_eq t d]; rfl
def eqIB (i j : Int) : Bool := Int.rec (fun a => Int.rec (fun b => Nat.beq a b) (fun _ => false) j) (fun a => Int.rec (fun _ => false) (fun b => Nat.beq a b) j) i
theorem eqIB_eq (i j : Int) : eqIB i j = decide (i = j) := by
  have key : ∀ a b : Nat, Nat.beq a b = decide (a = b) := fun a b => by
    by_cases h : a = b
    · subst h; simp
    · rw [decide_eq_false h, ← Bool.not_eq_true]; intro z; exact h (Nat.eq_of_beq_eq_true z)
  cases i <;> cases j
  · show Nat.beq _ _ = _; rw [key, decide_eq_decide]; exact ⟨fun h => by rw [h], fun h => Int.ofNat.inj h⟩
  · show false = _; simp
  · show false = _; simp
  · show Nat.beq _ _ = _; rw [key]; simp
def leIB (i j : Int) : Bool := Int.rec (fun a => Int.rec (fun b => Nat.ble a b) (fun _ => false) j) (fun a => Int.rec (fun _ => true) (fun b => Nat.ble b a) j) i
theorem leIB_eq (i j : Int) : leIB i j = decide (i ≤ j) := by
  have key : ∀ (a b : Nat) (p : Prop) [Decidable p], (a ≤ b ↔ p) → Nat.ble a b = decide p := fun a b p _ h => by
    rw [Bool.eq_iff_iff, Nat.ble_eq, decide_eq_true_eq]; exact h
  cases i with
  | ofNat a => cases j with
    | ofNat b => exact key a b _ (by simp)
    | negSucc b => show false = _; symm; rw [decide_eq_false_iff_not]; simp only [Int.ofNat_eq_natCast]; omega
  | negSucc a => cases j with
    | ofNat b => show true = _; symm; rw [decide_eq_true_eq]; simp only [Int.ofNat_eq_natCast]; omega
    | negSucc b => exact key b a _ (by omega)
def hasK (i : Int) (ks : List Key) (kt kf : O) : O := List.rec kf (fun q _ ih => keyEqK i q kt ih) ks
theorem hasK_eq (i : Int) (kt kf : O) : ∀ ks : List Key, hasK i ks kt kf = if ks.any (fun k' => decide (k' = .inl i)) then kt else kf
  | [] => rfl
  | q :: ks => by
    show keyEqK i q kt (hasK i ks kt kf) = _
    rw [keyEqK_eq, hasK_eq i kt kf ks]
    by_cases h : q = .inl i
    · simp [h]
    · rw [if_neg h, List.any_cons, decide_eq_false h, Bool.false_or]
def pickK (i : Int) (q : Key) (d v : D) : D := Sum.rec (fun j => Bool.rec v d (eqIB j i)) (fun _ => v) q
theorem pickK_eq (i : Int) (q : Key) (d v : D) : pickK i q d v = if q = .inl i then d else v := by
  cases q with
  | inl j =>
    show (Bool.rec v d (eqIB j i) : D) = _
    rw [eqIB_eq]
    by_cases h : j = i
    · subst h; simp
    · rw [if_neg (fun z => h (Sum.inl.inj z)), decide_eq_false h]
  | inr x => show v = _; rw [if_neg (fun z => nomatch z)]
def replK (i : Int) (d : D) (ks : List Key) (vs : List D) : List D := List.rec (motive := fun _ => List D → List D) (fun _ => []) (fun q _ ih vs => List.rec [] (fun v t _ => pickK i q d v :: ih t) vs) ks vs
theorem replK_eq (i : Int) (d : D) : ∀ (ks : List Key) (vs : List D), replK i d ks vs = (ks.zip vs).map fun p => if p.1 = .inl i then d else p.2
  | [], vs => by simp [replK]
  | q :: ks, [] => by simp [replK]
  | q :: ks, v :: vs => by
    show pickK i q d v :: replK i d ks vs = _
    rw [pickK_eq, replK_eq i d ks vs]; simp
def putK (i : Int) (d : D) (ks : List Key) (vs : List D) (k : List Key → List D → O) : O := hasK i ks (k ks (replK i d ks vs)) (k (appK ks (.inl i)) (appK vs d))
theorem putK_eq (i : Int) (d : D) (ks : List Key) (vs : List D) (k : List Key → List D → O) : putK i d ks vs k = k (putD ks vs (.inl i) d).1 (putD ks vs (.inl i) d).2 := by
  unfold putK putD
  rw [hasK_eq, replK_eq, appK_eq, appK_eq]
  split <;> rfl
def hasT (k0 : List Key) (ks : List (List Key)) (kt kf : O) : O := List.rec kf (fun q _ ih => ksEq k0 q kt ih) ks
theorem hasT_some {k0 : List Key} {kt kf : O} {o : Qo} : ∀ {ks : List (List Key)}, hasT k0 ks kt kf = some o → (if ks.any (fun k' => decide (k' = k0)) then kt else kf) = some o
  | [], h => h
  | q :: ks, h => by
    have h : ksEq k0 q kt (hasT k0 ks kt kf) = some o := h
    have h1 := ksEq_some h
    by_cases z : q = k0
    · rw [if_pos z] at h1; simpa [z] using h1
    · rw [if_neg z] at h1
      have := hasT_some (ks := ks) h1
      rw [List.any_cons, decide_eq_false z, Bool.false_or]; exact this
def gC (kk : D → O) (x : Option D) : O := Option.rec none kk x
theorem gC_some {kk : D → O} {x : Option D} {o : Qo} (h : gC kk x = some o) : ∃ c', x = some c' ∧ kk c' = some o := by
  cases x with
  | none => cases h
  | some c => exact ⟨c, rfl, h⟩
def qSt : Q3 := fun c k d kk => D.kS none (fun _ => none) (fun _ => none) (fun _ => none) (fun _ => none) (fun xs => D.kI (fun i => Int.rec (fun n => setC n d xs fun xs => kk (.lst xs)) (fun _ => gC kk (stC c k d)) i) k)
  (fun ks vs => D.kI (fun i => bK (putK i d ks vs fun ks vs => kk (.dK ks vs)) none (Nat.ble (lenA ks) 1000000)) k) (fun ks vs => D.kT (fun xs => keysK xs fun k0 => hasT k0 ks (gC kk (stC c k d)) (bK (kk (.dT (appK ks k0) (appK vs d))) none (Nat.ble (lenA ks) 1000000))) k) (fun _ => none) c
theorem pSt : P3 qSt := fun c k d kk o h => by
  cases c with
  | lst xs =>
    obtain ⟨i, rfl, h1⟩ := kI_some h
    cases i with
    | negSucc n => exact gC_some h1
    | ofNat n =>
      obtain ⟨q, h2⟩ := setC_some (n := n) h1
      refine ⟨_, ?_, h2⟩
      have : ixN xs.length (Int.ofNat n) = some n := by
        have z1 : (0 : Int) ≤ Int.ofNat n := Int.natCast_nonneg n
        have z2 : (Int.ofNat n : Int) < (xs.length : Int) := by simp only [Int.ofNat_eq_natCast]; omega
        unfold ixN
        rw [if_pos z1, if_pos z2]; rfl
      simp only [stC, this]
  | dK ks vs =>
    obtain ⟨i, rfl, h1⟩ := kI_some h
    rw [bK_eq, lenA_eq, putK_eq] at h1
    split at h1
    · rename_i q
      rw [Nat.ble_eq] at q
      refine ⟨_, ?_, h1⟩
      simp only [stC, keyD]
      rw [if_pos (by unfold szL; omega)]
    · cases h1
  | dT ks vs =>
    obtain ⟨xs, rfl, h1⟩ := kT_some h
    obtain ⟨k0, e1, h1⟩ := keysK_some h1
    have h2 := hasT_some h1
    by_cases q : (ks.any fun k' => decide (k' = k0)) = true
    · rw [if_pos q] at h2; exact gC_some h2
    · rw [if_neg q, bK_eq, lenA_eq, appK_eq, appK_eq] at h2
      split at h2
      · rename_i z
        rw [Nat.ble_eq] at z
        refine ⟨_, ?_, h2⟩
        simp only [stC, e1]
        rw [if_pos (by unfold szL; omega)]
        simp only [putD]
        rw [if_neg q]
      · cases h2
  | _ => cases h
def ls1 (ds : List D) (F : D → O) : O := List.rec none (fun a t _ => List.rec (F a) (fun _ _ _ => none) t) ds
theorem ls1_some {xs : List D} {F : D → O} {o : Qo} (h : ls1 xs F = some o) : ∃ a, xs = [a] ∧ F a = some o := by
  match xs, h with
  | [], h => cases h
  | [a], h => exact ⟨a, rfl, h⟩
  | _ :: _ :: _, h => cases h
theorem ls2_some {xs : List D} {F : D → D → O} {o : Qo} (h : ls2 xs F = some o) : ∃ a b, xs = [a, b] ∧ F a b = some o := tup2_some h
def qApp : QM := fun c ds k => D.kL (fun xs => ls1 ds fun d => appC d xs fun xs => k (.lst xs)) c
theorem pApp : MOk true mAppend qApp := fun c ds k o h => by
  obtain ⟨xs, rfl, h1⟩ := kL_some h
  obtain ⟨d, rfl, h2⟩ := ls1_some h1
  obtain ⟨q, h3⟩ := appC_some h2
  refine ⟨rfl, .non, _, ?_, h3⟩
  simp only [mAppend]
  rw [if_pos (by unfold szL; omega)]
def gMq (isL : Bool) (f : D → List D → Option (D × D)) : QM := fun c ds k => bK (Option.rec none (fun p => k p.2) (f c ds)) none (tyD isL c)
theorem pGM (isL : Bool) (f : D → List D → Option (D × D)) : MOk isL f (gMq isL f) := fun c ds k o h => by
  unfold gMq at h
  rw [bK_eq] at h
  split at h
  · rename_i q
    cases e : f c ds with
    | none => rw [e] at h; cases h
    | some p => rw [e] at h; exact ⟨q, p.1, p.2, rfl, h⟩
  · cases h
/-- pairs into a dict -/
def updK (xs : List D) : List Key → List D → (List Key → List D → O) → O := List.rec (motive := fun _ => List Key → List D → (List Key → List D → O) → O) (fun ks vs k => k ks vs) (fun d _ ih ks vs k => D.kT (fun ab => ls2 ab fun a b => D.kI (fun i => putK i b ks vs fun ks vs => ih ks vs k) a) d) xs
theorem updK_some {o : Qo} : ∀ {xs : List D} {ks : List Key} {vs : List D} {k : List Key → List D → O}, updK xs ks vs k = some o → ∃ ps, pairsD xs = some ps ∧ k (mergeD ks vs ps).1 (mergeD ks vs ps).2 = some o
  | [], ks, vs, k, h => ⟨[], rfl, h⟩
  | d :: xs, ks, vs, k, h => by
    obtain ⟨ab, rfl, h1⟩ := kT_some (k := fun ab => ls2 ab fun a b => D.kI (fun i => putK i b ks vs fun ks vs => updK xs ks vs k) a) (d := d) h
    obtain ⟨a, b, rfl, h2⟩ := ls2_some h1
    obtain ⟨i, rfl, h3⟩ := kI_some h2
    rw [putK_eq] at h3
    obtain ⟨ps, e1, e2⟩ := updK_some (xs := xs) h3
    exact ⟨(.inl i, b) :: ps, by simp only [pairsD, keyD, e1], e2⟩
def qUpd : QM := fun c ds k => D.kK (fun ks vs => ls1 ds fun d => D.kL (fun xs => bK (updK xs ks vs fun ks vs => k (.dK ks vs)) none (Nat.ble (Nat.add (lenA ks) (lenK xs)) 1000000)) d) c
theorem pUpd : MOk false mUpd qUpd := fun c ds k o h => by
  obtain ⟨ks, vs, rfl, h1⟩ := kK_some h
  obtain ⟨d, rfl, h2⟩ := ls1_some h1
  obtain ⟨xs, rfl, h3⟩ := kL_some h2
  rw [bK_eq, lenA_eq, lenK_eq] at h3
  split at h3
  · rename_i q
    rw [Nat.ble_eq] at q
    obtain ⟨ps, e1, e2⟩ := updK_some h3
    refine ⟨rfl, .non, _, ?_, e2⟩
    simp only [mUpd, e1]
    have q : ks.length + xs.length ≤ 1000000 := q
    rw [if_pos (by unfold szL; omega)]
  · cases h3
def D.kLX (k : List D → O) (d : D) : O := D.rec (motive_1 := fun _ => O) (motive_2 := fun _ => Unit) none (fun _ => none) (fun _ => none) (fun _ => none) (fun _ _ => none) (fun xs _ => k xs) (fun _ _ _ => none) (fun _ _ _ => none) (fun _ => none) (fun _ => none) (fun xs _ => k xs) () (fun _ _ _ _ => ()) d
theorem kLX_some {k : List D → O} {d : D} {o : Qo} (h : D.kLX k d = some o) : ∃ i, (d = .lst i ∨ d = .ktup i) ∧ k i = some o := by
  cases d <;> first | exact ⟨_, .inl rfl, h⟩ | exact ⟨_, .inr rfl, h⟩ | cases h
def qDict : Q1 := fun a _ kr => D.kLX (fun xs => bK (updK xs [] [] fun ks vs => kr (.dK ks vs)) none (Nat.ble (lenK xs) 1000000)) a
theorem pDict : P1 dDict qDict := fun a kz kr o h => by
  obtain ⟨xs, hx, h1⟩ := kLX_some h
  rw [bK_eq, lenK_eq] at h1
  split at h1
  · rename_i q
    rw [Nat.ble_eq] at q
    obtain ⟨ps, e1, e2⟩ := updK_some h1
    refine .inr ⟨_, ?_, e2⟩
    rcases hx with rfl | rfl <;> simp only [dDict, e1] <;> rw [if_pos (by unfold szL; omega)]
  · cases h1
def kGet2 (vo vk : QD) (d0 : D) : QR := fun e kz _ => vo e fun c => D.kK (fun ks vs => vk e fun key => D.kI (fun i => lookK i (kz d0) kz ks vs) key) c
theorem rGet2 {mo mk : Ev R} {vo vk : QD} {d0 : D} (ho : DOk mo vo) (hk : DOk mk vk) : ROk (eGet2 mo mk (eVal d0)) (kGet2 vo vk d0) := fun e kz kr o h => by
  obtain ⟨r, c, h1, h2, h3⟩ := ho _ _ _ h
  obtain ⟨ks, vs, rfl, h4⟩ := kK_some h3
  obtain ⟨r2, key, k1, k2, h5⟩ := hk _ _ _ h4
  obtain ⟨i, rfl, h6⟩ := kI_some h5
  rw [lookK_eq] at h6
  refine .inl ⟨.fz ((lookD (.inl i) ks vs).getD d0), _, ?_, (fun _ z => nomatch z), rfl, ?_⟩
  · have n3 : nowL [r, r2, .fz d0] (St e) = some [.dK ks vs, .int i, d0] := by
      have n1 : nowL [R.fz d0] (St e) = some [d0] := rfl
      have n2 : nowL [r2, .fz d0] (St e) = some [.int i, d0] := by
        show (match nowR r2 (St e) with | none => none | some d => match nowL [R.fz d0] (St e) with | none => none | some ds => some (d :: ds)) = _
        rw [k2, n1]
      show (match nowR r (St e) with | none => none | some d => match nowL [r2, .fz d0] (St e) with | none => none | some ds => some (d :: ds)) = _
      rw [h2, n2]
    simp only [eGet2, h1, bd, h2, k1, eVal, n3, dGet2, keyD]
  · split at h6
    · rename_i d e1; simpa [e1] using h6
    · rename_i e1; simpa [e1] using h6
def kLRng (va : QD) : QR := fun e _ kr => va e fun d => D.kI (fun j => Int.rec (fun n => bK (kr (.lst (rngK n))) none (Nat.ble n 1000000)) (fun _ => none) j) d
theorem rLRng {a : Ev R} {va : QD} (ha : DOk a va) : ROk (eLRng1 a) (kLRng va) := fun e kz kr o h => by
  obtain ⟨r, d, h1, h2, h3⟩ := ha _ _ _ h
  obtain ⟨j, rfl, h4⟩ := kI_some h3
  cases j with
  | negSucc n => cases h4
  | ofNat n =>
    have h4 : bK (kr (.lst (rngK n))) none (Nat.ble n 1000000) = some o := h4
    rw [bK_eq, rngK_eq] at h4
    split at h4
    · rename_i hn
      rw [Nat.ble_eq] at hn
      refine .inr ⟨_, ?_, h4⟩
      simp only [eLRng1, h1, bd, h2]
      rw [if_pos (by constructor <;> simp <;> omega)]
      simp
    · cases h4
/-! ### least, greatest, sorted -/
def minKK (ks : List Key) : (Int → O) → O := List.rec (motive := fun _ => (Int → O) → O) (fun _ => none) (fun q t ih k => Sum.rec (fun i => List.rec (k i) (fun _ _ _ => ih fun m => leIK i m (k i) (k m)) t) (fun _ => none) q) ks
theorem minKK_some {o : Qo} : ∀ {ks : List Key} {k : Int → O}, minKK ks k = some o → ∃ ns, keyInts ks = some ns ∧ 0 < ns.length ∧ k (minI ns) = some o
  | [], k, h => nomatch h
  | .inr x :: t, k, h => nomatch h
  | [.inl i], k, h => ⟨[i], rfl, by simp, h⟩
  | .inl i :: q :: t, k, h => by
    have h : minKK (q :: t) (fun m => leIK i m (k i) (k m)) = some o := h
    obtain ⟨ns, h1, h2, h3⟩ := minKK_some h
    rw [leIK_eq] at h3
    match ns, h2 with
    | n :: ns, _ =>
    refine ⟨i :: n :: ns, by rw [keyInts, h1], by simp, ?_⟩
    have : minI (i :: n :: ns) = if i ≤ minI (n :: ns) then i else minI (n :: ns) := by rw [minI]; rfl; intro z; cases z
    rw [this]
    split at h3 <;> rename_i q2 <;> simp only [q2, if_true, if_false] <;> exact h3
def maxKK (ks : List Key) : (Int → O) → O := List.rec (motive := fun _ => (Int → O) → O) (fun _ => none) (fun q t ih k => Sum.rec (fun i => List.rec (k i) (fun _ _ _ => ih fun m => leIK i m (k m) (k i)) t) (fun _ => none) q) ks
theorem maxKK_some {o : Qo} : ∀ {ks : List Key} {k : Int → O}, maxKK ks k = some o → ∃ ns, keyInts ks = some ns ∧ 0 < ns.length ∧ k (maxI ns) = some o
  | [], k, h => nomatch h
  | .inr x :: t, k, h => nomatch h
  | [.inl i], k, h => ⟨[i], rfl, by simp, h⟩
  | .inl i :: q :: t, k, h => by
    have h : maxKK (q :: t) (fun m => leIK i m (k m) (k i)) = some o := h
    obtain ⟨ns, h1, h2, h3⟩ := maxKK_some h
    rw [leIK_eq] at h3
    match ns, h2 with
    | n :: ns, _ =>
    refine ⟨i :: n :: ns, by rw [keyInts, h1], by simp, ?_⟩
    have : maxI (i :: n :: ns) = if i ≤ maxI (n :: ns) then maxI (n :: ns) else i := by rw [maxI]; rfl; intro z; cases z
    rw [this]
    split at h3 <;> rename_i q2 <;> simp only [q2, if_true, if_false] <;> exact h3
def dKE (k : List Key → O) (e : O) (d : D) : O := D.kS e (fun _ => e) (fun _ => e) (fun _ => e) (fun _ => e) (fun _ => e) (fun ks _ => k ks) (fun _ _ => e) (fun _ => e) d
theorem dKE_some {k : List Key → O} {e : O} {d : D} {o : Qo} (h : dKE k e d = some o) : (∃ ks vs, d = .dK ks vs ∧ k ks = some o) ∨ e = some o := by
  cases d <;> first | exact .inl ⟨_, _, rfl, h⟩ | exact .inr h | cases h
def qMinA : Q1 := fun a kz kr => dKE (fun ks => minKK ks fun i => kz (.int i)) (gQ kz kr (dMinA [a])) a
theorem pMinA : P1 dMinA qMinA := fun a kz kr o h => by
  rcases dKE_some h with ⟨ks, vs, rfl, h1⟩ | h1
  · obtain ⟨ns, e1, e2, e3⟩ := minKK_some h1
    exact .inl ⟨_, by simp only [dMinA, dIntsOf, e1]; rw [if_pos e2], e3⟩
  · exact gQ_some h1
def qMaxA : Q1 := fun a kz kr => dKE (fun ks => maxKK ks fun i => kz (.int i)) (gQ kz kr (dMaxA [a])) a
theorem pMaxA : P1 dMaxA qMaxA := fun a kz kr o h => by
  rcases dKE_some h with ⟨ks, vs, rfl, h1⟩ | h1
  · obtain ⟨ns, e1, e2, e3⟩ := maxKK_some h1
    exact .inl ⟨_, by simp only [dMaxA, dIntsOf, e1]; rw [if_pos e2], e3⟩
  · exact gQ_some h1
def intsK (xs : List D) (k : List Int → O) : O := List.rec (motive := fun _ => (List Int → O) → O) (fun k => k []) (fun d _ ih k => D.kI (fun i => ih fun r => k (i :: r)) d) xs k
theorem intsK_some {o : Qo} : ∀ {xs : List D} {k : List Int → O}, intsK xs k = some o → ∃ ks, asInts xs = some ks ∧ k ks = some o
  | [], k, h => ⟨[], rfl, h⟩
  | d :: xs, k, h => by
    obtain ⟨i, rfl, h1⟩ := kI_some (k := fun i => intsK xs fun r => k (i :: r)) (d := d) h
    obtain ⟨ks, h2, h3⟩ := intsK_some (xs := xs) h1
    exact ⟨_, by simp only [asInts, h2], h3⟩
def keyIntsK (xs : List Key) (k : List Int → O) : O := List.rec (motive := fun _ => (List Int → O) → O) (fun k => k []) (fun d _ ih k => Sum.rec (fun i => ih fun r => k (i :: r)) (fun _ => none) d) xs k
theorem keyIntsK_some {o : Qo} : ∀ {xs : List Key} {k : List Int → O}, keyIntsK xs k = some o → ∃ ks, keyInts xs = some ks ∧ k ks = some o
  | [], k, h => ⟨[], rfl, h⟩
  | .inr x :: xs, k, h => nomatch h
  | .inl i :: xs, k, h => by
    have h1 : keyIntsK xs (fun r => k (i :: r)) = some o := h
    obtain ⟨ks, h2, h3⟩ := keyIntsK_some (xs := xs) h1
    exact ⟨_, by simp only [keyInts, h2], h3⟩
def insIK (x : Int) (l : List Int) : List Int := List.rec [x] (fun y t ih => Bool.rec (y :: ih) (x :: y :: t) (leIB x y)) l
theorem insIK_eq (x : Int) : ∀ l, insIK x l = insI x l
  | [] => rfl
  | y :: t => by
    show (Bool.rec (y :: insIK x t) (x :: y :: t) (leIB x y) : List Int) = _
    rw [insIK_eq x t, leIB_eq, insI]
    by_cases h : x ≤ y <;> simp [h]
def sortIK (l : List Int) : List Int := List.rec [] (fun x _ ih => insIK x ih) l
theorem sortIK_eq : ∀ l, sortIK l = sortI l
  | [] => rfl
  | x :: t => by
    show insIK x (sortIK t) = _
    rw [sortIK_eq t, insIK_eq]; rfl
def insUK (x : Int) (l : List Int) : List Int := List.rec [x] (fun y t ih => Bool.rec (x :: y :: t) (Bool.rec (y :: ih) (y :: t) (eqIB x y)) (leIB y x)) l
theorem insUK_eq (x : Int) : ∀ l, insUK x l = insU x l
  | [] => rfl
  | y :: t => by
    show (Bool.rec (x :: y :: t) (Bool.rec (y :: insUK x t) (y :: t) (eqIB x y)) (leIB y x) : List Int) = _
    rw [insUK_eq x t, leIB_eq, eqIB_eq, insU]
    by_cases h : x < y
    · have z : decide (y ≤ x) = false := decide_eq_false (by omega)
      rw [if_pos h, z]
    · have z : decide (y ≤ x) = true := decide_eq_true (by omega)
      rw [if_neg h, z]
      by_cases h2 : x = y
      · have z2 : decide (x = y) = true := decide_eq_true h2
        rw [if_pos h2, z2]
      · have z2 : decide (x = y) = false := decide_eq_false h2
        rw [if_neg h2, z2]
def sortUK (l : List Int) : List Int := List.rec [] (fun x _ ih => insUK x ih) l
theorem sortUK_eq : ∀ l, sortUK l = sortU l
  | [] => rfl
  | x :: t => by
    show insUK x (sortUK t) = _
    rw [sortUK_eq t, insUK_eq]; rfl
def mapIK (l : List Int) : List D := List.rec [] (fun x _ ih => D.int x :: ih) l
theorem mapIK_eq : ∀ l, mapIK l = l.map D.int
  | [] => rfl
  | x :: t => by
    show D.int x :: mapIK t = _
    rw [mapIK_eq t]; rfl
def qSortA : Q1 := fun a kz kr => D.kS none (fun _ => none) (fun _ => none) (fun _ => none) (fun _ => none) (fun xs => intsK xs fun ns => kr (.lst (mapIK (sortIK ns)))) (fun ks _ => keyIntsK ks fun ns => kr (.lst (mapIK (sortIK ns)))) (fun _ _ => none) (fun _ => none) a
theorem pSortA : P1 dSortA qSortA := fun a kz kr o h => by
  cases a with
  | lst xs =>
    obtain ⟨ns, h1, h2⟩ := intsK_some (xs := xs) h
    rw [mapIK_eq, sortIK_eq] at h2
    exact .inr ⟨_, by simp only [dSortA, dSortI, dOfInts, h1], h2⟩
  | dK ks vs =>
    obtain ⟨ns, h1, h2⟩ := keyIntsK_some (xs := ks) h
    rw [mapIK_eq, sortIK_eq] at h2
    exact .inr ⟨_, by simp only [dSortA, h1], h2⟩
  | _ => cases h
def lenI (ns : List Int) : Nat := lenA ns
def qSortSet : Q1 := fun a kz kr => D.kL (fun xs => intsK xs fun ns => bK (kr (.lst (mapIK (sortUK ns)))) none (Nat.ble (lenA ns) 3000)) a
theorem pSortSet : P1 dSortSet qSortSet := fun a kz kr o h => by
  obtain ⟨xs, rfl, h1⟩ := kL_some h
  obtain ⟨ns, h2, h3⟩ := intsK_some h1
  rw [bK_eq, lenA_eq, mapIK_eq, sortUK_eq] at h3
  split at h3
  · rename_i q
    rw [Nat.ble_eq] at q
    refine .inr ⟨_, ?_, h3⟩
    simp only [dSortSet, h2]
    rw [if_pos (by omega)]
  · cases h3
/-! ### the ends of all edges -/
def modC (p : D) (e : Nat) (rows : List (List D)) : (List (List D) → O) → O := Nat.rec (motive := fun _ => List (List D) → (List (List D) → O) → O) (fun l k => List.rec none (fun r t _ => bK (k (appK r p :: t)) none (Nat.ble (lenK r) 100)) l) (fun _ ih l k => List.rec none (fun r t _ => ih t fun t' => k (r :: t')) l) e rows
theorem modC_some {p : D} {o : Qo} : ∀ {e : Nat} {rows : List (List D)} {k : List (List D) → O}, modC p e rows k = some o → e < rows.length ∧ (rows.getD e []).length < szL ∧ k (rows.set e (rows.getD e [] ++ [p])) = some o
  | 0, [], k, h => nomatch h
  | 0, r :: t, k, h => by
    have h : bK (k (appK r p :: t)) none (Nat.ble (lenK r) 100) = some o := h
    rw [bK_eq, lenK_eq, appK_eq] at h
    split at h
    · rename_i q
      rw [Nat.ble_eq] at q
      exact ⟨by simp, by simp; unfold szL; omega, h⟩
    · cases h
  | e + 1, [], k, h => nomatch h
  | e + 1, r :: t, k, h => by
    have h : modC p e t (fun t' => k (r :: t')) = some o := h
    obtain ⟨h1, h2, h3⟩ := modC_some h
    exact ⟨by simpa using h1, by simpa using h2, by simpa using h3⟩
def endsCK (a : Nat) (cs : List D) : Nat → List (List D) → (List (List D) → O) → O := List.rec (motive := fun _ => Nat → List (List D) → (List (List D) → O) → O) (fun _ rows k => k rows) (fun d _ ih c rows k => D.kI (fun i => Int.rec (fun e => modC (.tup [.int (.ofNat a), .int (.ofNat c)]) e rows fun rows => ih (Nat.succ c) rows k) (fun _ => none) i) d) cs
def rowsR (rows : Rows) : List (List D) := rows.map fun r => r.map pairD
theorem rowsR_get (rows : Rows) (e : Nat) : (rowsR rows).getD e [] = (rows.getD e []).map pairD := by
  simp only [rowsR, List.getD, List.getElem?_map]
  cases rows[e]? <;> rfl
theorem rowsR_add (rows : Rows) (e : Nat) (p : Int × Int) : (rowsR rows).set e ((rowsR rows).getD e [] ++ [pairD p]) = rowsR (addEnd rows e p) := by
  rw [rowsR_get]
  simp [rowsR, addEnd, List.map_set]
theorem endsCK_some {a : Nat} {o : Qo} : ∀ {cs : List D} {c : Nat} {rows : Rows} {k : List (List D) → O}, endsCK a cs c (rowsR rows) k = some o → ∃ rows', endsC a cs c rows = some rows' ∧ k (rowsR rows') = some o
  | [], c, rows, k, h => ⟨rows, rfl, h⟩
  | d :: cs, c, rows, k, h => by
    have h : D.kI (fun i => (Int.rec (fun e => modC (.tup [.int (.ofNat a), .int (.ofNat c)]) e (rowsR rows) fun rows => endsCK a cs (Nat.succ c) rows k) (fun _ => none) i : O)) d = some o := h
    obtain ⟨i, rfl, h1⟩ := kI_some h
    cases i with
    | negSucc n => cases h1
    | ofNat e =>
      obtain ⟨h2, h3, h4⟩ := modC_some (e := e) h1
      have e1 : (D.tup [.int (.ofNat a), .int (.ofNat c)]) = pairD ((a : Int), (c : Int)) := rfl
      rw [e1, rowsR_add] at h4
      obtain ⟨rows', h5, h6⟩ := endsCK_some (cs := cs) (c := c + 1) h4
      refine ⟨rows', ?_, h6⟩
      simp only [endsC]
      have l1 : (rowsR rows).length = rows.length := by simp [rowsR]
      rw [rowsR_get] at h3
      have z : (Int.ofNat e).toNat = e := rfl
      rw [z, if_pos ⟨Int.natCast_nonneg e, by omega, by simpa using h3⟩]
      exact h5
def endsLK (cs : List D) : Nat → List (List D) → (List (List D) → O) → O := List.rec (motive := fun _ => Nat → List (List D) → (List (List D) → O) → O) (fun _ rows k => k rows) (fun d _ ih a rows k => D.kT (fun c => endsCK a c 0 rows fun rows => ih (Nat.succ a) rows k) d) cs
theorem endsLK_some {o : Qo} : ∀ {cs : List D} {a : Nat} {rows : Rows} {k : List (List D) → O}, endsLK cs a (rowsR rows) k = some o → ∃ rows', endsL cs a rows = some rows' ∧ k (rowsR rows') = some o
  | [], a, rows, k, h => ⟨rows, rfl, h⟩
  | d :: cs, a, rows, k, h => by
    obtain ⟨c, rfl, h1⟩ := kT_some (k := fun c => endsCK a c 0 (rowsR rows) fun rows => endsLK cs (Nat.succ a) rows k) (d := d) h
    obtain ⟨rows1, h2, h3⟩ := endsCK_some h1
    obtain ⟨rows', h4, h5⟩ := endsLK_some (cs := cs) (a := a + 1) h3
    have h2 : endsC a c 0 rows = some rows1 := h2
    exact ⟨rows', by simp only [endsL, h2]; exact h4, h5⟩
def repK (n : Nat) : List (List D) := Nat.rec [] (fun _ ih => [] :: ih) n
theorem repK_eq : ∀ n, repK n = rowsR (List.replicate n [])
  | 0 => rfl
  | n + 1 => by
    show [] :: repK n = _
    rw [repK_eq n]; simp [rowsR, List.replicate_succ]
def mapL (rows : List (List D)) : List D := List.rec [] (fun r _ ih => D.lst r :: ih) rows
theorem mapL_eq : ∀ rows : Rows, mapL (rowsR rows) = rowsD rows
  | [] => rfl
  | r :: t => by
    show D.lst (r.map pairD) :: mapL (rowsR t) = _
    rw [mapL_eq t]; rfl
def q_ends : Qf := fun ds => ls1 ds fun d => D.kT (fun cs => (fun n => bK (endsLK cs 0 (repK (Nat.mul 2 n)) fun rows => some (.rt (.lst (mapL rows)))) none (Nat.ble n 4000)) (lenK cs)) d
theorem lq_ends : Lq q_ends f_ends := fun ds o h => by
  obtain ⟨d, rfl, h1⟩ := ls1_some h
  obtain ⟨cs, rfl, h2⟩ := kT_some h1
  have h2 : bK (endsLK cs 0 (repK (Nat.mul 2 (lenK cs))) fun rows => some (.rt (.lst (mapL rows)))) none (Nat.ble (lenK cs) 4000) = some o := h2
  rw [bK_eq, lenK_eq, repK_eq] at h2
  split at h2
  · rename_i q
    rw [Nat.ble_eq] at q
    obtain ⟨rows', h3, h4⟩ := endsLK_some h2
    cases h4
    rw [mapL_eq]
    have h3 : endsL cs 0 (List.replicate (2 * cs.length) []) = some rows' := h3
    simp only [f_ends, h3, toF]
    rw [if_pos (by omega)]
  · cases h2
end Ev
end
end
section
set_option Elab.async false
set_option linter.all false
set_option maxRecDepth 100000
set_option maxHeartbeats 4000000
noncomputable section
namespace W71
open PySem PySem.Spec PyProof.Rows L2 Ev
def ls3 (ds : List D) (F : D → D → D → O) : O := List.rec none (fun a t _ => List.rec none (fun b t2 _ => List.rec none (fun c t3 _ => List.rec (F a b c) (fun _ _ _ => none) t3) t2) t) ds
theorem ls3_some {xs : List D} {F : D → D → D → O} {o : Qo} (h : ls3 xs F = some o) : ∃ a b c, xs = [a, b, c] ∧ F a b c = some o := by
  match xs, h with
  | [], h => cases h
  | [a], h => cases h
  | [a, b], h => cases h
  | [a, b, c], h => exact ⟨a, b, c, rfl, h⟩
  | _ :: _ :: _ :: _ :: _, h => cases h
theorem eq_is_whole {v a b : Int} {g : G} : f_is_whole [.int v, .int a, .int b] g = some (.ok (.bl (if a ≤ v then decide (v ≤ b) else false)) g) := by
  by_cases c : a ≤ v
  · simp [f_is_whole, runB, b_is_whole, sRet, eAnd, eOp1, eVar, bd, nowL, nowR, dIsi, tyNm, isiB, lif, eNot, eChain, dLe, dII, c, esc]
  · simp [f_is_whole, runB, b_is_whole, sRet, eAnd, eOp1, eVar, bd, nowL, nowR, dIsi, tyNm, isiB, lif, eNot, eChain, dLe, dII, c, esc]
def rtB (b : Bool) : O := some (.rt (.bl b))
def q_is_whole : Qf := fun ds => ls3 ds fun v a b => (fun e => intE (fun v => intE (fun a => intE (fun b => leIK a v (leIK v b (rtB true) (rtB false)) (rtB false)) e b) e a) e v) (slow f_is_whole ds)
theorem lq_is_whole : Lq q_is_whole f_is_whole := fun ds o h => by
  obtain ⟨v, a, b, rfl, h1⟩ := ls3_some h
  rcases intE_some h1 with ⟨v, rfl, h2⟩ | h2
  · rcases intE_some h2 with ⟨a, rfl, h3⟩ | h3
    · rcases intE_some h3 with ⟨b, rfl, h4⟩ | h4
      · rw [leIK_eq, leIK_eq] at h4
        rw [eq_is_whole]
        by_cases c1 : a ≤ v
        · rw [if_pos c1] at h4 ⊢
          by_cases c2 : v ≤ b
          · rw [if_pos c2] at h4; cases h4; rw [decide_eq_true c2]; rfl
          · rw [if_neg c2] at h4; cases h4; rw [decide_eq_false c2]; rfl
        · rw [if_neg c1] at h4 ⊢
          cases h4; rfl
      · exact lqSlow _ _ _ h4
    · exact lqSlow _ _ _ h3
  · exact lqSlow _ _ _ h2
def wx_need_whole : {qc : QC // COk b_need_whole qc} := ⟨_, (cIf (tNotOk (tTruOk (dR (rCall lq_is_whole (aConsOk (rVar 0) (aConsOk (rVar 1) (aConsOk (rVar 2) aNilOk))))))) (cRaise 1) cNil)⟩
def q_need_whole : Qf := kRun3 [] wx_need_whole.1
theorem lq_need_whole : Lq q_need_whole f_need_whole := lq3 wx_need_whole.2
def kTTE (k : List D → O) (e : O) (d : D) : O := D.kS e (fun _ => e) (fun _ => e) (fun _ => e) k (fun _ => e) (fun _ _ => e) (fun _ _ => e) k d
theorem kTTE_some {k : List D → O} {e : O} {d : D} {o : Qo} (h : kTTE k e d = some o) : (∃ i, (d = .tup i ∨ d = .ktup i) ∧ k i = some o) ∨ e = some o := by
  cases d <;> first | exact .inl ⟨_, .inl rfl, h⟩ | exact .inl ⟨_, .inr rfl, h⟩ | exact .inr h | cases h
theorem eq_is_tuple_of {xs : List D} {d : D} {a b : Int} {g : G} (hd : d = .tup xs ∨ d = .ktup xs) : f_is_tuple_of [d, .int a, .int b] g = some (.ok (.bl (if a ≤ (xs.length : Int) then decide ((xs.length : Int) ≤ b) else false)) g) := by
  rcases hd with rfl | rfl
  · by_cases c : a ≤ (xs.length : Int)
    · simp [f_is_tuple_of, runB, b_is_tuple_of, sRet, eAnd, eOp1, eOpL, aCons, aNil, eVar, bd, nowL, nowR, dIsi, tyNm, isiB, lif, eNot, eChain, dLe, dII, c, esc, dLenA, dLen]
    · simp [f_is_tuple_of, runB, b_is_tuple_of, sRet, eAnd, eOp1, eOpL, aCons, aNil, eVar, bd, nowL, nowR, dIsi, tyNm, isiB, lif, eNot, eChain, dLe, dII, c, esc, dLenA, dLen]
  · by_cases c : a ≤ (xs.length : Int)
    · simp [f_is_tuple_of, runB, b_is_tuple_of, sRet, eAnd, eOp1, eOpL, aCons, aNil, eVar, bd, nowL, nowR, dIsi, tyNm, isiB, lif, eNot, eChain, dLe, dII, c, esc, dLenA, dLen]
    · simp [f_is_tuple_of, runB, b_is_tuple_of, sRet, eAnd, eOp1, eOpL, aCons, aNil, eVar, bd, nowL, nowR, dIsi, tyNm, isiB, lif, eNot, eChain, dLe, dII, c, esc, dLenA, dLen]
def q_is_tuple_of : Qf := fun ds => ls3 ds fun v a b => (fun e => kTTE (fun xs => intE (fun a => intE (fun b => (fun n => leIK a n (leIK n b (rtB true) (rtB false)) (rtB false)) (Int.ofNat (lenK xs))) e b) e a) e v) (slow f_is_tuple_of ds)
theorem lq_is_tuple_of : Lq q_is_tuple_of f_is_tuple_of := fun ds o h => by
  obtain ⟨v, a, b, rfl, h1⟩ := ls3_some h
  rcases kTTE_some h1 with ⟨xs, hd, h2⟩ | h2
  · rcases intE_some h2 with ⟨a, rfl, h3⟩ | h3
    · rcases intE_some h3 with ⟨b, rfl, h4⟩ | h4
      · have h4 : leIK a (lenK xs : Int) (leIK (lenK xs : Int) b (rtB true) (rtB false)) (rtB false) = some o := h4
        rw [leIK_eq, leIK_eq, lenK_eq] at h4
        rw [eq_is_tuple_of hd]
        by_cases c1 : a ≤ (xs.length : Int)
        · rw [if_pos c1] at h4 ⊢
          by_cases c2 : (xs.length : Int) ≤ b
          · rw [if_pos c2] at h4; cases h4; rw [decide_eq_true c2]; rfl
          · rw [if_neg c2] at h4; cases h4; rw [decide_eq_false c2]; rfl
        · rw [if_neg c1] at h4 ⊢
          cases h4; rfl
      · exact lqSlow _ _ _ h4
    · exact lqSlow _ _ _ h3
  · exact lqSlow _ _ _ h2
def wx_is_crossing_of : {qc : QC // COk b_is_crossing_of qc} := ⟨_, (cRet (dR (rAnd (dR (rCall lq_is_tuple_of (aConsOk (rVar 0) (aConsOk (rVal (.int (Int.ofNat (nat_lit 4)))) (aConsOk (rVal (.int (Int.ofNat (nat_lit 4)))) aNilOk))))) (rOpL1 pAll (dR (rComp (jSeq (rVar 0)) (hD 2) tYesOk (rCall lq_is_whole (aConsOk (rVar 2) (aConsOk (rVal (.int (Int.ofNat (nat_lit 0)))) (aConsOk (rOp2 pSub (dVar 1) (dR (rVal (.int (Int.ofNat (nat_lit 1)))))) aNilOk))))))))))⟩
def q_is_crossing_of : Qf := kRun2 [.no] wx_is_crossing_of.1
theorem lq_is_crossing_of : Lq q_is_crossing_of f_is_crossing_of := lq2 wx_is_crossing_of.2
abbrev q_ends_of : Qf := q_ends
theorem lq_ends_of : Lq q_ends_of f_ends_of := lq_ends
def wx_other_end : {qc : QC // COk b_other_end qc} := ⟨_, (cSeq (cAsg (rOp2 pIx (dVar 0) (dR (rOp2 pIx (dR (rOp2 pIx (dVar 1) (dR (rOp2 pIx (dVar 2) (dR (rVal (.int (Int.ofNat (nat_lit 0))))))))) (dR (rOp2 pIx (dVar 2) (dR (rVal (.int (Int.ofNat (nat_lit 1)))))))))))
  (cRet (dIf (tOp2Ok ptEq (dR (rOp2 pIx (dVar 3) (dR (rVal (.int (Int.ofNat (nat_lit 0))))))) (dVar 2)) (dR (rOp2 pIx (dVar 3) (dR (rVal (.int (Int.ofNat (nat_lit 1))))))) (dR (rOp2 pIx (dVar 3) (dR (rVal (.int (Int.ofNat (nat_lit 0))))))))))⟩
def q_other_end : Qf := kRun3 [.no] wx_other_end.1
theorem lq_other_end : Lq q_other_end f_other_end := lq3 wx_other_end.2
def wx_face_list : {qc : QC // COk b_face_list qc} := ⟨_, (cSeq (cPar3 (rCall lq_ends_of (aConsOk (rVar 0) aNilOk)) (rNew _) (rLst aNilOk))
  (cSeq (cFor (iOfJ (jRng (dR (rOpL1 pLen (dVar 0))))) (gD 4) (cFor (iOfJ (jRng (dR (rVal (.int (Int.ofNat (nat_lit 4))))))) (gD 5) (cIf (tOp2Ok ptNin (dR (rTup (aConsOk (rVar 4) (aConsOk (rVar 5) aNilOk)))) (dVar 2)) (cSeq (cPar2 (rLst aNilOk) (rTup (aConsOk (rVar 4) (aConsOk (rVar 5) aNilOk))))
  (cSeq (cWh (tOp2Ok ptNin (dVar 7) (dVar 2)) (cSeq (cAsgD (rVal _) (gS pSt (dVar 7)))
  (cSeq (cMetV pApp)
  (cSeq (cAsg (rCall lq_other_end (aConsOk (rVar 1) (aConsOk (rVar 0) (aConsOk (rVar 7) aNilOk)))))
  (cAsg (rTup (aConsOk (rOp2 pIx (dVar 8) (dR (rVal (.int (Int.ofNat (nat_lit 0)))))) (aConsOk (rOp2 pMod (dR (rOp2 pAdd (dR (rOp2 pIx (dVar 8) (dR (rVal (.int (Int.ofNat (nat_lit 1))))))) (dR (rVal (.int (Int.ofNat (nat_lit 3))))))) (dR (rVal (.int (Int.ofNat (nat_lit 4)))))) aNilOk))))))))
  (cMetV pApp))) cNil)))
  (cRet (dVar 3))))⟩
def q_face_list : Qf := kRun1 [.no, .no, .no, .no, .no, .no, .no, .no] wx_face_list.1
theorem lq_face_list : Lq q_face_list f_face_list := lq1 wx_face_list.2
def wx_piece_list : {qc : QC // COk b_piece_list qc} := ⟨_, (cSeq (cPar3 (rCall lq_ends_of (aConsOk (rVar 0) aNilOk)) (rLst aNilOk) (rNew _))
  (cSeq (cFor (iOfJ (jRng (dR (rOpL1 pLen (dVar 0))))) (gD 4) (cIf (tOp2Ok ptNin (dVar 4) (dVar 3)) (cSeq (cPar2 (rLst (aConsOk (rVar 4) aNilOk)) (rVal (.int (Int.ofNat (nat_lit 0)))))
  (cSeq (cAsgD (rVal _) (gS pSt (dVar 4)))
  (cSeq (cWh (tOp2Ok ptLt (dVar 6) (dR (rOpL1 pLen (dVar 5)))) (cSeq (cFor (iOfJ (jRng (dR (rVal (.int (Int.ofNat (nat_lit 4))))))) (gD 7) (cSeq (cAsg (rOp2 pIx (dR (rCall lq_other_end (aConsOk (rVar 1) (aConsOk (rVar 0) (aConsOk (rTup (aConsOk (rOp2 pIx (dVar 5) (dVar 6)) (aConsOk (rVar 7) aNilOk))) aNilOk))))) (dR (rVal (.int (Int.ofNat (nat_lit 0)))))))
  (cIf (tOp2Ok ptNin (dVar 8) (dVar 3)) (cSeq (cAsgD (rVal _) (gS pSt (dVar 8)))
  (cMetV pApp)) cNil)))
  (cAsg (rOp2 pAdd (dVar 6) (dR (rVal (.int (Int.ofNat (nat_lit 1)))))))))
  (cMet pApp (aConsOk (rOpL1 pSortA (dVar 5)) aNilOk))))) cNil))
  (cRet (dVar 2))))⟩
def q_piece_list : Qf := kRun1 [.no, .no, .no, .no, .no, .no, .no, .no] wx_piece_list.1
theorem lq_piece_list : Lq q_piece_list f_piece_list := lq1 wx_piece_list.2
def wx_is_picture : {qc : QC // COk b_is_picture qc} := ⟨_, (cSeq (cIf (tOrOk (tNotOk (tTruOk (dR (rCall lq_is_tuple_of (aConsOk (rVar 0) (aConsOk (rVal (.int (Int.ofNat (nat_lit 2)))) (aConsOk (rVal (.int (Int.ofNat (nat_lit 2)))) aNilOk))))))) (tOrOk (tNotOk (tTruOk (dR (rCall lq_is_tuple_of (aConsOk (rOp2 pIx (dVar 0) (dR (rVal (.int (Int.ofNat (nat_lit 0)))))) (aConsOk (rVal (.int (Int.ofNat (nat_lit 0)))) (aConsOk (rVal (.int (Int.ofNat (nat_lit 40)))) aNilOk))))))) (tNotOk (tTruOk (dR (rCall lq_is_whole (aConsOk (rOp2 pIx (dVar 0) (dR (rVal (.int (Int.ofNat (nat_lit 1)))))) (aConsOk (rVal (.int (Int.ofNat (nat_lit 0)))) (aConsOk (rVal (.int (Int.ofNat (nat_lit 20)))) aNilOk))))))))) (cRet (dR (rVal _))) cNil)
  (cSeq (cAsg (rOp2 pIx (dVar 0) (dR (rVal (.int (Int.ofNat (nat_lit 0)))))))
  (cSeq (cIf (tNotOk (tTruOk (dR (rOpL1 pAll (dR (rComp (jSeq (rVar 1)) (hD 2) tYesOk (rCall lq_is_crossing_of (aConsOk (rVar 2) (aConsOk (rOp2 pMul (dR (rVal (.int (Int.ofNat (nat_lit 2))))) (dR (rOpL1 pLen (dVar 1)))) aNilOk))))))))) (cRet (dR (rVal _))) cNil)
  (cSeq (cIf (tNotOk (tTruOk (dR (rOpL1 pAll (dR (rComp (jSeq (rCall lq_ends_of (aConsOk (rVar 1) aNilOk))) (hD 3) tYesOk (rT2 ptEq (dR (rOpL1 pLen (dVar 3))) (dR (rVal (.int (Int.ofNat (nat_lit 2)))))))))))) (cRet (dR (rVal _))) cNil)
  (cRet (dR (rT2 ptEq (dR (rOpL1 pLen (dR (rCall lq_face_list (aConsOk (rVar 1) aNilOk))))) (dR (rOp2 pAdd (dR (rOpL1 pLen (dVar 1))) (dR (rOp2 pMul (dR (rVal (.int (Int.ofNat (nat_lit 2))))) (dR (rOpL1 pLen (dR (rCall lq_piece_list (aConsOk (rVar 1) aNilOk))))))))))))))))⟩
def q_is_picture : Qf := kRun1 [.no, .no, .no] wx_is_picture.1
theorem lq_is_picture : Lq q_is_picture f_is_picture := lq1 wx_is_picture.2
def wx_need_picture : {qc : QC // COk b_need_picture qc} := ⟨_, (cIf (tNotOk (tTruOk (dR (rCall lq_is_picture (aConsOk (rVar 0) aNilOk))))) (cRaise 3) cNil)⟩
def q_need_picture : Qf := kRun1 [] wx_need_picture.1
theorem lq_need_picture : Lq q_need_picture f_need_picture := lq1 wx_need_picture.2
def wx_cord_from : {qc : QC // COk b_cord_from qc} := ⟨_, (cSeq (cPar2 (rLst (aConsOk (rVar 2) aNilOk)) (rOp2 pIx (dR (rOp2 pIx (dVar 0) (dVar 2))) (dVar 3)))
  (cSeq (cWh (tOp2Ok ptLe (dR (rOpL1 pLen (dVar 4))) (dR (rOp2 pMul (dR (rVal (.int (Int.ofNat (nat_lit 2))))) (dR (rOpL1 pLen (dVar 1)))))) (cSeq (cAsg (rTup (aConsOk (rOp2 pIx (dVar 5) (dR (rVal (.int (Int.ofNat (nat_lit 0)))))) (aConsOk (rOp2 pMod (dR (rOp2 pAdd (dR (rOp2 pIx (dVar 5) (dR (rVal (.int (Int.ofNat (nat_lit 1))))))) (dR (rVal (.int (Int.ofNat (nat_lit 2))))))) (dR (rVal (.int (Int.ofNat (nat_lit 4)))))) aNilOk))))
  (cSeq (cAsg (rOp2 pIx (dR (rOp2 pIx (dVar 1) (dR (rOp2 pIx (dVar 6) (dR (rVal (.int (Int.ofNat (nat_lit 0))))))))) (dR (rOp2 pIx (dVar 6) (dR (rVal (.int (Int.ofNat (nat_lit 1)))))))))
  (cSeq (cIf (tAndOk (tOp2Ok ptEq (dVar 7) (dVar 2)) (tOp2Ok ptEq (dR (rCall lq_other_end (aConsOk (rVar 0) (aConsOk (rVar 1) (aConsOk (rVar 6) aNilOk))))) (dR (rOp2 pIx (dR (rOp2 pIx (dVar 0) (dVar 2))) (dVar 3))))) (cRet (dVar 4)) cNil)
  (cSeq (cMetV pApp)
  (cAsg (rCall lq_other_end (aConsOk (rVar 0) (aConsOk (rVar 1) (aConsOk (rVar 6) aNilOk))))))))))
  (cRet (dVar 4))))⟩
def q_cord_from : Qf := kRun4 [.no, .no, .no, .no] wx_cord_from.1
theorem lq_cord_from : Lq q_cord_from f_cord_from := lq4 wx_cord_from.2
def wx_cord_list : {qc : QC // COk b_cord_list qc} := ⟨_, (cSeq (cPar3 (rCall lq_ends_of (aConsOk (rVar 0) aNilOk)) (rLst aNilOk) (rNew _))
  (cSeq (cFor (iOfJ (jRng (dR (rOp2 pMul (dR (rVal (.int (Int.ofNat (nat_lit 2))))) (dR (rOpL1 pLen (dVar 0))))))) (gD 4) (cIf (tOp2Ok ptNin (dVar 4) (dVar 3)) (cSeq (cAsg (rComp (jRng (dR (rVal (.int (Int.ofNat (nat_lit 2)))))) (hD 6) tYesOk (rCall lq_cord_from (aConsOk (rVar 1) (aConsOk (rVar 0) (aConsOk (rVar 4) (aConsOk (rVar 6) aNilOk)))))))
  (cSeq (cMet pUpd (aConsOk (rComp (jSeq (rOp2 pIx (dVar 5) (dR (rVal (.int (Int.ofNat (nat_lit 0))))))) (hD 7) tYesOk (rTup (aConsOk (rVar 7) (aConsOk (rVal _) aNilOk)))) aNilOk))
  (cMet pApp (aConsOk (rOpL1 pTuple (dR (rOpL1 pMinA (dVar 5)))) aNilOk)))) cNil))
  (cRet (dVar 2))))⟩
def q_cord_list : Qf := kRun1 [.no, .no, .no, .no, .no, .no, .no] wx_cord_list.1
theorem lq_cord_list : Lq q_cord_list f_cord_list := lq1 wx_cord_list.2
def wx_count_cords : {qc : QC // COk b_count_cords qc} := ⟨_, (cSeq (cExprCall lq_need_picture (aConsOk (rVar 0) aNilOk))
  (cRet (dR (rOp2 pAdd (dR (rOpL1 pLen (dR (rCall lq_cord_list (aConsOk (rOp2 pIx (dVar 0) (dR (rVal (.int (Int.ofNat (nat_lit 0)))))) aNilOk))))) (dR (rOp2 pIx (dVar 0) (dR (rVal (.int (Int.ofNat (nat_lit 1)))))))))))⟩
def q_count_cords : Qf := kRun1 [] wx_count_cords.1
theorem lq_count_cords : Lq q_count_cords f_count_cords := lq1 wx_count_cords.2
def wx_is_sum : {qc : QC // COk b_is_sum qc} := ⟨_, (cSeq (cIf (tOrOk (tNotOk (tTruOk (dR (rCall lq_is_tuple_of (aConsOk (rVar 0) (aConsOk (rVal (.int (Int.ofNat (nat_lit 0)))) (aConsOk (rVal (.int (Int.ofNat (nat_lit 400)))) aNilOk))))))) (tNotOk (tTruOk (dR (rOpL1 pAll (dR (rComp (jSeq (rVar 0)) (hD 1) tYesOk (rCall lq_is_tuple_of (aConsOk (rVar 1) (aConsOk (rVal (.int (Int.ofNat (nat_lit 2)))) (aConsOk (rVal (.int (Int.ofNat (nat_lit 2)))) aNilOk))))))))))) (cRet (dR (rVal _))) cNil)
  (cSeq (cIf (tNotOk (tTruOk (dR (rOpL1 pAll (dR (rComp (jSeq (rVar 0)) (hT2 (hD 2) (hD 3)) tYesOk (rAnd (dR (rCall lq_is_whole (aConsOk (rVar 2) (aConsOk (rNegLit (n := nat_lit 999)) (aConsOk (rVal (.int (Int.ofNat (nat_lit 1000)))) aNilOk))))) (rCall lq_is_whole (aConsOk (rVar 3) (aConsOk (rNegLit (n := nat_lit 999999999999999999999999999999999999999999999999999999999999)) (aConsOk (rVal (.int (Int.ofNat (nat_lit 1000000000000000000000000000000000000000000000000000000000000)))) aNilOk))))))))))) (cRet (dR (rVal _))) cNil)
  (cSeq (cIf (tNotOk (tTruOk (dR (rOpL1 pAll (dR (rComp (jSeq (rVar 0)) (hT2 (hD 2) (hD 3)) tYesOk (rT2 ptNe (dVar 3) (dR (rVal (.int (Int.ofNat (nat_lit 0)))))))))))) (cRet (dR (rVal _))) cNil)
  (cRet (dR (rOpL1 pAll (dR (rComp (jZp (aConsOk (rVar 0) (aConsOk (rOp1 (pG1 _) (dVar 0)) aNilOk))) (hT2 (hD 4) (hD 5)) tYesOk (rT2 ptLt (dR (rOp2 pIx (dVar 4) (dR (rVal (.int (Int.ofNat (nat_lit 0))))))) (dR (rOp2 pIx (dVar 5) (dR (rVal (.int (Int.ofNat (nat_lit 0))))))))))))))))⟩
def q_is_sum : Qf := kRun1 [.no, .no, .no, .no, .no] wx_is_sum.1
theorem lq_is_sum : Lq q_is_sum f_is_sum := lq1 wx_is_sum.2
def wx_need_sum : {qc : QC // COk b_need_sum qc} := ⟨_, (cIf (tNotOk (tTruOk (dR (rCall lq_is_sum (aConsOk (rVar 0) aNilOk))))) (cRaise 2) cNil)⟩
def q_need_sum : Qf := kRun1 [] wx_need_sum.1
theorem lq_need_sum : Lq q_need_sum f_need_sum := lq1 wx_need_sum.2
def wx_from_dict : {qc : QC // COk b_from_dict qc} := ⟨_, (cRet (dR (rOpL1 pTupX (dR (rComp (jSeq (rOpL1 pSortA (dVar 0))) (hD 1) (tOp2Ok ptNe (dR (rOp2 pIx (dVar 0) (dVar 1))) (dR (rVal (.int (Int.ofNat (nat_lit 0)))))) (rTup (aConsOk (rVar 1) (aConsOk (rOp2 pIx (dVar 0) (dVar 1)) aNilOk))))))))⟩
def q_from_dict : Qf := kRun1 [.no] wx_from_dict.1
theorem lq_from_dict : Lq q_from_dict f_from_dict := lq1 wx_from_dict.2
def wx_times : {qc : QC // COk b_times qc} := ⟨_, (cSeq (cAsg (rNew _))
  (cSeq (cFor iSeqV (gT2 (gD 3) (gD 4)) (cFor iSeqV (gT2 (gD 5) (gD 6)) (cAsgD (rOp2 pAdd (dR (rGet2 (dVar 2) (dR (rOp2 pAdd (dVar 3) (dVar 5))))) (dR (rOp2 pMul (dVar 4) (dVar 6)))) (gS pSt (dR (rOp2 pAdd (dVar 3) (dVar 5)))))))
  (cRetCall lq_from_dict (wConsOk (dVar 2) wNilOk))))⟩
def q_times : Qf := kRun2 [.no, .no, .no, .no, .no] wx_times.1
theorem lq_times : Lq q_times f_times := lq2 wx_times.2
def wx_product : {qc : QC // COk b_product qc} := ⟨_, (cSeq (cExprCall lq_need_sum (aConsOk (rVar 0) aNilOk))
  (cSeq (cExprCall lq_need_sum (aConsOk (rVar 1) aNilOk))
  (cRetCall lq_times (wConsOk (dVar 0) (wConsOk (dVar 1) wNilOk)))))⟩
def q_product : Qf := kRun2 [] wx_product.1
theorem lq_product : Lq q_product f_product := lq2 wx_product.2
def wx_turned : {qc : QC // COk b_turned qc} := ⟨_, (cSeq (cExprCall lq_need_sum (aConsOk (rVar 0) aNilOk))
  (cRet (dR (rOpL1 pTuple (dR (rComp (jSeq (rOp1 (pG1 _) (dVar 0))) (hT2 (hD 1) (hD 2)) tYesOk (rTup (aConsOk (rOp1 pNeg (dVar 1)) (aConsOk (rVar 2) aNilOk)))))))))⟩
def q_turned : Qf := kRun1 [.no, .no] wx_turned.1
theorem lq_turned : Lq q_turned f_turned := lq1 wx_turned.2
def wx_value_at : {qc : QC // COk b_value_at qc} := ⟨_, (cSeq (cExprCall lq_need_sum (aConsOk (rVar 0) aNilOk))
  (cSeq (cIf (tOrOk (tNotOk (tTruOk (dR (rCall lq_is_whole (aConsOk (rVar 1) (aConsOk (rNegLit (n := nat_lit 0)) (aConsOk (rVal (.int (Int.ofNat (nat_lit 1)))) aNilOk))))))) (tOp2Ok ptEq (dVar 1) (dR (rVal (.int (Int.ofNat (nat_lit 0))))))) (cRaise 1) cNil)
  (cRet (dR (rOpL1 (pG1 _) (dR (rComp (jSeq (rVar 0)) (hT2 (hD 2) (hD 3)) tYesOk (rIf (tOrOk (tOp2Ok ptEq (dVar 1) (dR (rVal (.int (Int.ofNat (nat_lit 1)))))) (tOp2Ok ptEq (dR (rOp2 pMod (dVar 2) (dR (rVal (.int (Int.ofNat (nat_lit 2))))))) (dR (rVal (.int (Int.ofNat (nat_lit 0))))))) (rVar 3) (rOp1 pNeg (dVar 3))))))))))⟩
def q_value_at : Qf := kRun2 [.no, .no] wx_value_at.1
theorem lq_value_at : Lq q_value_at f_value_at := lq2 wx_value_at.2
def wx_quotient : {qc : QC // COk b_quotient qc} := ⟨_, (cSeq (cExprCall lq_need_sum (aConsOk (rVar 0) aNilOk))
  (cSeq (cExprCall lq_need_sum (aConsOk (rVar 1) aNilOk))
  (cSeq (cIf (tOp2Ok ptEq (dVar 1) (dR (rTup aNilOk))) (cRaise 5) cNil)
  (cSeq (cPar2 (rOpL1 pDict (dVar 0)) (rNew _))
  (cSeq (cAsgD (rOp2 pIx (dVar 1) (dR (rVal (.int (Int.ofNat (nat_lit 0)))))) (gT2 (gD 4) (gD 5)))
  (cSeq (cWh (tOp2Ok ptGt (dR (rOpL1 pLen (dVar 2))) (dR (rVal (.int (Int.ofNat (nat_lit 0)))))) (cSeq (cAsg (rOpL1 pMinA (dVar 2)))
  (cSeq (cIf (tOrOk (tOp2Ok ptNe (dR (rOp2 pMod (dR (rOp2 pIx (dVar 2) (dVar 6))) (dVar 5))) (dR (rVal (.int (Int.ofNat (nat_lit 0)))))) (tOp2Ok ptGt (dR (rOp2 pSub (dVar 6) (dVar 4))) (dR (rOp2 pMul (dR (rVal (.int (Int.ofNat (nat_lit 1000))))) (dR (rVal (.int (Int.ofNat (nat_lit 3))))))))) (cRaise 5) cNil)
  (cSeq (cPar2 (rOp2 pSub (dVar 6) (dVar 4)) (rOp2 (pG2 _) (dR (rOp2 pIx (dVar 2) (dVar 6))) (dVar 5)))
  (cSeq (cIf (tOp2Ok ptLt (dR (rOp2 pSub (dR (rOpL1 pMaxA (dVar 2))) (dVar 7))) (dR (rOp2 pIx (dR (rOp2 pIx (dVar 1) (dR (rNegLit (n := nat_lit 0))))) (dR (rVal (.int (Int.ofNat (nat_lit 0)))))))) (cRaise 5) cNil)
  (cSeq (cAsgD (rVar 8) (gS pSt (dVar 7)))
  (cSeq (cFor iSeqV (gT2 (gD 9) (gD 10)) (cSeq (cAsg (rOp2 pSub (dR (rGet2 (dVar 2) (dR (rOp2 pAdd (dVar 9) (dVar 7))))) (dR (rOp2 pMul (dVar 8) (dVar 10)))))
  (cAsgD (rVar 11) (gS pSt (dR (rOp2 pAdd (dVar 9) (dVar 7)))))))
  (cAsgX (zOpL1 pDict (zCompK (hD 12) (tOp2Ok ptNe (dR (rOp2 pIx (dVar 2) (dVar 12))) (dR (rVal (.int (Int.ofNat (nat_lit 0)))))) (rTup (aConsOk (rVar 12) (aConsOk (rOp2 pIx (dVar 2) (dVar 12)) aNilOk)))))))))))))
  (cRetCall lq_from_dict (wConsOk (dVar 3) wNilOk))))))))⟩
def q_quotient : Qf := kRun2 [.no, .no, .no, .no, .no, .no, .no, .no, .no, .no, .no] wx_quotient.1
theorem lq_quotient : Lq q_quotient f_quotient := lq2 wx_quotient.2
def wx_need_torus : {qc : QC // COk b_need_torus qc} := ⟨_, (cSeq (cExprCall lq_need_whole (aConsOk (rVar 0) (aConsOk (rVal (.int (Int.ofNat (nat_lit 2)))) (aConsOk (rVal (.int (Int.ofNat (nat_lit 8)))) aNilOk))))
  (cSeq (cExprCall lq_need_whole (aConsOk (rVar 1) (aConsOk (rVal (.int (Int.ofNat (nat_lit 1)))) (aConsOk (rVal (.int (Int.ofNat (nat_lit 40)))) aNilOk))))
  (cIf (tOp2Ok ptGt (dR (rOp2 pMul (dR (rOp2 pSub (dVar 0) (dR (rVal (.int (Int.ofNat (nat_lit 1))))))) (dVar 1))) (dR (rVal (.int (Int.ofNat (nat_lit 40)))))) (cRaise 1) cNil)))⟩
def q_need_torus : Qf := kRun2 [] wx_need_torus.1
theorem lq_need_torus : Lq q_need_torus f_need_torus := lq2 wx_need_torus.2
def wx_need_single : {qc : QC // COk b_need_single qc} := ⟨_, (cSeq (cExprCall lq_need_torus (aConsOk (rVar 0) (aConsOk (rVar 1) aNilOk)))
  (cIf (tOp2Ok ptGt (dR (rOpL2 (pG2 _) (dVar 0) (dVar 1))) (dR (rVal (.int (Int.ofNat (nat_lit 1)))))) (cRaise 6) cNil))⟩
def q_need_single : Qf := kRun2 [] wx_need_single.1
theorem lq_need_single : Lq q_need_single f_need_single := lq2 wx_need_single.2
def wx_less_one : {qc : QC // COk b_less_one qc} := ⟨_, (cRetTup (wConsOk (dR (rTup (aConsOk (rVal (.int (Int.ofNat (nat_lit 0)))) (aConsOk (rNegLit (n := nat_lit 0)) aNilOk)))) (wConsOk (dR (rTup (aConsOk (rVar 0) (aConsOk (rVal (.int (Int.ofNat (nat_lit 1)))) aNilOk)))) wNilOk)))⟩
def q_less_one : Qf := kRun1 [] wx_less_one.1
theorem lq_less_one : Lq q_less_one f_less_one := lq1 wx_less_one.2
def wx_crossings_from : {qc : QC // COk b_crossings_from qc} := ⟨_, (cSeq (cPar2 (rOpL1 pList (dVar 2)) (rLst aNilOk))
  (cSeq (cFor (iOfJ (jRng (dR (rOp2 pMul (dR (rOp2 pSub (dVar 0) (dR (rVal (.int (Int.ofNat (nat_lit 1))))))) (dVar 1))))) (gD 4) (cSeq (cAsg (rOp2 pMod (dVar 4) (dR (rOp2 pSub (dVar 0) (dR (rVal (.int (Int.ofNat (nat_lit 1)))))))))
  (cSeq (cMet pApp (aConsOk (rTup (aConsOk (rOp2 pIx (dVar 2) (dR (rOp2 pAdd (dVar 5) (dR (rVal (.int (Int.ofNat (nat_lit 1)))))))) (aConsOk (rOp2 pAdd (dR (rOp2 pMul (dR (rVal (.int (Int.ofNat (nat_lit 2))))) (dVar 4))) (dR (rVal (.int (Int.ofNat (nat_lit 1)))))) (aConsOk (rOp2 pMul (dR (rVal (.int (Int.ofNat (nat_lit 2))))) (dVar 4)) (aConsOk (rOp2 pIx (dVar 2) (dVar 5)) aNilOk))))) aNilOk))
  (cAsgD (rTup (aConsOk (rOp2 pMul (dR (rVal (.int (Int.ofNat (nat_lit 2))))) (dVar 4)) (aConsOk (rOp2 pAdd (dR (rOp2 pMul (dR (rVal (.int (Int.ofNat (nat_lit 2))))) (dVar 4))) (dR (rVal (.int (Int.ofNat (nat_lit 1)))))) aNilOk))) (gT2 (gS pSt (dVar 5)) (gS pSt (dR (rOp2 pAdd (dVar 5) (dR (rVal (.int (Int.ofNat (nat_lit 1)))))))))))))
  (cRetTup (wConsOk (dVar 3) (wConsOk (dVar 2) wNilOk)))))⟩
def q_crossings_from : Qf := kRun3 [.no, .no, .no] wx_crossings_from.1
theorem lq_crossings_from : Lq q_crossings_from f_crossings_from := lq3 wx_crossings_from.2
def wx_torus_picture : {qc : QC // COk b_torus_picture qc} := ⟨_, (cSeq (cExprCall lq_need_torus (aConsOk (rVar 0) (aConsOk (rVar 1) aNilOk)))
  (cSeq (cAsg (rOp2 pIx (dR (rCall lq_crossings_from (aConsOk (rVar 0) (aConsOk (rVar 1) (aConsOk (rOp2 pMul (dR (rLst (aConsOk (rVal (.int (Int.ofNat (nat_lit 0)))) aNilOk))) (dVar 0)) aNilOk))))) (dR (rVal (.int (Int.ofNat (nat_lit 1)))))))
  (cRetTup (wConsOk (dR (rOpL1 pTuple (dR (rOp2 pIx (dR (rCall lq_crossings_from (aConsOk (rVar 0) (aConsOk (rVar 1) (aConsOk (rVar 2) aNilOk))))) (dR (rVal (.int (Int.ofNat (nat_lit 0))))))))) (wConsOk (dR (rVal (.int (Int.ofNat (nat_lit 0))))) wNilOk)))))⟩
def q_torus_picture : Qf := kRun2 [.no] wx_torus_picture.1
theorem lq_torus_picture : Lq q_torus_picture f_torus_picture := lq2 wx_torus_picture.2
def wx_torus_pieces : {qc : QC // COk b_torus_pieces qc} := ⟨_, (cSeq (cExprCall lq_need_torus (aConsOk (rVar 0) (aConsOk (rVar 1) aNilOk)))
  (cRet (dR (rOpL2 (pG2 _) (dVar 0) (dVar 1)))))⟩
def q_torus_pieces : Qf := kRun2 [] wx_torus_pieces.1
theorem lq_torus_pieces : Lq q_torus_pieces f_torus_pieces := lq2 wx_torus_pieces.2
def wx_torus_sum : {qc : QC // COk b_torus_sum qc} := ⟨_, (cSeq (cExprCall lq_need_single (aConsOk (rVar 0) (aConsOk (rVar 1) aNilOk)))
  (cRetCall lq_quotient (wConsOk (dR (rCall lq_times (aConsOk (rCall lq_less_one (aConsOk (rOp2 pMul (dVar 0) (dVar 1)) aNilOk)) (aConsOk (rCall lq_less_one (aConsOk (rVal (.int (Int.ofNat (nat_lit 1)))) aNilOk)) aNilOk)))) (wConsOk (dR (rCall lq_times (aConsOk (rCall lq_less_one (aConsOk (rVar 0) aNilOk)) (aConsOk (rCall lq_less_one (aConsOk (rVar 1) aNilOk)) aNilOk)))) wNilOk))))⟩
def q_torus_sum : Qf := kRun2 [] wx_torus_sum.1
theorem lq_torus_sum : Lq q_torus_sum f_torus_sum := lq2 wx_torus_sum.2
def wx_torus_mark : {qc : QC // COk b_torus_mark qc} := ⟨_, (cSeq (cExprCall lq_need_single (aConsOk (rVar 0) (aConsOk (rVar 1) aNilOk)))
  (cSeq (cIf (tAndOk (tOp2Ok ptEq (dR (rOp2 pMod (dVar 0) (dR (rVal (.int (Int.ofNat (nat_lit 2))))))) (dR (rVal (.int (Int.ofNat (nat_lit 1)))))) (tOp2Ok ptEq (dR (rOp2 pMod (dVar 1) (dR (rVal (.int (Int.ofNat (nat_lit 2))))))) (dR (rVal (.int (Int.ofNat (nat_lit 1))))))) (cRet (dR (rVal (.int (Int.ofNat (nat_lit 1)))))) cNil)
  (cRet (dIf (tOp2Ok ptEq (dR (rOp2 pMod (dVar 0) (dR (rVal (.int (Int.ofNat (nat_lit 2))))))) (dR (rVal (.int (Int.ofNat (nat_lit 1)))))) (dVar 0) (dVar 1)))))⟩
def q_torus_mark : Qf := kRun2 [] wx_torus_mark.1
theorem lq_torus_mark : Lq q_torus_mark f_torus_mark := lq2 wx_torus_mark.2
def wx_torus_round : {qc : QC // COk b_torus_round qc} := ⟨_, (cSeq (cExprCall lq_need_torus (aConsOk (rVar 0) (aConsOk (rVar 1) aNilOk)))
  (cSeq (cAsg (rOpL2 (pG2 _) (dVar 0) (dVar 1)))
  (cSeq (cIf (tOp2Ok ptEq (dVar 2) (dR (rVal (.int (Int.ofNat (nat_lit 1)))))) (cRaise 6) cNil)
  (cRet (dR (rOp2 (pG2 _) (dR (rOp2 pMul (dVar 0) (dVar 1))) (dR (rOp2 pMul (dVar 2) (dVar 2)))))))))⟩
def q_torus_round : Qf := kRun2 [.no] wx_torus_round.1
theorem lq_torus_round : Lq q_torus_round f_torus_round := lq2 wx_torus_round.2
def wx_met_from : {qc : QC // COk b_met_from qc} := ⟨_, (cSeq (cAsg (rCall lq_ends_of (aConsOk (rVar 0) aNilOk)))
  (cSeq (cPar2 (rOp2 pIx (dR (rOp2 pIx (dVar 3) (dVar 1))) (dVar 2)) (rLst aNilOk))
  (cSeq cAsgV
  (cSeq (cWh (tOp2Ok ptLe (dR (rOpL1 pLen (dVar 5))) (dR (rOp2 pMul (dR (rVal (.int (Int.ofNat (nat_lit 2))))) (dR (rOpL1 pLen (dVar 0)))))) (cSeq (cMet pApp (aConsOk (rTup (aConsOk (rOp2 pIx (dVar 6) (dR (rVal (.int (Int.ofNat (nat_lit 0)))))) (aConsOk (rT2 ptEq (dR (rOp2 pMod (dR (rOp2 pIx (dVar 6) (dR (rVal (.int (Int.ofNat (nat_lit 1))))))) (dR (rVal (.int (Int.ofNat (nat_lit 2))))))) (dR (rVal (.int (Int.ofNat (nat_lit 0)))))) aNilOk))) aNilOk))
  (cSeq (cAsg (rCall lq_other_end (aConsOk (rVar 3) (aConsOk (rVar 0) (aConsOk (rTup (aConsOk (rOp2 pIx (dVar 6) (dR (rVal (.int (Int.ofNat (nat_lit 0)))))) (aConsOk (rOp2 pMod (dR (rOp2 pAdd (dR (rOp2 pIx (dVar 6) (dR (rVal (.int (Int.ofNat (nat_lit 1))))))) (dR (rVal (.int (Int.ofNat (nat_lit 2))))))) (dR (rVal (.int (Int.ofNat (nat_lit 4)))))) aNilOk))) aNilOk)))))
  (cIf (tOp2Ok ptEq (dVar 6) (dVar 4)) (cRet (dVar 5)) cNil))))
  (cRet (dVar 5))))))⟩
def q_met_from : Qf := kRun3 [.no, .no, .no, .no] wx_met_from.1
theorem lq_met_from : Lq q_met_from f_met_from := lq3 wx_met_from.2
def wx_fits_start : {qc : QC // COk b_fits_start qc} := ⟨_, (cSeq (cIf (tOrOk (tNotOk (tTruOk (dR (rCall lq_is_tuple_of (aConsOk (rVar 1) (aConsOk (rOpL1 pLen (dVar 0)) (aConsOk (rOpL1 pLen (dVar 0)) aNilOk))))))) (tNotOk (tTruOk (dR (rOpL1 pAll (dR (rComp (jSeq (rVar 1)) (hD 2) tYesOk (rCall lq_is_tuple_of (aConsOk (rVar 2) (aConsOk (rVal (.int (Int.ofNat (nat_lit 3)))) (aConsOk (rVal (.int (Int.ofNat (nat_lit 3)))) aNilOk))))))))))) (cRet (dR (rVal _))) cNil)
  (cSeq (cIf (tNotOk (tTruOk (dR (rOpL1 pAll (dR (rComp (jSeq (rVar 1)) (hD 2) tYesOk (rAnd (dR (rCall lq_is_whole (aConsOk (rOp2 pIx (dVar 2) (dR (rVal (.int (Int.ofNat (nat_lit 0)))))) (aConsOk (rVal (.int (Int.ofNat (nat_lit 0)))) (aConsOk (rOp2 pSub (dR (rOpL1 pLen (dVar 0))) (dR (rVal (.int (Int.ofNat (nat_lit 1)))))) aNilOk))))) (rCall lq_is_whole (aConsOk (rOp2 pIx (dVar 2) (dR (rVal (.int (Int.ofNat (nat_lit 2)))))) (aConsOk (rVal (.int (Int.ofNat (nat_lit 0)))) (aConsOk (rVal (.int (Int.ofNat (nat_lit 1)))) aNilOk))))))))))) (cRet (dR (rVal _))) cNil)
  (cSeq (cIf (tOp2Ok ptLt (dR (rOp1 (pG1 _) (dR (rComp (jSeq (rVar 1)) (hD 2) tYesOk (rOp2 pIx (dVar 2) (dR (rVal (.int (Int.ofNat (nat_lit 0)))))))))) (dR (rOpL1 pLen (dVar 1)))) (cRet (dR (rVal _))) cNil)
  (cRet (dR (rOpL1 pAll (dR (rComp (jSeq (rVar 1)) (hD 2) tYesOk (rAnd (dR (rCall lq_is_whole (aConsOk (rOp2 pIx (dVar 2) (dR (rVal (.int (Int.ofNat (nat_lit 1)))))) (aConsOk (rVal (.int (Int.ofNat (nat_lit 0)))) (aConsOk (rOp2 pMul (dR (rVal (.int (Int.ofNat (nat_lit 2))))) (dR (rVal (.int (Int.ofNat (nat_lit 40)))))) aNilOk))))) (rT2 ptIn (dR (rOp2 pIx (dVar 2) (dR (rVal (.int (Int.ofNat (nat_lit 1))))))) (dR (rOp2 pIx (dVar 0) (dR (rOp2 pIx (dVar 2) (dR (rVal (.int (Int.ofNat (nat_lit 0)))))))))))))))))))⟩
def q_fits_start : Qf := kRun2 [.no] wx_fits_start.1
theorem lq_fits_start : Lq q_fits_start f_fits_start := lq2 wx_fits_start.2
def wx_need_start : {qc : QC // COk b_need_start qc} := ⟨_, (cSeq (cExprCall lq_need_picture (aConsOk (rVar 0) aNilOk))
  (cIf (tNotOk (tTruOk (dR (rCall lq_fits_start (aConsOk (rCall lq_cord_list (aConsOk (rOp2 pIx (dVar 0) (dR (rVal (.int (Int.ofNat (nat_lit 0)))))) aNilOk)) (aConsOk (rVar 1) aNilOk)))))) (cRaise 4) cNil))⟩
def q_need_start : Qf := kRun2 [] wx_need_start.1
theorem lq_need_start : Lq q_need_start f_need_start := lq2 wx_need_start.2
def wx_changes_in : {qc : QC // COk b_changes_in qc} := ⟨_, (cSeq (cAsg (rNew _))
  (cSeq (cFor iSeqV (gT3 (gD 3) (gD 4) (gD 5)) (cFor (iOfJ (jSeq (rCall lq_met_from (aConsOk (rVar 0) (aConsOk (rVar 4) (aConsOk (rVar 5) aNilOk)))))) (gT2 (gD 6) (gD 7)) (cMet (pGM _ _) (aConsOk (rVar 6) (aConsOk (rVar 7) aNilOk)))))
  (cRet (dR (rOpL1 pTuple (dR (rComp (jSeq (rOpL1 pSortA (dVar 2))) (hD 6) (tTruOk (dR (rOp2 pIx (dVar 2) (dVar 6)))) (rVar 6))))))))⟩
def q_changes_in : Qf := kRun2 [.no, .no, .no, .no, .no, .no] wx_changes_in.1
theorem lq_changes_in : Lq q_changes_in f_changes_in := lq2 wx_changes_in.2
def wx_changes_for : {qc : QC // COk b_changes_for qc} := ⟨_, (cSeq (cExprCall lq_need_start (aConsOk (rVar 0) (aConsOk (rVar 1) aNilOk)))
  (cRetCall lq_changes_in (wConsOk (dR (rOp2 pIx (dVar 0) (dR (rVal (.int (Int.ofNat (nat_lit 0))))))) (wConsOk (dVar 1) wNilOk))))⟩
def q_changes_for : Qf := kRun2 [] wx_changes_for.1
theorem lq_changes_for : Lq q_changes_for f_changes_for := lq2 wx_changes_for.2
def wx_plain_start : {qc : QC // COk b_plain_start qc} := ⟨_, (cSeq (cExprCall lq_need_picture (aConsOk (rVar 0) aNilOk))
  (cRet (dR (rOpL1 pTuple (dR (rComp (jEn (rCall lq_cord_list (aConsOk (rOp2 pIx (dVar 0) (dR (rVal (.int (Int.ofNat (nat_lit 0)))))) aNilOk))) (hT2 (hD 1) (hD 2)) tYesOk (rTup (aConsOk (rVar 1) (aConsOk (rOpL1 pMinA (dVar 2)) (aConsOk (rVal (.int (Int.ofNat (nat_lit 0)))) aNilOk))))))))))⟩
def q_plain_start : Qf := kRun1 [.no, .no] wx_plain_start.1
theorem lq_plain_start : Lq q_plain_start f_plain_start := lq1 wx_plain_start.2
def rtI (n : Nat) : O := some (.rt (.int (.ofNat n)))
def q__law_sort : Qf := fun ds => ls1 ds fun d => D.kS (rtI 0) (fun _ => rtI 1) (fun _ => rtI 2) (fun _ => rtI 3) (fun _ => rtI 4) (fun _ => rtI 5) (fun _ _ => none) (fun _ _ => none) (fun _ => rtI 4) d
theorem lq__law_sort : Lq q__law_sort f__law_sort := fun ds o h => by
  obtain ⟨d, rfl, h1⟩ := ls1_some h
  cases d <;> first | (cases h1; rfl) | cases h1
def wx__law_like {F : Fn} {q : Qf} (hrec : Lq q F) : {qc : QC // COk (b__law_like F) qc} := ⟨_, (cSeq (cAsg (rCall lq__law_sort (aConsOk (rVar 1) aNilOk)))
  (cSeq (cIf (tOrOk (tOp2Ok ptNe (dR (rCall lq__law_sort (aConsOk (rVar 0) aNilOk))) (dVar 2)) (tOp2Ok ptEq (dVar 2) (dR (rVal (.int (Int.ofNat (nat_lit 6))))))) (cRet (dR (rVal _))) cNil)
  (cSeq (cIf (tOp2Ok ptIn (dVar 2) (dR (rTup (aConsOk (rVal (.int (Int.ofNat (nat_lit 4)))) (aConsOk (rVal (.int (Int.ofNat (nat_lit 5)))) aNilOk))))) (cRet (dR (rAnd (dR (rT2 ptEq (dR (rOpL1 pLen (dVar 0))) (dR (rOpL1 pLen (dVar 1))))) (rT2 ptEq (dR (rComp (jZp (aConsOk (rVar 0) (aConsOk (rVar 1) aNilOk))) (hT2 (hD 3) (hD 4)) (tNotOk (tTruOk (dR (rCall hrec (aConsOk (rVar 3) (aConsOk (rVar 4) aNilOk)))))) (rVal (.int (Int.ofNat (nat_lit 1)))))) (dR (rLst aNilOk)))))) cNil)
  (cRet (dR (rT2 ptEq (dVar 0) (dVar 1)))))))⟩
def rx__law_like (k : Nat) : {q : Qf // Lq q (f__law_like k)} := Nat.rec (motive := fun k => {q : Qf // Lq q (f__law_like k)}) ⟨fun _ => none, fun _ _ h => nomatch h⟩ (fun k ih => ⟨kRun2 [.no, .no, .no] (wx__law_like ih.2).1, lq2 (wx__law_like ih.2).2⟩) k
def q__law_like (k : Nat) : Qf := (rx__law_like k).1
theorem lq__law_like (k : Nat) : Lq (q__law_like k) (f__law_like k) := (rx__law_like k).2
abbrev q__law_ends : Qf := q_ends
theorem lq__law_ends : Lq q__law_ends f__law_ends := lq_ends
def wx__law_other : {qc : QC // COk b__law_other qc} := ⟨_, (cSeq (cAsg (rOp2 pIx (dVar 0) (dR (rOp2 pIx (dR (rOp2 pIx (dVar 1) (dR (rOp2 pIx (dVar 2) (dR (rVal (.int (Int.ofNat (nat_lit 0))))))))) (dR (rOp2 pIx (dVar 2) (dR (rVal (.int (Int.ofNat (nat_lit 1)))))))))))
  (cRet (dIf (tOp2Ok ptEq (dR (rOp2 pIx (dVar 3) (dR (rVal (.int (Int.ofNat (nat_lit 0))))))) (dVar 2)) (dR (rOp2 pIx (dVar 3) (dR (rVal (.int (Int.ofNat (nat_lit 1))))))) (dR (rOp2 pIx (dVar 3) (dR (rVal (.int (Int.ofNat (nat_lit 0))))))))))⟩
def q__law_other : Qf := kRun3 [.no] wx__law_other.1
theorem lq__law_other : Lq q__law_other f__law_other := lq3 wx__law_other.2
def wx__law_walk : {qc : QC // COk b__law_walk qc} := ⟨_, (cSeq (cAsg (rCall lq__law_ends (aConsOk (rVar 0) aNilOk)))
  (cSeq (cAsg (rLst (aConsOk (rOp2 pIx (dR (rOp2 pIx (dVar 3) (dVar 1))) (dVar 2)) aNilOk)))
  (cSeq (cFor (iOfJ (jRng (dR (rOp2 pMul (dR (rVal (.int (Int.ofNat (nat_lit 2))))) (dR (rOpL1 pLen (dVar 0))))))) (gD 5) (cSeq (cAsg (rCall lq__law_other (aConsOk (rVar 3) (aConsOk (rVar 0) (aConsOk (rTup (aConsOk (rOp2 pIx (dR (rOp2 pIx (dVar 4) (dR (rNegLit (n := nat_lit 0))))) (dR (rVal (.int (Int.ofNat (nat_lit 0)))))) (aConsOk (rOp2 pMod (dR (rOpL1 pInt (dR (rOp2 pAdd (dR (rOp2 pIx (dR (rOp2 pIx (dVar 4) (dR (rNegLit (n := nat_lit 0))))) (dR (rVal (.int (Int.ofNat (nat_lit 1))))))) (dR (rVal (.int (Int.ofNat (nat_lit 2))))))))) (dR (rVal (.int (Int.ofNat (nat_lit 4)))))) aNilOk))) aNilOk)))))
  (cIf (tOp2Ok ptNin (dVar 6) (dVar 4)) (cMetV pApp) cNil)))
  (cRet (dVar 4)))))⟩
def q__law_walk : Qf := kRun3 [.no, .no, .no, .no] wx__law_walk.1
theorem lq__law_walk : Lq q__law_walk f__law_walk := lq3 wx__law_walk.2
def wx__law_cords : {qc : QC // COk b__law_cords qc} := ⟨_, (cSeq (cAsg (rLst aNilOk))
  (cSeq (cFor (iOfJ (jRng (dR (rOp2 pMul (dR (rVal (.int (Int.ofNat (nat_lit 2))))) (dR (rOpL1 pLen (dVar 0))))))) (gD 2) (cIf (tOp2Ok ptEq (dR (rCompS (hD 3) (tOp2Ok ptIn (dVar 2) (dVar 3)) (rVar 3))) (dR (rLst aNilOk))) (cMet pApp (aConsOk (rOp1 pSortSet (dR (rComp (jSeq (rCall lq__law_walk (aConsOk (rVar 0) (aConsOk (rVar 2) (aConsOk (rVal (.int (Int.ofNat (nat_lit 0)))) aNilOk))))) (hT2 (hD 4) (hD 5)) tYesOk (rOp2 pIx (dR (rOp2 pIx (dVar 0) (dVar 4))) (dVar 5))))) aNilOk)) cNil))
  (cRet (dVar 1))))⟩
def q__law_cords : Qf := kRun1 [.no, .no, .no, .no, .no] wx__law_cords.1
theorem lq__law_cords : Lq q__law_cords f__law_cords := lq1 wx__law_cords.2
def wx__law_strands : {qc : QC // COk b__law_strands qc} := ⟨_, (cSeq (cAsg (rLRng (dVar 1)))
  (cSeq (cFor (iOfJ (jRng (dR (rVal (.int (Int.ofNat (nat_lit 2))))))) (gD 4) (cSeq (cPar3 (rOpL1 pList (dVar 3)) (rLst aNilOk) (rOp2 pMul (dR (rLst (aConsOk (rVal _) aNilOk))) (dVar 1)))
  (cSeq (cFor iEnV (gT2 (gD 8) (gT2 (gD 9) (gD 10))) (cSeq (cPar2 (rOp2 pIx (dVar 5) (dVar 9)) (rOp2 pIx (dVar 5) (dR (rOp2 pAdd (dVar 9) (dR (rVal (.int (Int.ofNat (nat_lit 1)))))))))
  (cSeq (cMet pApp (aConsOk (rIf (tTruOk (dVar 10)) (rTup (aConsOk (rVar 12) (aConsOk (rOp2 pAdd (dR (rOp2 pMul (dR (rVal (.int (Int.ofNat (nat_lit 2))))) (dVar 8))) (dR (rVal (.int (Int.ofNat (nat_lit 1)))))) (aConsOk (rOp2 pMul (dR (rVal (.int (Int.ofNat (nat_lit 2))))) (dVar 8)) (aConsOk (rVar 11) aNilOk))))) (rTup (aConsOk (rVar 11) (aConsOk (rVar 12) (aConsOk (rOp2 pAdd (dR (rOp2 pMul (dR (rVal (.int (Int.ofNat (nat_lit 2))))) (dVar 8))) (dR (rVal (.int (Int.ofNat (nat_lit 1)))))) (aConsOk (rOp2 pMul (dR (rVal (.int (Int.ofNat (nat_lit 2))))) (dVar 8)) aNilOk)))))) aNilOk))
  (cSeq (cAsgD (rTup (aConsOk (rOp2 pMul (dR (rVal (.int (Int.ofNat (nat_lit 2))))) (dVar 8)) (aConsOk (rOp2 pAdd (dR (rOp2 pMul (dR (rVal (.int (Int.ofNat (nat_lit 2))))) (dVar 8))) (dR (rVal (.int (Int.ofNat (nat_lit 1)))))) aNilOk))) (gT2 (gS pSt (dVar 9)) (gS pSt (dR (rOp2 pAdd (dVar 9) (dR (rVal (.int (Int.ofNat (nat_lit 1))))))))))
  (cAsgD (rTup (aConsOk (rVal _) (aConsOk (rVal _) aNilOk))) (gT2 (gS pSt (dVar 9)) (gS pSt (dR (rOp2 pAdd (dVar 9) (dR (rVal (.int (Int.ofNat (nat_lit 1))))))))))))))
  cAsgV)))
  (cRetX (zTup (zsCons (zOpL1D pTuple (dVar 6)) (zsCons (zOpL1 pLen (zComp iSeqV (hD 13) (tNotOk (tTruOk (dVar 13))) (rVar 13))) zsNil))))))⟩
def q__law_strands : Qf := kRun3 [.no, .no, .no, .no, .no, .no, .no, .no, .no, .no, .no] wx__law_strands.1
theorem lq__law_strands : Lq q__law_strands f__law_strands := lq3 wx__law_strands.2
def wx__law_common : {qc : QC // COk b__law_common qc} := ⟨_, (cSeq (cFor (iOfJ (jRng (dR (rVal (.int (Int.ofNat (nat_lit 60))))))) (gD 2) (cSeq (cIf (tOp2Ok ptEq (dVar 1) (dR (rVal (.int (Int.ofNat (nat_lit 0)))))) (cRet (dVar 0)) cNil)
  (cPar2 (rVar 1) (rOp2 pMod (dR (rOpL1 pInt (dVar 0))) (dVar 1)))))
  (cRet (dVar 0)))⟩
def q__law_common : Qf := kRun2 [.no] wx__law_common.1
theorem lq__law_common : Lq q__law_common f__law_common := lq2 wx__law_common.2
def wx__law_sum : {qc : QC // COk b__law_sum qc} := ⟨_, (cSeq (cAsg (rOp2 pAdd (dR (rOp2 pMul (dVar 0) (dVar 1))) (dR (rVal (.int (Int.ofNat (nat_lit 1)))))))
  (cSeq (cAsg (rOp2 pMul (dR (rLst (aConsOk (rVal (.int (Int.ofNat (nat_lit 0)))) aNilOk))) (dR (rOp2 pAdd (dVar 2) (dR (rVal (.int (Int.ofNat (nat_lit 1)))))))))
  (cSeq (cFor (iOfJ (jSeq (rTup (aConsOk (rTup (aConsOk (rOp2 pAdd (dR (rOp2 pMul (dVar 0) (dVar 1))) (dR (rVal (.int (Int.ofNat (nat_lit 1)))))) (aConsOk (rVal (.int (Int.ofNat (nat_lit 1)))) aNilOk))) (aConsOk (rTup (aConsOk (rOp2 pMul (dVar 0) (dVar 1)) (aConsOk (rNegLit (n := nat_lit 0)) aNilOk))) (aConsOk (rTup (aConsOk (rVal (.int (Int.ofNat (nat_lit 1)))) (aConsOk (rNegLit (n := nat_lit 0)) aNilOk))) (aConsOk (rTup (aConsOk (rVal (.int (Int.ofNat (nat_lit 0)))) (aConsOk (rVal (.int (Int.ofNat (nat_lit 1)))) aNilOk))) aNilOk))))))) (gT2 (gD 4) (gD 5)) (cAsgD (rOp2 pAdd (dR (rOp2 pIx (dVar 3) (dVar 4))) (dVar 5)) (gS pSt (dVar 4))))
  (cSeq (cAsg (rOp2 pMul (dR (rLst (aConsOk (rVal (.int (Int.ofNat (nat_lit 0)))) aNilOk))) (dR (rOp2 pAdd (dR (rOp2 pAdd (dVar 0) (dVar 1))) (dR (rVal (.int (Int.ofNat (nat_lit 1)))))))))
  (cSeq (cFor (iOfJ (jSeq (rTup (aConsOk (rTup (aConsOk (rOp2 pAdd (dVar 0) (dVar 1)) (aConsOk (rVal (.int (Int.ofNat (nat_lit 1)))) aNilOk))) (aConsOk (rTup (aConsOk (rVar 0) (aConsOk (rNegLit (n := nat_lit 0)) aNilOk))) (aConsOk (rTup (aConsOk (rVar 1) (aConsOk (rNegLit (n := nat_lit 0)) aNilOk))) (aConsOk (rTup (aConsOk (rVal (.int (Int.ofNat (nat_lit 0)))) (aConsOk (rVal (.int (Int.ofNat (nat_lit 1)))) aNilOk))) aNilOk))))))) (gT2 (gD 4) (gD 5)) (cAsgD (rOp2 pAdd (dR (rOp2 pIx (dVar 6) (dVar 4))) (dVar 5)) (gS pSt (dVar 4))))
  (cSeq (cAsg (rLst aNilOk))
  (cSeq (cFor (iOfJ (jRng (dR (rOp2 pAdd (dR (rOp2 pSub (dR (rOp2 pSub (dVar 2) (dVar 0))) (dVar 1))) (dR (rVal (.int (Int.ofNat (nat_lit 1))))))))) (gD 8) (cSeq (cAsg (rOp2 pIx (dVar 3) (dVar 8)))
  (cSeq (cMetV pApp)
  (cFor (iOfJ (jRng (dR (rOp2 pAdd (dR (rOp2 pAdd (dVar 0) (dVar 1))) (dR (rVal (.int (Int.ofNat (nat_lit 1))))))))) (gD 4) (cAsgD (rOp2 pSub (dR (rOp2 pIx (dVar 3) (dR (rOp2 pAdd (dVar 8) (dVar 4))))) (dR (rOp2 pMul (dVar 5) (dR (rOp2 pIx (dVar 6) (dVar 4)))))) (gS pSt (dR (rOp2 pAdd (dVar 8) (dVar 4)))))))))
  (cRetX (zTup (zsCons (zOpL1 pTuple (zComp iEnV (hT2 (hD 4) (hD 5)) (tOp2Ok ptNe (dVar 5) (dR (rVal (.int (Int.ofNat (nat_lit 0)))))) (rTup (aConsOk (rVar 4) (aConsOk (rVar 5) aNilOk))))) (zsCons (zT2 ptEq (zComp iSeqV (hD 9) (tOp2Ok ptNe (dVar 9) (dR (rVal (.int (Int.ofNat (nat_lit 0)))))) (rVar 9)) (dR (rLst aNilOk))) zsNil)))))))))))⟩
def q__law_sum : Qf := kRun2 [.no, .no, .no, .no, .no, .no, .no, .no] wx__law_sum.1
theorem lq__law_sum : Lq q__law_sum f__law_sum := lq2 wx__law_sum.2
end W71
end
end
section
set_option Elab.async false
set_option linter.all false
set_option maxRecDepth 100000
set_option maxHeartbeats 4000000
/-! El9: quick forms of _law_error(lambda: f(..)). -/
noncomputable section
namespace W71
open PySem PySem.Spec PyProof.Rows L2 LamX Ev
def maskK (e : En) : En := List.rec [] (fun a _ ih => Slot.rec .no (fun d => .fz d) (fun _ => .no) a :: ih) e
theorem maskK_eq : ∀ e : En, maskK e = maskE e
  | [] => rfl
  | a :: t => by
    show (Slot.rec .no (fun d => .fz d) (fun _ => .no) a : Slot) :: maskK t = maskE (a :: t)
    rw [maskK_eq t]
    cases a <;> rfl
def errO (kz : D → O) (o : O) : O := Option.rec none (fun r => Qo.rec (fun _ => kz (.str ("" : Str))) (fun x => Exc.rec (fun c a => Option.rec (Option.rec none (fun w => kz (.str w)) (errK c)) (fun _ => none) a) x) r) o
theorem errO_some {kz : D → O} {x : O} {o : Qo} (h : errO kz x = some o) : (∃ d, x = some (.rt d) ∧ kz (.str ("" : Str)) = some o) ∨ ∃ c w, x = some (.ex ⟨c, none⟩) ∧ errK c = some w ∧ kz (.str w) = some o := by
  cases x with
  | none => cases h
  | some r => cases r with
    | rt d => exact .inl ⟨d, rfl, h⟩
    | ex x =>
      obtain ⟨c, a⟩ := x
      cases a with
      | some _ => cases h
      | none =>
        have h' : (Option.rec none (fun w => kz (.str w)) (errK c) : O) = some o := h
        cases e : errK c with
        | none => rw [e] at h'; cases h'
        | some w => rw [e] at h'; exact .inr ⟨c, w, rfl, e, h'⟩
section
variable {ms : Ev (List R)} {vs : QA} {n : Nat}
theorem err_end {m : Ev R} {e : En} {kz kr : D → O} {x : O} {o : Qo} (hx : ∀ r, x = some r → m (St (maskE e)) = match r with
    | .rt d => some (.ok (.fz d) (St (maskE e)))
    | .ex y => some (.ex y [])) (h : errO kz x = some o) : (∃ r d, eErr m (St e) = some (.ok r (St e)) ∧ (∀ d', r ≠ .fr d') ∧ esc r (St e) = some (d, St e) ∧ kz d = some o) ∨ (∃ d, eErr m (St e) = some (.ok (.fr d) (St e)) ∧ kr d = some o) := by
  rcases errO_some h with ⟨d, h1, h2⟩ | ⟨c, w, h1, h2, h3⟩
  · have q := hx _ h1
    refine .inl ⟨.fz (.str ("" : Str)), _, ?_, (fun _ z => nomatch z), rfl, h2⟩
    unfold eErr
    simp only [q]
  · have q := hx _ h1
    refine .inl ⟨.fz (.str w), _, ?_, (fun _ z => nomatch z), rfl, h3⟩
    unfold eErr
    simp only [q, h2]
def kErrCall (q : Qf) (vs : QA) : QR := fun e kz _ => vs (maskK e) fun ds => errO kz (q ds)
theorem rErrCall {q : Qf} {F : Fn} (hq : Lq q F) (hs : AOk ms vs n) : ROk (eErr (eCall n F ms)) (kErrCall q vs) := fun e kz kr o h => by
  unfold kErrCall at h
  rw [maskK_eq] at h
  obtain ⟨rs, ds, b1, b2, b3, b4⟩ := hs _ _ _ h
  refine err_end (fun r hr => ?_) b4
  have c1 := hq _ _ hr
  simp only [eCall, b1, bd, b2, b3, if_true, c1]
  cases r <;> rfl
def kErrCallV (i : Nat) (qv : Nat → Qf) (vs : QA) : QR := fun e kz _ => match nthS i e with
  | .fz (.fn k) => vs (maskK e) fun ds => errO kz (qv k ds)
  | _ => none
theorem maskE_at {e : En} {i : Nat} {d : D} (h : e[i]? = some (.fz d)) : (maskE e)[i]? = some (.fz d) := by
  unfold maskE
  rw [List.getElem?_map, h]; rfl
theorem rErrCallV {i : Nat} {fs : Nat → Option Fn} {qv : Nat → Qf} (hv : ∀ k ds o, qv k ds = some o → ∃ f, fs k = some f ∧ f ds [] = some (toF o)) (hs : AOk ms vs n) : ROk (eErr (eCallV i fs n ms)) (kErrCallV i qv vs) := fun e kz kr o h => by
  unfold kErrCallV at h
  split at h
  · rename_i k hk
    rw [maskK_eq] at h
    have hi := maskE_at (nthS_get i e _ hk (by simp))
    obtain ⟨rs, ds, b1, b2, b3, b4⟩ := hs _ _ _ h
    refine err_end (fun r hr => ?_) b4
    obtain ⟨f, c0, c1⟩ := hv _ _ _ hr
    unfold eCallV
    simp only [hi, c0, eCall, b1, bd, b2, b3, if_true, c1]
    cases r <;> rfl
  · cases h
end
end W71
end
end
section
set_option Elab.async false
set_option linter.all false
set_option maxRecDepth 100000
set_option maxHeartbeats 4000000
noncomputable section
namespace W71
open PySem PySem.Spec PyProof.Rows L2 Ev
def qv_call : Nat → Qf := fun k => if k = 27 then q_torus_sum else if k = 28 then q_torus_mark else fun _ => none
theorem lv_fs_call : ∀ k ds o, qv_call k ds = some o → ∃ f, fs_call k = some f ∧ f ds [] = some (toF o) := by
  intro k ds o h
  unfold qv_call at h
  unfold fs_call
  split at h
  · rename_i e; exact ⟨_, if_pos e, lq_torus_sum _ _ h⟩
  · rename_i e1
    split at h
    · rename_i e; exact ⟨_, (if_neg e1).trans (if_pos e), lq_torus_mark _ _ h⟩
    · cases h
def okR (o : O) : Bool := Option.rec false (fun r => Qo.rec (fun d => D.rec (motive_1 := fun _ => Bool) (motive_2 := fun _ => Unit) false (fun b => b) (fun _ => false) (fun _ => false) (fun _ _ => false) (fun _ _ => false) (fun _ _ _ => false) (fun _ _ _ => false) (fun _ => false) (fun _ => false) (fun _ _ => false) () (fun _ _ _ _ => ()) d) (fun _ => false) r) o
theorem okR_eq {o : O} (h : okR o = true) : o = some (.rt (.bl true)) := by
  cases o with
  | none => cases h
  | some r => cases r with
    | ex x => cases h
    | rt d =>
      cases d with
      | bl b =>
        cases b with
        | true => rfl
        | false => cases h
      | _ => cases h
def wx__law_right : {qc : QC // COk b__law_right qc} := ⟨_, (cSeq (cAsg (rCall lq__law_common (aConsOk (rVar 0) (aConsOk (rVar 1) aNilOk))))
  (cSeq (cAsg (rCall lq__law_strands (aConsOk (rVal _) (aConsOk (rVar 0) (aConsOk (rComp (jRng (dR (rOp2 pMul (dR (rOp2 pSub (dVar 0) (dR (rVal (.int (Int.ofNat (nat_lit 1))))))) (dVar 1)))) (hD 4) tYesOk (rTup (aConsOk (rOp2 pMod (dR (rOpL1 pInt (dVar 4))) (dR (rOp2 pSub (dVar 0) (dR (rVal (.int (Int.ofNat (nat_lit 1)))))))) (aConsOk (rVal _) aNilOk)))) aNilOk)))))
  (cSeq (cIf (tNotOk (tTruOk (dR (rCall (lq__law_like 6) (aConsOk (rLst (aConsOk (rCall lq_torus_picture (aConsOk (rVar 0) (aConsOk (rVar 1) aNilOk))) (aConsOk (rCall lq_torus_pieces (aConsOk (rVar 0) (aConsOk (rVar 1) aNilOk))) (aConsOk (rCall lq_is_picture (aConsOk (rVar 3) aNilOk)) (aConsOk (rCall lq_count_cords (aConsOk (rVar 3) aNilOk)) aNilOk))))) (aConsOk (rLst (aConsOk (rVar 3) (aConsOk (rVar 2) (aConsOk (rVal _) (aConsOk (rVar 2) aNilOk))))) aNilOk)))))) (cRet (dR (rVal _))) cNil)
  (cSeq (cAsg (rCall lq__law_cords (aConsOk (rOp2 pIx (dVar 3) (dR (rVal (.int (Int.ofNat (nat_lit 0)))))) aNilOk)))
  (cSeq (cIf (tOp2Ok ptGt (dVar 2) (dR (rVal (.int (Int.ofNat (nat_lit 1)))))) (cSeq (cAsg (rComp (jSeq (rOp2 pIx (dVar 3) (dR (rVal (.int (Int.ofNat (nat_lit 0))))))) (hD 7) (tOrOk (tAndOk (tOp2Ok ptIn (dR (rOp2 pIx (dVar 7) (dR (rVal (.int (Int.ofNat (nat_lit 0))))))) (dR (rOp2 pIx (dVar 5) (dR (rVal (.int (Int.ofNat (nat_lit 0)))))))) (tOp2Ok ptIn (dR (rOp2 pIx (dVar 7) (dR (rVal (.int (Int.ofNat (nat_lit 1))))))) (dR (rOp2 pIx (dVar 5) (dR (rVal (.int (Int.ofNat (nat_lit 1))))))))) (tAndOk (tOp2Ok ptIn (dR (rOp2 pIx (dVar 7) (dR (rVal (.int (Int.ofNat (nat_lit 0))))))) (dR (rOp2 pIx (dVar 5) (dR (rVal (.int (Int.ofNat (nat_lit 1)))))))) (tOp2Ok ptIn (dR (rOp2 pIx (dVar 7) (dR (rVal (.int (Int.ofNat (nat_lit 1))))))) (dR (rOp2 pIx (dVar 5) (dR (rVal (.int (Int.ofNat (nat_lit 0)))))))))) (rVar 7)))
  (cSeq (cAsg (rComp (jSeq (rTup (aConsOk (rVal _) (aConsOk (rVal _) aNilOk)))) (hD 9) tYesOk (rErrCallV (i := 9) lv_fs_call (aConsOk (rVar 0) (aConsOk (rVar 1) aNilOk)))))
  (cRet (dR (rAnd (dR (rCall (lq__law_like 6) (aConsOk (rCall lq_torus_round (aConsOk (rVar 0) (aConsOk (rVar 1) aNilOk))) (aConsOk (rOp2 (pG2 _) (dR (rOpL1 pLen (dVar 6))) (dR (rVal (.int (Int.ofNat (nat_lit 2)))))) aNilOk)))) (rAnd (dR (rT2 ptEq (dR (rOp2 pMul (dR (rOp2 pMul (dR (rOpL1 pLen (dVar 6))) (dVar 2))) (dVar 2))) (dR (rOp2 pMul (dR (rOp2 pMul (dR (rVal (.int (Int.ofNat (nat_lit 2))))) (dVar 0))) (dVar 1))))) (rT2 ptEq (dVar 8) (dR (rOp2 pMul (dR (rLst (aConsOk (rVal _) aNilOk))) (dR (rVal (.int (Int.ofNat (nat_lit 2)))))))))))))) cNil)
  (cSeq (cAsgD (rCall lq__law_sum (aConsOk (rVar 0) (aConsOk (rVar 1) aNilOk))) (gT2 (gD 10) (gD 11)))
  (cSeq (cAsg (rOpL1 (pG1 _) (dR (rComp (jSeq (rVar 10)) (hT2 (hD 13) (hD 14)) tYesOk (rIf (tOp2Ok ptEq (dR (rOp2 pMod (dR (rOpL1 pInt (dVar 13))) (dR (rVal (.int (Int.ofNat (nat_lit 2))))))) (dR (rVal (.int (Int.ofNat (nat_lit 0)))))) (rVar 14) (rOp1 pNeg (dVar 14)))))))
  (cSeq (cIf (tOrOk (tNotOk (tTruOk (dVar 11))) (tOrOk (tNotOk (tTruOk (dR (rCall (lq__law_like 6) (aConsOk (rLst (aConsOk (rCall lq_torus_sum (aConsOk (rVar 0) (aConsOk (rVar 1) aNilOk))) (aConsOk (rCall lq_torus_mark (aConsOk (rVar 0) (aConsOk (rVar 1) aNilOk))) aNilOk))) (aConsOk (rLst (aConsOk (rVar 10) (aConsOk (rOpL1 (pG1 _) (dVar 12)) aNilOk))) aNilOk)))))) (tOp2Ok ptNe (dR (rErrCall lq_torus_round (aConsOk (rVar 0) (aConsOk (rVar 1) aNilOk)))) (dR (rVal _))))) (cRet (dR (rVal _))) cNil)
  (cSeq (cIf (tOrOk (tOp2Ok ptNe (dR (rCall lq_value_at (aConsOk (rVar 10) (aConsOk (rVal (.int (Int.ofNat (nat_lit 1)))) aNilOk)))) (dR (rVal (.int (Int.ofNat (nat_lit 1)))))) (tOp2Ok ptNe (dR (rComp (jSeq (rOp1 (pG1 _) (dVar 10))) (hT2 (hD 13) (hD 14)) tYesOk (rTup (aConsOk (rOp2 pSub (dR (rOp2 pIx (dR (rOp2 pIx (dVar 10) (dR (rNegLit (n := nat_lit 0))))) (dR (rVal (.int (Int.ofNat (nat_lit 0))))))) (dVar 13)) (aConsOk (rVar 14) aNilOk))))) (dR (rOpL1 pList (dVar 10))))) (cRet (dR (rVal _))) cNil)
  (cSeq (cAsg (rCall lq_product (aConsOk (rVar 10) (aConsOk (rCall lq_product (aConsOk (rTup (aConsOk (rTup (aConsOk (rVal (.int (Int.ofNat (nat_lit 0)))) (aConsOk (rNegLit (n := nat_lit 0)) aNilOk))) (aConsOk (rTup (aConsOk (rVar 0) (aConsOk (rVal (.int (Int.ofNat (nat_lit 1)))) aNilOk))) aNilOk))) (aConsOk (rTup (aConsOk (rTup (aConsOk (rVal (.int (Int.ofNat (nat_lit 0)))) (aConsOk (rNegLit (n := nat_lit 0)) aNilOk))) (aConsOk (rTup (aConsOk (rVar 1) (aConsOk (rVal (.int (Int.ofNat (nat_lit 1)))) aNilOk))) aNilOk))) aNilOk))) aNilOk))))
  (cSeq (cIf (tOrOk (tOp2Ok ptNe (dVar 15) (dR (rCall lq_product (aConsOk (rTup (aConsOk (rTup (aConsOk (rVal (.int (Int.ofNat (nat_lit 0)))) (aConsOk (rNegLit (n := nat_lit 0)) aNilOk))) (aConsOk (rTup (aConsOk (rOp2 pMul (dVar 0) (dVar 1)) (aConsOk (rVal (.int (Int.ofNat (nat_lit 1)))) aNilOk))) aNilOk))) (aConsOk (rTup (aConsOk (rTup (aConsOk (rVal (.int (Int.ofNat (nat_lit 0)))) (aConsOk (rNegLit (n := nat_lit 0)) aNilOk))) (aConsOk (rTup (aConsOk (rVal (.int (Int.ofNat (nat_lit 1)))) (aConsOk (rVal (.int (Int.ofNat (nat_lit 1)))) aNilOk))) aNilOk))) aNilOk))))) (tOp2Ok ptNe (dR (rCall lq_quotient (aConsOk (rVar 15) (aConsOk (rVar 10) aNilOk)))) (dR (rCall lq_product (aConsOk (rTup (aConsOk (rTup (aConsOk (rVal (.int (Int.ofNat (nat_lit 0)))) (aConsOk (rNegLit (n := nat_lit 0)) aNilOk))) (aConsOk (rTup (aConsOk (rVar 0) (aConsOk (rVal (.int (Int.ofNat (nat_lit 1)))) aNilOk))) aNilOk))) (aConsOk (rTup (aConsOk (rTup (aConsOk (rVal (.int (Int.ofNat (nat_lit 0)))) (aConsOk (rNegLit (n := nat_lit 0)) aNilOk))) (aConsOk (rTup (aConsOk (rVar 1) (aConsOk (rVal (.int (Int.ofNat (nat_lit 1)))) aNilOk))) aNilOk))) aNilOk)))))) (cRet (dR (rVal _))) cNil)
  (cSeq (cIf (tOp2Ok ptNe (dR (rCall lq_turned (aConsOk (rCall lq_turned (aConsOk (rVar 10) aNilOk)) aNilOk))) (dVar 10)) (cRet (dR (rVal _))) cNil)
  (cRet (dR (rOr (dR (rNot (dR (rChain ptLe ptLe (dR (rVal (.int (Int.ofNat (nat_lit 2))))) (dVar 1) (dR (rVal (.int (Int.ofNat (nat_lit 8))))))))) (rOr (dR (rT2 ptGt (dR (rOp2 pMul (dR (rOp2 pSub (dVar 1) (dR (rVal (.int (Int.ofNat (nat_lit 1))))))) (dVar 0))) (dR (rVal (.int (Int.ofNat (nat_lit 40))))))) (rT2 ptEq (dR (rCall lq_torus_sum (aConsOk (rVar 1) (aConsOk (rVar 0) aNilOk)))) (dVar 10))))))))))))))))))⟩
def q__law_right : Qf := kRun2 [.no, .no, .no, .no, .no, .no, .no, .no, .no, .no, .no, .no, .no, .no] wx__law_right.1
theorem lq__law_right : Lq q__law_right f__law_right := lq2 wx__law_right.2
end W71
end
end
section
set_option Elab.async false
set_option linter.all false
set_option maxRecDepth 100000
set_option maxHeartbeats 4000000
noncomputable section
namespace W71
open PySem PySem.Spec PyProof.Rows L2 LamX Ev
theorem r_2_40 : okR (q__law_right [.int (Int.ofNat (nat_lit 2)), .int (Int.ofNat (nat_lit 40))]) = true := by decide +kernel
theorem r_3_19 : okR (q__law_right [.int (Int.ofNat (nat_lit 3)), .int (Int.ofNat (nat_lit 19))]) = true := by decide +kernel
theorem r_2_35 : okR (q__law_right [.int (Int.ofNat (nat_lit 2)), .int (Int.ofNat (nat_lit 35))]) = true := by decide +kernel
theorem r_2_32 : okR (q__law_right [.int (Int.ofNat (nat_lit 2)), .int (Int.ofNat (nat_lit 32))]) = true := by decide +kernel
theorem r_6_6 : okR (q__law_right [.int (Int.ofNat (nat_lit 6)), .int (Int.ofNat (nat_lit 6))]) = true := by decide +kernel
theorem r_2_27 : okR (q__law_right [.int (Int.ofNat (nat_lit 2)), .int (Int.ofNat (nat_lit 27))]) = true := by decide +kernel
theorem r_3_12 : okR (q__law_right [.int (Int.ofNat (nat_lit 3)), .int (Int.ofNat (nat_lit 12))]) = true := by decide +kernel
theorem r_2_21 : okR (q__law_right [.int (Int.ofNat (nat_lit 2)), .int (Int.ofNat (nat_lit 21))]) = true := by decide +kernel
theorem r_2_19 : okR (q__law_right [.int (Int.ofNat (nat_lit 2)), .int (Int.ofNat (nat_lit 19))]) = true := by decide +kernel
theorem r_3_8 : okR (q__law_right [.int (Int.ofNat (nat_lit 3)), .int (Int.ofNat (nat_lit 8))]) = true := by decide +kernel
theorem r_8_2 : okR (q__law_right [.int (Int.ofNat (nat_lit 8)), .int (Int.ofNat (nat_lit 2))]) = true := by decide +kernel
theorem r_2_11 : okR (q__law_right [.int (Int.ofNat (nat_lit 2)), .int (Int.ofNat (nat_lit 11))]) = true := by decide +kernel
theorem r_3_4 : okR (q__law_right [.int (Int.ofNat (nat_lit 3)), .int (Int.ofNat (nat_lit 4))]) = true := by decide +kernel
theorem r_7_1 : okR (q__law_right [.int (Int.ofNat (nat_lit 7)), .int (Int.ofNat (nat_lit 1))]) = true := by decide +kernel
theorem r_4_1 : okR (q__law_right [.int (Int.ofNat (nat_lit 4)), .int (Int.ofNat (nat_lit 1))]) = true := by decide +kernel
end W71
end
end
section
set_option Elab.async false
set_option linter.all false
set_option maxRecDepth 100000
set_option maxHeartbeats 4000000
noncomputable section
namespace W71
open PySem PySem.Spec PyProof.Rows L2 LamX Ev
theorem r_3_20 : okR (q__law_right [.int (Int.ofNat (nat_lit 3)), .int (Int.ofNat (nat_lit 20))]) = true := by decide +kernel
theorem r_2_37 : okR (q__law_right [.int (Int.ofNat (nat_lit 2)), .int (Int.ofNat (nat_lit 37))]) = true := by decide +kernel
theorem r_6_7 : okR (q__law_right [.int (Int.ofNat (nat_lit 6)), .int (Int.ofNat (nat_lit 7))]) = true := by decide +kernel
theorem r_3_16 : okR (q__law_right [.int (Int.ofNat (nat_lit 3)), .int (Int.ofNat (nat_lit 16))]) = true := by decide +kernel
theorem r_7_5 : okR (q__law_right [.int (Int.ofNat (nat_lit 7)), .int (Int.ofNat (nat_lit 5))]) = true := by decide +kernel
theorem r_4_9 : okR (q__law_right [.int (Int.ofNat (nat_lit 4)), .int (Int.ofNat (nat_lit 9))]) = true := by decide +kernel
theorem r_4_8 : okR (q__law_right [.int (Int.ofNat (nat_lit 4)), .int (Int.ofNat (nat_lit 8))]) = true := by decide +kernel
theorem r_4_7 : okR (q__law_right [.int (Int.ofNat (nat_lit 4)), .int (Int.ofNat (nat_lit 7))]) = true := by decide +kernel
theorem r_2_18 : okR (q__law_right [.int (Int.ofNat (nat_lit 2)), .int (Int.ofNat (nat_lit 18))]) = true := by decide +kernel
theorem r_5_4 : okR (q__law_right [.int (Int.ofNat (nat_lit 5)), .int (Int.ofNat (nat_lit 4))]) = true := by decide +kernel
theorem r_2_13 : okR (q__law_right [.int (Int.ofNat (nat_lit 2)), .int (Int.ofNat (nat_lit 13))]) = true := by decide +kernel
theorem r_2_10 : okR (q__law_right [.int (Int.ofNat (nat_lit 2)), .int (Int.ofNat (nat_lit 10))]) = true := by decide +kernel
theorem r_5_2 : okR (q__law_right [.int (Int.ofNat (nat_lit 5)), .int (Int.ofNat (nat_lit 2))]) = true := by decide +kernel
theorem r_2_5 : okR (q__law_right [.int (Int.ofNat (nat_lit 2)), .int (Int.ofNat (nat_lit 5))]) = true := by decide +kernel
theorem r_2_2 : okR (q__law_right [.int (Int.ofNat (nat_lit 2)), .int (Int.ofNat (nat_lit 2))]) = true := by decide +kernel
end W71
end
end
section
set_option Elab.async false
set_option linter.all false
set_option maxRecDepth 100000
set_option maxHeartbeats 4000000
noncomputable section
namespace W71
open PySem PySem.Spec PyProof.Rows L2 LamX Ev
theorem r_5_10 : okR (q__law_right [.int (Int.ofNat (nat_lit 5)), .int (Int.ofNat (nat_lit 10))]) = true := by decide +kernel
theorem r_2_36 : okR (q__law_right [.int (Int.ofNat (nat_lit 2)), .int (Int.ofNat (nat_lit 36))]) = true := by decide +kernel
theorem r_8_5 : okR (q__law_right [.int (Int.ofNat (nat_lit 8)), .int (Int.ofNat (nat_lit 5))]) = true := by decide +kernel
theorem r_5_8 : okR (q__law_right [.int (Int.ofNat (nat_lit 5)), .int (Int.ofNat (nat_lit 8))]) = true := by decide +kernel
theorem r_2_29 : okR (q__law_right [.int (Int.ofNat (nat_lit 2)), .int (Int.ofNat (nat_lit 29))]) = true := by decide +kernel
theorem r_2_26 : okR (q__law_right [.int (Int.ofNat (nat_lit 2)), .int (Int.ofNat (nat_lit 26))]) = true := by decide +kernel
theorem r_5_6 : okR (q__law_right [.int (Int.ofNat (nat_lit 5)), .int (Int.ofNat (nat_lit 6))]) = true := by decide +kernel
theorem r_8_3 : okR (q__law_right [.int (Int.ofNat (nat_lit 8)), .int (Int.ofNat (nat_lit 3))]) = true := by decide +kernel
theorem r_3_9 : okR (q__law_right [.int (Int.ofNat (nat_lit 3)), .int (Int.ofNat (nat_lit 9))]) = true := by decide +kernel
theorem r_2_15 : okR (q__law_right [.int (Int.ofNat (nat_lit 2)), .int (Int.ofNat (nat_lit 15))]) = true := by decide +kernel
theorem r_2_12 : okR (q__law_right [.int (Int.ofNat (nat_lit 2)), .int (Int.ofNat (nat_lit 12))]) = true := by decide +kernel
theorem r_3_5 : okR (q__law_right [.int (Int.ofNat (nat_lit 3)), .int (Int.ofNat (nat_lit 5))]) = true := by decide +kernel
theorem r_2_7 : okR (q__law_right [.int (Int.ofNat (nat_lit 2)), .int (Int.ofNat (nat_lit 7))]) = true := by decide +kernel
theorem r_6_1 : okR (q__law_right [.int (Int.ofNat (nat_lit 6)), .int (Int.ofNat (nat_lit 1))]) = true := by decide +kernel
theorem r_3_1 : okR (q__law_right [.int (Int.ofNat (nat_lit 3)), .int (Int.ofNat (nat_lit 1))]) = true := by decide +kernel
end W71
end
end
section
set_option Elab.async false
set_option linter.all false
set_option maxRecDepth 100000
set_option maxHeartbeats 4000000
noncomputable section
namespace W71
open PySem PySem.Spec PyProof.Rows L2 LamX Ev
theorem r_6_8 : okR (q__law_right [.int (Int.ofNat (nat_lit 6)), .int (Int.ofNat (nat_lit 8))]) = true := by decide +kernel
theorem r_3_18 : okR (q__law_right [.int (Int.ofNat (nat_lit 3)), .int (Int.ofNat (nat_lit 18))]) = true := by decide +kernel
theorem r_2_34 : okR (q__law_right [.int (Int.ofNat (nat_lit 2)), .int (Int.ofNat (nat_lit 34))]) = true := by decide +kernel
theorem r_2_31 : okR (q__law_right [.int (Int.ofNat (nat_lit 2)), .int (Int.ofNat (nat_lit 31))]) = true := by decide +kernel
theorem r_2_28 : okR (q__law_right [.int (Int.ofNat (nat_lit 2)), .int (Int.ofNat (nat_lit 28))]) = true := by decide +kernel
theorem r_3_13 : okR (q__law_right [.int (Int.ofNat (nat_lit 3)), .int (Int.ofNat (nat_lit 13))]) = true := by decide +kernel
theorem r_7_4 : okR (q__law_right [.int (Int.ofNat (nat_lit 7)), .int (Int.ofNat (nat_lit 4))]) = true := by decide +kernel
theorem r_2_20 : okR (q__law_right [.int (Int.ofNat (nat_lit 2)), .int (Int.ofNat (nat_lit 20))]) = true := by decide +kernel
theorem r_4_6 : okR (q__law_right [.int (Int.ofNat (nat_lit 4)), .int (Int.ofNat (nat_lit 6))]) = true := by decide +kernel
theorem r_4_5 : okR (q__law_right [.int (Int.ofNat (nat_lit 4)), .int (Int.ofNat (nat_lit 5))]) = true := by decide +kernel
theorem r_3_6 : okR (q__law_right [.int (Int.ofNat (nat_lit 3)), .int (Int.ofNat (nat_lit 6))]) = true := by decide +kernel
theorem r_6_2 : okR (q__law_right [.int (Int.ofNat (nat_lit 6)), .int (Int.ofNat (nat_lit 2))]) = true := by decide +kernel
theorem r_8_1 : okR (q__law_right [.int (Int.ofNat (nat_lit 8)), .int (Int.ofNat (nat_lit 1))]) = true := by decide +kernel
theorem r_2_4 : okR (q__law_right [.int (Int.ofNat (nat_lit 2)), .int (Int.ofNat (nat_lit 4))]) = true := by decide +kernel
theorem r_2_1 : okR (q__law_right [.int (Int.ofNat (nat_lit 2)), .int (Int.ofNat (nat_lit 1))]) = true := by decide +kernel
end W71
end
end
section
set_option Elab.async false
set_option linter.all false
set_option maxRecDepth 100000
set_option maxHeartbeats 4000000
noncomputable section
namespace W71
open PySem PySem.Spec PyProof.Rows L2 LamX Ev
theorem r_2_39 : okR (q__law_right [.int (Int.ofNat (nat_lit 2)), .int (Int.ofNat (nat_lit 39))]) = true := by decide +kernel
theorem r_4_12 : okR (q__law_right [.int (Int.ofNat (nat_lit 4)), .int (Int.ofNat (nat_lit 12))]) = true := by decide +kernel
theorem r_3_17 : okR (q__law_right [.int (Int.ofNat (nat_lit 3)), .int (Int.ofNat (nat_lit 17))]) = true := by decide +kernel
theorem r_2_30 : okR (q__law_right [.int (Int.ofNat (nat_lit 2)), .int (Int.ofNat (nat_lit 30))]) = true := by decide +kernel
theorem r_3_14 : okR (q__law_right [.int (Int.ofNat (nat_lit 3)), .int (Int.ofNat (nat_lit 14))]) = true := by decide +kernel
theorem r_2_25 : okR (q__law_right [.int (Int.ofNat (nat_lit 2)), .int (Int.ofNat (nat_lit 25))]) = true := by decide +kernel
theorem r_2_23 : okR (q__law_right [.int (Int.ofNat (nat_lit 2)), .int (Int.ofNat (nat_lit 23))]) = true := by decide +kernel
theorem r_3_10 : okR (q__law_right [.int (Int.ofNat (nat_lit 3)), .int (Int.ofNat (nat_lit 10))]) = true := by decide +kernel
theorem r_7_3 : okR (q__law_right [.int (Int.ofNat (nat_lit 7)), .int (Int.ofNat (nat_lit 3))]) = true := by decide +kernel
theorem r_6_3 : okR (q__law_right [.int (Int.ofNat (nat_lit 6)), .int (Int.ofNat (nat_lit 3))]) = true := by decide +kernel
theorem r_4_4 : okR (q__law_right [.int (Int.ofNat (nat_lit 4)), .int (Int.ofNat (nat_lit 4))]) = true := by decide +kernel
theorem r_2_9 : okR (q__law_right [.int (Int.ofNat (nat_lit 2)), .int (Int.ofNat (nat_lit 9))]) = true := by decide +kernel
theorem r_2_6 : okR (q__law_right [.int (Int.ofNat (nat_lit 2)), .int (Int.ofNat (nat_lit 6))]) = true := by decide +kernel
theorem r_3_2 : okR (q__law_right [.int (Int.ofNat (nat_lit 3)), .int (Int.ofNat (nat_lit 2))]) = true := by decide +kernel
end W71
end
end
section
set_option Elab.async false
set_option linter.all false
set_option maxRecDepth 100000
set_option maxHeartbeats 4000000
noncomputable section
namespace W71
open PySem PySem.Spec PyProof.Rows L2 LamX Ev
theorem r_4_13 : okR (q__law_right [.int (Int.ofNat (nat_lit 4)), .int (Int.ofNat (nat_lit 13))]) = true := by decide +kernel
theorem r_5_9 : okR (q__law_right [.int (Int.ofNat (nat_lit 5)), .int (Int.ofNat (nat_lit 9))]) = true := by decide +kernel
theorem r_2_33 : okR (q__law_right [.int (Int.ofNat (nat_lit 2)), .int (Int.ofNat (nat_lit 33))]) = true := by decide +kernel
theorem r_3_15 : okR (q__law_right [.int (Int.ofNat (nat_lit 3)), .int (Int.ofNat (nat_lit 15))]) = true := by decide +kernel
theorem r_5_7 : okR (q__law_right [.int (Int.ofNat (nat_lit 5)), .int (Int.ofNat (nat_lit 7))]) = true := by decide +kernel
theorem r_6_5 : okR (q__law_right [.int (Int.ofNat (nat_lit 6)), .int (Int.ofNat (nat_lit 5))]) = true := by decide +kernel
theorem r_2_22 : okR (q__law_right [.int (Int.ofNat (nat_lit 2)), .int (Int.ofNat (nat_lit 22))]) = true := by decide +kernel
theorem r_5_5 : okR (q__law_right [.int (Int.ofNat (nat_lit 5)), .int (Int.ofNat (nat_lit 5))]) = true := by decide +kernel
theorem r_2_17 : okR (q__law_right [.int (Int.ofNat (nat_lit 2)), .int (Int.ofNat (nat_lit 17))]) = true := by decide +kernel
theorem r_2_14 : okR (q__law_right [.int (Int.ofNat (nat_lit 2)), .int (Int.ofNat (nat_lit 14))]) = true := by decide +kernel
theorem r_5_3 : okR (q__law_right [.int (Int.ofNat (nat_lit 5)), .int (Int.ofNat (nat_lit 3))]) = true := by decide +kernel
theorem r_4_3 : okR (q__law_right [.int (Int.ofNat (nat_lit 4)), .int (Int.ofNat (nat_lit 3))]) = true := by decide +kernel
theorem r_3_3 : okR (q__law_right [.int (Int.ofNat (nat_lit 3)), .int (Int.ofNat (nat_lit 3))]) = true := by decide +kernel
theorem r_5_1 : okR (q__law_right [.int (Int.ofNat (nat_lit 5)), .int (Int.ofNat (nat_lit 1))]) = true := by decide +kernel
end W71
end
end
section
set_option Elab.async false
set_option linter.all false
set_option maxRecDepth 100000
set_option maxHeartbeats 4000000
noncomputable section
namespace W71
open PySem PySem.Spec PyProof.Rows L2 LamX Ev
theorem r_2_38 : okR (q__law_right [.int (Int.ofNat (nat_lit 2)), .int (Int.ofNat (nat_lit 38))]) = true := by decide +kernel
theorem r_7_6 : okR (q__law_right [.int (Int.ofNat (nat_lit 7)), .int (Int.ofNat (nat_lit 6))]) = true := by decide +kernel
theorem r_4_11 : okR (q__law_right [.int (Int.ofNat (nat_lit 4)), .int (Int.ofNat (nat_lit 11))]) = true := by decide +kernel
theorem r_4_10 : okR (q__law_right [.int (Int.ofNat (nat_lit 4)), .int (Int.ofNat (nat_lit 10))]) = true := by decide +kernel
theorem r_8_4 : okR (q__law_right [.int (Int.ofNat (nat_lit 8)), .int (Int.ofNat (nat_lit 4))]) = true := by decide +kernel
theorem r_2_24 : okR (q__law_right [.int (Int.ofNat (nat_lit 2)), .int (Int.ofNat (nat_lit 24))]) = true := by decide +kernel
theorem r_3_11 : okR (q__law_right [.int (Int.ofNat (nat_lit 3)), .int (Int.ofNat (nat_lit 11))]) = true := by decide +kernel
theorem r_6_4 : okR (q__law_right [.int (Int.ofNat (nat_lit 6)), .int (Int.ofNat (nat_lit 4))]) = true := by decide +kernel
theorem r_2_16 : okR (q__law_right [.int (Int.ofNat (nat_lit 2)), .int (Int.ofNat (nat_lit 16))]) = true := by decide +kernel
theorem r_3_7 : okR (q__law_right [.int (Int.ofNat (nat_lit 3)), .int (Int.ofNat (nat_lit 7))]) = true := by decide +kernel
theorem r_7_2 : okR (q__law_right [.int (Int.ofNat (nat_lit 7)), .int (Int.ofNat (nat_lit 2))]) = true := by decide +kernel
theorem r_2_8 : okR (q__law_right [.int (Int.ofNat (nat_lit 2)), .int (Int.ofNat (nat_lit 8))]) = true := by decide +kernel
theorem r_4_2 : okR (q__law_right [.int (Int.ofNat (nat_lit 4)), .int (Int.ofNat (nat_lit 2))]) = true := by decide +kernel
theorem r_2_3 : okR (q__law_right [.int (Int.ofNat (nat_lit 2)), .int (Int.ofNat (nat_lit 3))]) = true := by decide +kernel
end W71
end
end
section
set_option Elab.async false
set_option linter.all false
set_option maxRecDepth 100000
set_option maxHeartbeats 4000000
noncomputable section
namespace W71
open PySem PySem.Spec PyProof.Rows L2 LamX Ev
theorem right_2 (q : Nat) (h1 : 1 ≤ q) (h2 : q ≤ 40) : okR (q__law_right [.int (Int.ofNat 2), .int (Int.ofNat q)]) = true := by
  have h : q = 1 ∨ q = 2 ∨ q = 3 ∨ q = 4 ∨ q = 5 ∨ q = 6 ∨ q = 7 ∨ q = 8 ∨ q = 9 ∨ q = 10 ∨ q = 11 ∨ q = 12 ∨ q = 13 ∨ q = 14 ∨ q = 15 ∨ q = 16 ∨ q = 17 ∨ q = 18 ∨ q = 19 ∨ q = 20 ∨ q = 21 ∨ q = 22 ∨ q = 23 ∨ q = 24 ∨ q = 25 ∨ q = 26 ∨ q = 27 ∨ q = 28 ∨ q = 29 ∨ q = 30 ∨ q = 31 ∨ q = 32 ∨ q = 33 ∨ q = 34 ∨ q = 35 ∨ q = 36 ∨ q = 37 ∨ q = 38 ∨ q = 39 ∨ q = 40 := by omega
  rcases h with rfl | rfl | rfl | rfl | rfl | rfl | rfl | rfl | rfl | rfl | rfl | rfl | rfl | rfl | rfl | rfl | rfl | rfl | rfl | rfl | rfl | rfl | rfl | rfl | rfl | rfl | rfl | rfl | rfl | rfl | rfl | rfl | rfl | rfl | rfl | rfl | rfl | rfl | rfl | rfl
  · exact r_2_1
  · exact r_2_2
  · exact r_2_3
  · exact r_2_4
  · exact r_2_5
  · exact r_2_6
  · exact r_2_7
  · exact r_2_8
  · exact r_2_9
  · exact r_2_10
  · exact r_2_11
  · exact r_2_12
  · exact r_2_13
  · exact r_2_14
  · exact r_2_15
  · exact r_2_16
  · exact r_2_17
  · exact r_2_18
  · exact r_2_19
  · exact r_2_20
  · exact r_2_21
  · exact r_2_22
  · exact r_2_23
  · exact r_2_24
  · exact r_2_25
  · exact r_2_26
  · exact r_2_27
  · exact r_2_28
  · exact r_2_29
  · exact r_2_30
  · exact r_2_31
  · exact r_2_32
  · exact r_2_33
  · exact r_2_34
  · exact r_2_35
  · exact r_2_36
  · exact r_2_37
  · exact r_2_38
  · exact r_2_39
  · exact r_2_40
theorem right_3 (q : Nat) (h1 : 1 ≤ q) (h2 : q ≤ 20) : okR (q__law_right [.int (Int.ofNat 3), .int (Int.ofNat q)]) = true := by
  have h : q = 1 ∨ q = 2 ∨ q = 3 ∨ q = 4 ∨ q = 5 ∨ q = 6 ∨ q = 7 ∨ q = 8 ∨ q = 9 ∨ q = 10 ∨ q = 11 ∨ q = 12 ∨ q = 13 ∨ q = 14 ∨ q = 15 ∨ q = 16 ∨ q = 17 ∨ q = 18 ∨ q = 19 ∨ q = 20 := by omega
  rcases h with rfl | rfl | rfl | rfl | rfl | rfl | rfl | rfl | rfl | rfl | rfl | rfl | rfl | rfl | rfl | rfl | rfl | rfl | rfl | rfl
  · exact r_3_1
  · exact r_3_2
  · exact r_3_3
  · exact r_3_4
  · exact r_3_5
  · exact r_3_6
  · exact r_3_7
  · exact r_3_8
  · exact r_3_9
  · exact r_3_10
  · exact r_3_11
  · exact r_3_12
  · exact r_3_13
  · exact r_3_14
  · exact r_3_15
  · exact r_3_16
  · exact r_3_17
  · exact r_3_18
  · exact r_3_19
  · exact r_3_20
theorem right_4 (q : Nat) (h1 : 1 ≤ q) (h2 : q ≤ 13) : okR (q__law_right [.int (Int.ofNat 4), .int (Int.ofNat q)]) = true := by
  have h : q = 1 ∨ q = 2 ∨ q = 3 ∨ q = 4 ∨ q = 5 ∨ q = 6 ∨ q = 7 ∨ q = 8 ∨ q = 9 ∨ q = 10 ∨ q = 11 ∨ q = 12 ∨ q = 13 := by omega
  rcases h with rfl | rfl | rfl | rfl | rfl | rfl | rfl | rfl | rfl | rfl | rfl | rfl | rfl
  · exact r_4_1
  · exact r_4_2
  · exact r_4_3
  · exact r_4_4
  · exact r_4_5
  · exact r_4_6
  · exact r_4_7
  · exact r_4_8
  · exact r_4_9
  · exact r_4_10
  · exact r_4_11
  · exact r_4_12
  · exact r_4_13
theorem right_5 (q : Nat) (h1 : 1 ≤ q) (h2 : q ≤ 10) : okR (q__law_right [.int (Int.ofNat 5), .int (Int.ofNat q)]) = true := by
  have h : q = 1 ∨ q = 2 ∨ q = 3 ∨ q = 4 ∨ q = 5 ∨ q = 6 ∨ q = 7 ∨ q = 8 ∨ q = 9 ∨ q = 10 := by omega
  rcases h with rfl | rfl | rfl | rfl | rfl | rfl | rfl | rfl | rfl | rfl
  · exact r_5_1
  · exact r_5_2
  · exact r_5_3
  · exact r_5_4
  · exact r_5_5
  · exact r_5_6
  · exact r_5_7
  · exact r_5_8
  · exact r_5_9
  · exact r_5_10
theorem right_6 (q : Nat) (h1 : 1 ≤ q) (h2 : q ≤ 8) : okR (q__law_right [.int (Int.ofNat 6), .int (Int.ofNat q)]) = true := by
  have h : q = 1 ∨ q = 2 ∨ q = 3 ∨ q = 4 ∨ q = 5 ∨ q = 6 ∨ q = 7 ∨ q = 8 := by omega
  rcases h with rfl | rfl | rfl | rfl | rfl | rfl | rfl | rfl
  · exact r_6_1
  · exact r_6_2
  · exact r_6_3
  · exact r_6_4
  · exact r_6_5
  · exact r_6_6
  · exact r_6_7
  · exact r_6_8
theorem right_7 (q : Nat) (h1 : 1 ≤ q) (h2 : q ≤ 6) : okR (q__law_right [.int (Int.ofNat 7), .int (Int.ofNat q)]) = true := by
  have h : q = 1 ∨ q = 2 ∨ q = 3 ∨ q = 4 ∨ q = 5 ∨ q = 6 := by omega
  rcases h with rfl | rfl | rfl | rfl | rfl | rfl
  · exact r_7_1
  · exact r_7_2
  · exact r_7_3
  · exact r_7_4
  · exact r_7_5
  · exact r_7_6
theorem right_8 (q : Nat) (h1 : 1 ≤ q) (h2 : q ≤ 5) : okR (q__law_right [.int (Int.ofNat 8), .int (Int.ofNat q)]) = true := by
  have h : q = 1 ∨ q = 2 ∨ q = 3 ∨ q = 4 ∨ q = 5 := by omega
  rcases h with rfl | rfl | rfl | rfl | rfl
  · exact r_8_1
  · exact r_8_2
  · exact r_8_3
  · exact r_8_4
  · exact r_8_5
theorem right_ev (p q : Int) (h1 : 2 ≤ p) (h2 : p ≤ 8) (h3 : 1 ≤ q) (h4 : (p - 1) * q ≤ 40) : f__law_right [.int p, .int q] [] = some (.ok (.bl true) []) := by
  have go : ∀ n : Nat, 1 ≤ n → (p - 1) * (n : Int) ≤ 40 → okR (q__law_right [.int p, .int (Int.ofNat n)]) = true := by
    intro n k1 k2
    have hp : p = 2 ∨ p = 3 ∨ p = 4 ∨ p = 5 ∨ p = 6 ∨ p = 7 ∨ p = 8 := by omega
    rcases hp with rfl | rfl | rfl | rfl | rfl | rfl | rfl
    · exact right_2 n k1 (by omega)
    · exact right_3 n k1 (by omega)
    · exact right_4 n k1 (by omega)
    · exact right_5 n k1 (by omega)
    · exact right_6 n k1 (by omega)
    · exact right_7 n k1 (by omega)
    · exact right_8 n k1 (by omega)
  obtain ⟨n, rfl⟩ : ∃ n : Nat, q = (n : Int) := ⟨q.toNat, by omega⟩
  exact lq__law_right _ _ (okR_eq (go n (by omega) h4))
def q_tab : Qf := fun ds => match ds with
  | [.int p, .int q] => if 2 ≤ p ∧ p ≤ 8 ∧ 1 ≤ q ∧ (p - 1) * q ≤ 40 then some (.rt (.bl true)) else none
  | _ => none
theorem lt__law_right : Lq q_tab f__law_right := fun ds o h => by
  unfold q_tab at h
  split at h
  · split at h
    · rename_i p q z
      cases h
      exact right_ev p q z.1 z.2.1 z.2.2.1 z.2.2.2
    · cases h
  · cases h
def qv_law : Nat → Qf := fun k => if k = 25 then q_torus_picture else if k = 26 then q_torus_pieces else if k = 27 then q_torus_sum else if k = 28 then q_torus_mark else if k = 29 then q_torus_round else fun _ => none
theorem lv_fs_law : ∀ k ds o, qv_law k ds = some o → ∃ f, fs_law k = some f ∧ f ds [] = some (toF o) := by
  intro k ds o h
  unfold qv_law at h
  unfold fs_law
  split at h
  · rename_i e; exact ⟨_, if_pos e, lq_torus_picture _ _ h⟩
  · rename_i e0
    split at h
    · rename_i e; exact ⟨_, (if_neg e0).trans (if_pos e), lq_torus_pieces _ _ h⟩
    · rename_i e1
      split at h
      · rename_i e; exact ⟨_, (if_neg e0).trans ((if_neg e1).trans (if_pos e)), lq_torus_sum _ _ h⟩
      · rename_i e2
        split at h
        · rename_i e; exact ⟨_, (if_neg e0).trans ((if_neg e1).trans ((if_neg e2).trans (if_pos e))), lq_torus_mark _ _ h⟩
        · rename_i e3
          split at h
          · rename_i e; exact ⟨_, (if_neg e0).trans ((if_neg e1).trans ((if_neg e2).trans ((if_neg e3).trans (if_pos e)))), lq_torus_round _ _ h⟩
          · rename_i e4
            cases h
def wx_law2 : {qc : QC // COk b_law2 qc} := ⟨_, (cSeq (cAsgD (rLst (aConsOk (rCall lq_torus_picture (aConsOk (rVal (.int (Int.ofNat (nat_lit 2)))) (aConsOk (rVal (.int (Int.ofNat (nat_lit 3)))) aNilOk))) (aConsOk (rCall lq_torus_pieces (aConsOk (rVal (.int (Int.ofNat (nat_lit 2)))) (aConsOk (rVal (.int (Int.ofNat (nat_lit 4)))) aNilOk))) (aConsOk (rCall lq_torus_sum (aConsOk (rVal (.int (Int.ofNat (nat_lit 2)))) (aConsOk (rVal (.int (Int.ofNat (nat_lit 3)))) aNilOk))) (aConsOk (rCall lq_torus_sum (aConsOk (rVal (.int (Int.ofNat (nat_lit 3)))) (aConsOk (rVal (.int (Int.ofNat (nat_lit 4)))) aNilOk))) (aConsOk (rCall lq_torus_mark (aConsOk (rVal (.int (Int.ofNat (nat_lit 2)))) (aConsOk (rVal (.int (Int.ofNat (nat_lit 7)))) aNilOk))) (aConsOk (rCall lq_torus_mark (aConsOk (rVal (.int (Int.ofNat (nat_lit 3)))) (aConsOk (rVal (.int (Int.ofNat (nat_lit 5)))) aNilOk))) aNilOk))))))) (gD 4))
  (cSeq (cAsgD (rOp2 pAdd (dVar 4) (dR (rLst (aConsOk (rCall lq_torus_round (aConsOk (rVal (.int (Int.ofNat (nat_lit 2)))) (aConsOk (rVal (.int (Int.ofNat (nat_lit 4)))) aNilOk))) (aConsOk (rCall lq_torus_round (aConsOk (rVal (.int (Int.ofNat (nat_lit 3)))) (aConsOk (rVal (.int (Int.ofNat (nat_lit 3)))) aNilOk))) (aConsOk (rCall lq_torus_sum (aConsOk (rVal (.int (Int.ofNat (nat_lit 2)))) (aConsOk (rVal (.int (Int.ofNat (nat_lit 1)))) aNilOk))) (aConsOk (rCall lq_torus_pieces (aConsOk (rVal (.int (Int.ofNat (nat_lit 6)))) (aConsOk (rVal (.int (Int.ofNat (nat_lit 8)))) aNilOk))) aNilOk))))))) (gD 4))
  (cSeq (cAsgD (rLst (aConsOk (rTup (aConsOk (rTup (aConsOk (rTup (aConsOk (rVal (.int (Int.ofNat (nat_lit 5)))) (aConsOk (rVal (.int (Int.ofNat (nat_lit 1)))) (aConsOk (rVal (.int (Int.ofNat (nat_lit 0)))) (aConsOk (rVal (.int (Int.ofNat (nat_lit 4)))) aNilOk))))) (aConsOk (rTup (aConsOk (rVal (.int (Int.ofNat (nat_lit 1)))) (aConsOk (rVal (.int (Int.ofNat (nat_lit 3)))) (aConsOk (rVal (.int (Int.ofNat (nat_lit 2)))) (aConsOk (rVal (.int (Int.ofNat (nat_lit 0)))) aNilOk))))) (aConsOk (rTup (aConsOk (rVal (.int (Int.ofNat (nat_lit 3)))) (aConsOk (rVal (.int (Int.ofNat (nat_lit 5)))) (aConsOk (rVal (.int (Int.ofNat (nat_lit 4)))) (aConsOk (rVal (.int (Int.ofNat (nat_lit 2)))) aNilOk))))) aNilOk)))) (aConsOk (rVal (.int (Int.ofNat (nat_lit 0)))) aNilOk))) (aConsOk (rVal (.int (Int.ofNat (nat_lit 2)))) (aConsOk (rTup (aConsOk (rTup (aConsOk (rVal (.int (Int.ofNat (nat_lit 0)))) (aConsOk (rVal (.int (Int.ofNat (nat_lit 1)))) aNilOk))) (aConsOk (rTup (aConsOk (rVal (.int (Int.ofNat (nat_lit 1)))) (aConsOk (rNegLit (n := nat_lit 0)) aNilOk))) (aConsOk (rTup (aConsOk (rVal (.int (Int.ofNat (nat_lit 2)))) (aConsOk (rVal (.int (Int.ofNat (nat_lit 1)))) aNilOk))) aNilOk)))) aNilOk)))) (gD 5))
  (cSeq (cAsgD (rOp2 pAdd (dVar 5) (dR (rLst (aConsOk (rTup (aConsOk (rTup (aConsOk (rVal (.int (Int.ofNat (nat_lit 0)))) (aConsOk (rVal (.int (Int.ofNat (nat_lit 1)))) aNilOk))) (aConsOk (rTup (aConsOk (rVal (.int (Int.ofNat (nat_lit 1)))) (aConsOk (rNegLit (n := nat_lit 0)) aNilOk))) (aConsOk (rTup (aConsOk (rVal (.int (Int.ofNat (nat_lit 3)))) (aConsOk (rVal (.int (Int.ofNat (nat_lit 1)))) aNilOk))) (aConsOk (rTup (aConsOk (rVal (.int (Int.ofNat (nat_lit 5)))) (aConsOk (rNegLit (n := nat_lit 0)) aNilOk))) (aConsOk (rTup (aConsOk (rVal (.int (Int.ofNat (nat_lit 6)))) (aConsOk (rVal (.int (Int.ofNat (nat_lit 1)))) aNilOk))) aNilOk)))))) (aConsOk (rVal (.int (Int.ofNat (nat_lit 7)))) (aConsOk (rVal (.int (Int.ofNat (nat_lit 1)))) (aConsOk (rVal (.int (Int.ofNat (nat_lit 2)))) (aConsOk (rVal (.int (Int.ofNat (nat_lit 1)))) (aConsOk (rTup (aConsOk (rTup (aConsOk (rVal (.int (Int.ofNat (nat_lit 0)))) (aConsOk (rVal (.int (Int.ofNat (nat_lit 1)))) aNilOk))) aNilOk)) (aConsOk (rVal (.int (Int.ofNat (nat_lit 2)))) aNilOk)))))))))) (gD 5))
  (cSeq (cIf (tNotOk (tTruOk (dR (rCall (lq__law_like 6) (aConsOk (rVar 4) (aConsOk (rVar 5) aNilOk)))))) (cRet (dR (rVal _))) cNil)
  (cSeq (cFor (iOfJ (jSeq (rTup (aConsOk (rTup (aConsOk (rVal (.int (Int.ofNat (nat_lit 2)))) (aConsOk (rVal (.int (Int.ofNat (nat_lit 1)))) aNilOk))) (aConsOk (rTup (aConsOk (rVal (.int (Int.ofNat (nat_lit 2)))) (aConsOk (rVal (.int (Int.ofNat (nat_lit 2)))) aNilOk))) (aConsOk (rTup (aConsOk (rVal (.int (Int.ofNat (nat_lit 2)))) (aConsOk (rVal (.int (Int.ofNat (nat_lit 40)))) aNilOk))) (aConsOk (rTup (aConsOk (rVal (.int (Int.ofNat (nat_lit 2)))) (aConsOk (rVal (.int (Int.ofNat (nat_lit 39)))) aNilOk))) (aConsOk (rTup (aConsOk (rVal (.int (Int.ofNat (nat_lit 3)))) (aConsOk (rVal (.int (Int.ofNat (nat_lit 20)))) aNilOk))) (aConsOk (rTup (aConsOk (rVal (.int (Int.ofNat (nat_lit 3)))) (aConsOk (rVal (.int (Int.ofNat (nat_lit 19)))) aNilOk))) (aConsOk (rTup (aConsOk (rVal (.int (Int.ofNat (nat_lit 4)))) (aConsOk (rVal (.int (Int.ofNat (nat_lit 6)))) aNilOk))) (aConsOk (rTup (aConsOk (rVal (.int (Int.ofNat (nat_lit 5)))) (aConsOk (rVal (.int (Int.ofNat (nat_lit 7)))) aNilOk))) (aConsOk (rTup (aConsOk (rVal (.int (Int.ofNat (nat_lit 6)))) (aConsOk (rVal (.int (Int.ofNat (nat_lit 8)))) aNilOk))) (aConsOk (rTup (aConsOk (rVal (.int (Int.ofNat (nat_lit 7)))) (aConsOk (rVal (.int (Int.ofNat (nat_lit 6)))) aNilOk))) (aConsOk (rTup (aConsOk (rVal (.int (Int.ofNat (nat_lit 8)))) (aConsOk (rVal (.int (Int.ofNat (nat_lit 5)))) aNilOk))) (aConsOk (rTup (aConsOk (rVal (.int (Int.ofNat (nat_lit 8)))) (aConsOk (rVal (.int (Int.ofNat (nat_lit 1)))) aNilOk))) (aConsOk (rTup (aConsOk (rVal (.int (Int.ofNat (nat_lit 4)))) (aConsOk (rVal (.int (Int.ofNat (nat_lit 4)))) aNilOk))) aNilOk)))))))))))))))) (gT2 (gD 3) (gD 6)) (cIf (tNotOk (tTruOk (dR (rCall lt__law_right (aConsOk (rVar 3) (aConsOk (rVar 6) aNilOk)))))) (cRet (dR (rVal _))) cNil))
  (cSeq (cFor (iOfJ (jSeq (rTup (aConsOk (rTup (aConsOk (rVal (.int (Int.ofNat (nat_lit 2)))) (aConsOk (rVal (.int (Int.ofNat (nat_lit 3)))) aNilOk))) (aConsOk (rTup (aConsOk (rVal (.int (Int.ofNat (nat_lit 2)))) (aConsOk (rVal (.int (Int.ofNat (nat_lit 7)))) aNilOk))) (aConsOk (rTup (aConsOk (rVal (.int (Int.ofNat (nat_lit 3)))) (aConsOk (rVal (.int (Int.ofNat (nat_lit 4)))) aNilOk))) (aConsOk (rTup (aConsOk (rVal (.int (Int.ofNat (nat_lit 3)))) (aConsOk (rVal (.int (Int.ofNat (nat_lit 5)))) aNilOk))) aNilOk))))))) (gT2 (gD 3) (gD 6)) (cSeq (cAsg (rCall lq_torus_picture (aConsOk (rVar 3) (aConsOk (rVar 6) aNilOk))))
  (cIf (tOp2Ok ptLt (dR (rOp2 pMul (dR (rVal (.int (Int.ofNat (nat_lit 2))))) (dR (rOpL1 pLen (dR (rCall lq_changes_for (aConsOk (rVar 7) (aConsOk (rCall lq_plain_start (aConsOk (rVar 7) aNilOk)) aNilOk)))))))) (dR (rOp2 pMul (dR (rOp2 pSub (dVar 3) (dR (rVal (.int (Int.ofNat (nat_lit 1))))))) (dR (rOp2 pSub (dVar 6) (dR (rVal (.int (Int.ofNat (nat_lit 1)))))))))) (cRet (dR (rVal _))) cNil)))
  (cSeq (cAsgD (rLst aNilOk) (gD 8))
  (cSeq (cFor (iOfJ (jSeq (rTup (aConsOk (rVal _) (aConsOk (rVal _) (aConsOk (rVal _) (aConsOk (rVal _) (aConsOk (rVal _) aNilOk)))))))) (gD 9) (cSeq (cAsgD (rOp2 pAdd (dVar 8) (dR (rComp (jSeq (rTup (aConsOk (rVal _) (aConsOk (rVal (.int (Int.ofNat (nat_lit 1)))) (aConsOk (rVal (.int (Int.ofNat (nat_lit 9)))) (aConsOk (rVal _) (aConsOk (rVal _) aNilOk))))))) (hD 10) tYesOk (rErrCallV (i := 9) lv_fs_law (aConsOk (rVar 10) (aConsOk (rVal _) aNilOk)))))) (gD 8))
  (cSeq (cAsgD (rOp2 pAdd (dVar 8) (dR (rComp (jSeq (rTup (aConsOk (rVal _) (aConsOk (rVal (.int (Int.ofNat (nat_lit 0)))) (aConsOk (rVal (.int (Int.ofNat (nat_lit 41)))) (aConsOk (rVal _) aNilOk)))))) (hD 10) tYesOk (rErrCallV (i := 9) lv_fs_law (aConsOk (rVal (.int (Int.ofNat (nat_lit 2)))) (aConsOk (rVar 10) aNilOk)))))) (gD 8))
  (cAsgD (rOp2 pAdd (dVar 8) (dR (rComp (jSeq (rTup (aConsOk (rTup (aConsOk (rVal (.int (Int.ofNat (nat_lit 3)))) (aConsOk (rVal (.int (Int.ofNat (nat_lit 21)))) aNilOk))) (aConsOk (rTup (aConsOk (rVal (.int (Int.ofNat (nat_lit 8)))) (aConsOk (rVal (.int (Int.ofNat (nat_lit 6)))) aNilOk))) (aConsOk (rTup (aConsOk (rVal (.int (Int.ofNat (nat_lit 4)))) (aConsOk (rVal (.int (Int.ofNat (nat_lit 14)))) aNilOk))) aNilOk))))) (hD 11) tYesOk (rErrCallV (i := 9) lv_fs_law (aConsOk (rOp2 pIx (dVar 11) (dR (rVal (.int (Int.ofNat (nat_lit 0)))))) (aConsOk (rOp2 pIx (dVar 11) (dR (rVal (.int (Int.ofNat (nat_lit 1)))))) aNilOk)))))) (gD 8)))))
  (cRet (dR (rT2 ptEq (dVar 8) (dR (rOp2 pMul (dR (rLst (aConsOk (rVal _) aNilOk))) (dR (rVal (.int (Int.ofNat (nat_lit 60)))))))))))))))))))⟩
def e12 : En := [.no, .no, .no, .no, .no, .no, .no, .no, .no, .no, .no, .no]
theorem rest_ok : okR (wx_law2.1 e12 endK) = true := by decide +kernel
theorem rest_ev : ∃ s', b_law2 (St e12) = some (.ok (.rt (.bl true)) s') := by
  have h := okR_eq rest_ok
  rcases wx_law2.2 _ _ _ h with ⟨e', h1, h2⟩ | ⟨d, e', h1, h2⟩ | ⟨x, h1, h2⟩
  · cases h2
  · cases h2
    exact ⟨_, h1⟩
  · cases h2
/-! ### the five turns -/
theorem roll_lo (a b m : Int) (hm : 0 < m) : 0 ≤ (rollN a b m).1 ∧ (rollN a b m).1 < m := by
  unfold rollN
  have key : ∀ z : Int, 0 ≤ z.fmod m ∧ z.fmod m < m := fun z => by
    rw [Int.fmod_eq_emod_of_nonneg _ (by omega)]
    exact ⟨Int.emod_nonneg _ (by omega), Int.emod_lt_of_pos _ hm⟩
  split
  · exact key a
  · exact key _
abbrev eT (a b : Int) (s2 s3 : Slot) (tl : En) : En := .no :: .ow (.lst [.int a, .int b]) :: s2 :: s3 :: tl
theorem turn_ev (a b : Int) (s2 s3 : Slot) (tl : En) : ∃ a' b' s3', b_turn (St (eT a b s2 s3 tl)) = some (.ok .nx (St (eT a' b' s2 s3' tl))) := by
  obtain ⟨l1, l2⟩ := roll_lo a b 7 (by decide)
  generalize e1 : rollN a b 7 = r1 at l1 l2
  obtain ⟨r, a1, b1⟩ := r1
  have l1 : 0 ≤ r := l1
  have l2 : r < 7 := l2
  have hm : 0 < (40 : Int).fdiv (2 + r - 1) ∧ (40 : Int).fdiv (2 + r - 1) < 1073741824 ∧ (2 + r - 1) * (40 : Int).fdiv (2 + r - 1) ≤ 40 := by
    have h : r = 0 ∨ r = 1 ∨ r = 2 ∨ r = 3 ∨ r = 4 ∨ r = 5 ∨ r = 6 := by omega
    rcases h with rfl | rfl | rfl | rfl | rfl | rfl | rfl <;> decide
  generalize em : (40 : Int).fdiv (2 + r - 1) = m at hm
  obtain ⟨m1, m2, m3⟩ := hm
  obtain ⟨k1, k2⟩ := roll_lo a1 b1 m m1
  generalize e2 : rollN a1 b1 m = r2 at k1 k2
  obtain ⟨u, a2, b2⟩ := r2
  have k1 : 0 ≤ u := k1
  have k2 : u < m := k2
  have hpos : 0 < 2 + r - 1 := by omega
  have fin : (2 + r - 1) * (1 + u) ≤ 40 := Int.le_trans (Int.mul_le_mul_of_nonneg_left (by omega) (by omega)) m3
  have hR := right_ev (2 + r) (1 + u) (by omega) (by omega) (by omega) fin
  have n0 : 2 + r - 1 ≠ 0 := by omega
  have n1 : (2 + r - 1).natAbs < 1073741824 := by omega
  refine ⟨a2, b2, .fz (.int (2 + r)), ?_⟩
  have s1 : sAsg (eOp2 dAdd (eVal (.int 2)) (eRoll (aCons (eVar 1) (aCons (eVal (.int 7)) aNil)))) (stR 3) (St (eT a b s2 s3 tl)) = some (.ok .nx (St (eT a1 b1 s2 (.fz (.int (2 + r))) tl))) := by
    have q : eRoll (aCons (eVar 1) (aCons (eVal (.int 7)) aNil)) (St (eT a b s2 s3 tl)) = some (.ok (.fz (.int r)) (St (eT a1 b1 s2 s3 tl))) := by
      have q0 : eRoll (aCons (eVar 1) (aCons (eVal (.int 7)) aNil)) (St (eT a b s2 s3 tl)) = some (.ok (.fz (.int (rollN a b 7).1)) ⟨eT (rollN a b 7).2.1 (rollN a b 7).2.2 s2 s3 tl, []⟩) := rfl
      rw [q0, e1]
    simp only [sAsg, eOp2, eVal, bd, q]
    rfl
  have s2' : eRoll (aCons (eVar 1) (aCons (eOp2 dFdiv (eVal (.int 40)) (eOp2 dSub (eVar 3) (eVal (.int 1)))) aNil)) (St (eT a1 b1 s2 (.fz (.int (2 + r))) tl)) = some (.ok (.fz (.int u)) (St (eT a2 b2 s2 (.fz (.int (2 + r))) tl))) := by
    have q1 : eOp2 dSub (eVar 3) (eVal (.int 1)) (St (eT a1 b1 s2 (.fz (.int (2 + r))) tl)) = some (.ok (.fz (.int (2 + r - 1))) (St (eT a1 b1 s2 (.fz (.int (2 + r))) tl))) := rfl
    have q2 : eOp2 dFdiv (eVal (.int 40)) (eOp2 dSub (eVar 3) (eVal (.int 1))) (St (eT a1 b1 s2 (.fz (.int (2 + r))) tl)) = some (.ok (.fz (.int m)) (St (eT a1 b1 s2 (.fz (.int (2 + r))) tl))) := by
      have q3 : dFdiv [.int 40, .int (2 + r - 1)] = some (.fz (.int m)) := by
        show (if 2 + r - 1 ≠ 0 ∧ (2 + r - 1).natAbs < 1073741824 then some (R.fz (D.int ((40 : Int).fdiv (2 + r - 1)))) else none) = _
        rw [if_pos ⟨n0, n1⟩, em]
      have v1 : eVal (.int 40) (St (eT a1 b1 s2 (.fz (.int (2 + r))) tl)) = some (.ok (.fz (.int 40)) (St (eT a1 b1 s2 (.fz (.int (2 + r))) tl))) := rfl
      rw [eOp2]
      simp only [v1, bd, q1]
      show lif (dFdiv [.int 40, .int (2 + r - 1)]) _ = _
      rw [q3]; rfl
    have q4 : aCons (eVar 1) (aCons (eOp2 dFdiv (eVal (.int 40)) (eOp2 dSub (eVar 3) (eVal (.int 1)))) aNil) (St (eT a1 b1 s2 (.fz (.int (2 + r))) tl)) = some (.ok [.pk 1, .fz (.int m)] (St (eT a1 b1 s2 (.fz (.int (2 + r))) tl))) := by
      have v1 : eVar 1 (St (eT a1 b1 s2 (.fz (.int (2 + r))) tl)) = some (.ok (.pk 1) (St (eT a1 b1 s2 (.fz (.int (2 + r))) tl))) := rfl
      simp only [aCons, v1, q2, bd]
      rfl
    unfold eRoll
    rw [q4]
    show (if 0 < m ∧ m < 1073741824 then some (Out.ok (R.fz (.int (rollN a1 b1 m).1)) (St (eT (rollN a1 b1 m).2.1 (rollN a1 b1 m).2.2 s2 (.fz (.int (2 + r))) tl))) else none) = _
    rw [if_pos ⟨m1, m2⟩, e2]
  unfold b_turn sSeq
  rw [s1]
  show sIf _ _ _ (St (eT a1 b1 s2 (.fz (.int (2 + r))) tl)) = _
  have s3' : eCall 2 f__law_right (aCons (eVar 3) (aCons (eOp2 dAdd (eVal (.int 1)) (eRoll (aCons (eVar 1) (aCons (eOp2 dFdiv (eVal (.int 40)) (eOp2 dSub (eVar 3) (eVal (.int 1)))) aNil)))) aNil)) (St (eT a1 b1 s2 (.fz (.int (2 + r))) tl)) = some (.ok (.fz (.bl true)) (St (eT a2 b2 s2 (.fz (.int (2 + r))) tl))) := by
    have q1 : eOp2 dAdd (eVal (.int 1)) (eRoll (aCons (eVar 1) (aCons (eOp2 dFdiv (eVal (.int 40)) (eOp2 dSub (eVar 3) (eVal (.int 1)))) aNil))) (St (eT a1 b1 s2 (.fz (.int (2 + r))) tl)) = some (.ok (.fz (.int (1 + u))) (St (eT a2 b2 s2 (.fz (.int (2 + r))) tl))) := by
      have v1 : eVal (.int 1) (St (eT a1 b1 s2 (.fz (.int (2 + r))) tl)) = some (.ok (.fz (.int 1)) (St (eT a1 b1 s2 (.fz (.int (2 + r))) tl))) := rfl
      rw [eOp2]
      simp only [v1, bd, s2']
      rfl
    have q2 : aCons (eVar 3) (aCons (eOp2 dAdd (eVal (.int 1)) (eRoll (aCons (eVar 1) (aCons (eOp2 dFdiv (eVal (.int 40)) (eOp2 dSub (eVar 3) (eVal (.int 1)))) aNil)))) aNil) (St (eT a1 b1 s2 (.fz (.int (2 + r))) tl)) = some (.ok [.pk 3, .fz (.int (1 + u))] (St (eT a2 b2 s2 (.fz (.int (2 + r))) tl))) := by
      have v1 : eVar 3 (St (eT a1 b1 s2 (.fz (.int (2 + r))) tl)) = some (.ok (.pk 3) (St (eT a1 b1 s2 (.fz (.int (2 + r))) tl))) := rfl
      rw [aCons]
      simp only [v1, bd]
      rw [aCons]
      simp only [q1, bd]
      rfl
    have q3 : escL [.pk 3, .fz (.int (1 + u))] (St (eT a2 b2 s2 (.fz (.int (2 + r))) tl)) = some ([.int (2 + r), .int (1 + u)], St (eT a2 b2 s2 (.fz (.int (2 + r))) tl)) := rfl
    rw [eCall]
    simp only [q2, bd, q3, hR]
    rfl
  unfold sIf tNotM tTru
  rw [s3']
  rfl
theorem forT_ev : ∀ (ds : List D) (a b : Int) (s2 s3 : Slot) (tl : En), ∃ a' b' s2' s3', forC (stD 2) b_turn ds (St (eT a b s2 s3 tl)) = some (.ok .nx (St (eT a' b' s2' s3' tl)))
  | [], a, b, s2, s3, tl => ⟨a, b, s2, s3, rfl⟩
  | d :: ds, a, b, s2, s3, tl => by
    obtain ⟨a1, b1, s31, h1⟩ := turn_ev a b (.fz d) s3 tl
    obtain ⟨a2, b2, s22, s32, h2⟩ := forT_ev ds a1 b1 (.fz d) s31 tl
    refine ⟨a2, b2, s22, s32, ?_⟩
    unfold forC
    show bd (b_turn (St (eT a b (.fz d) s3 tl))) _ = _
    rw [h1]
    exact h2
theorem law0_eq (x y : Int) : law0 10 x y = St (eT x y .no .no [.no, .no, .no, .no, .no, .no, .no, .no]) := rfl
theorem bd_ok {α β : Type} (a : α) (s : S) (f : α → S → Option (Out β)) : bd (some (.ok a s)) f = f a s := rfl
theorem rng5 (s : S) : iRng1 (aCons (eVal (.int 5)) aNil) s = some (.ok (.con (rngD 0 5)) s) := by
  have a0 : aCons (eVal (.int 5)) aNil s = some (.ok [.fz (.int 5)] s) := rfl
  have a1 : nowL [.fz (.int 5)] s = some [.int 5] := rfl
  rw [Ev.iRng1, a0, bd_ok, a1]
  exact if_pos (by omega)
theorem for5 (s : S) : sFor (iRng1 (aCons (eVal (.int 5)) aNil)) (stD 2) b_turn s = forC (stD 2) b_turn (rngD 0 5) s := by
  rw [sFor, rng5, bd_ok]
theorem law1_ev (x y : Int) : b_law1 (law0 10 x y) = some (.ok .nx (St e12)) := by
  obtain ⟨a, b, s2, s3, h⟩ := forT_ev (rngD 0 5) x y .no .no [.no, .no, .no, .no, .no, .no, .no, .no]
  rw [law0_eq, b_law1, sWipe, for5, h, bd_ok]
  rfl
theorem law_ev (x y : Int) : ∃ s', b_law (law0 10 x y) = some (.ok (.rt (.bl true)) s') := by
  obtain ⟨s', hr⟩ := rest_ev
  refine ⟨s', ?_⟩
  rw [b_law, sSeq, law1_ev, bd_ok]
  exact hr
end W71
end
end
section
open PySem PySem.W PyProof.Rows
set_option Elab.async false
set_option maxRecDepth 100000 in
set_option maxHeartbeats 0 in
theorem PySem.Challenge.cw_cordscrossed_k71_whole_torus_cords_holds : PySem.Challenge.rw_cordscrossed_k71_whole_torus_cords.Holds := by
  w_on; o_law; k_head; (case hw => w_witness2)
  k_fill
  refine W71.walk_own2 (l := PySem.Challenge.rw_cordscrossed_k71_whole_torus_cords) (n := 63) (k := 20) (x := "script") (nm2 := "_law_right") (CX := fun w => L2N.CX (PySem.Challenge.rw_cordscrossed_k71_whole_torus_cords).prog w) ?a1 ?a2 ?a3 ?a4 ?a5 ?a9 (fun w h Y => PySem.W.km_in_of Y) ?a7 ?a8
  case a1 => rfl
  case a2 => decide
  case a3 => rfl
  case a4 => exact ⟨rfl, by decide, by decide⟩
  case a8 =>
    rintro w H s e s' ⟨_, _, _, _, _, _, _, _, _, _, _, _, z⟩
    exact z
  case a5 => decide +kernel
  case a9 => decide +kernel
  case a7 =>
    intro w mg fa h Y KX XP G hmg own own2
    refine' W71.def_go (nm := "is_whole") (st := W71.top 10) KX G ?a ?l ?c ?k ?_; (case a => first | k_is | kernel_rfl | decide +kernel ); (case l => first | k_is | kernel_rfl | decide +kernel ); (case c => first | k_is | kernel_rfl | decide +kernel ); (case k => first | k_is | kernel_rfl | decide +kernel ); intro D0
    refine' W71.def_go (nm := "need_whole") (st := W71.top 11) KX G ?a ?l ?c ?k ?_; (case a => first | k_is | kernel_rfl | decide +kernel ); (case l => first | k_is | kernel_rfl | decide +kernel ); (case c => first | k_is | kernel_rfl | decide +kernel ); (case k => first | k_is | kernel_rfl | decide +kernel ); intro D1
    refine' W71.def_go (nm := "is_tuple_of") (st := W71.top 12) KX G ?a ?l ?c ?k ?_; (case a => first | k_is | kernel_rfl | decide +kernel ); (case l => first | k_is | kernel_rfl | decide +kernel ); (case c => first | k_is | kernel_rfl | decide +kernel ); (case k => first | k_is | kernel_rfl | decide +kernel ); intro D2
    refine' W71.def_go (nm := "is_crossing_of") (st := W71.top 16) KX G ?a ?l ?c ?k ?_; (case a => first | k_is | kernel_rfl | decide +kernel ); (case l => first | k_is | kernel_rfl | decide +kernel ); (case c => first | k_is | kernel_rfl | decide +kernel ); (case k => first | k_is | kernel_rfl | decide +kernel ); intro D3
    refine' W71.def_go (nm := "ends_of") (st := W71.top 17) KX G ?a ?l ?c ?k ?_; (case a => first | k_is | kernel_rfl | decide +kernel ); (case l => first | k_is | kernel_rfl | decide +kernel ); (case c => first | k_is | kernel_rfl | decide +kernel ); (case k => first | k_is | kernel_rfl | decide +kernel ); intro D4
    refine' W71.def_go (nm := "other_end") (st := W71.top 18) KX G ?a ?l ?c ?k ?_; (case a => first | k_is | kernel_rfl | decide +kernel ); (case l => first | k_is | kernel_rfl | decide +kernel ); (case c => first | k_is | kernel_rfl | decide +kernel ); (case k => first | k_is | kernel_rfl | decide +kernel ); intro D5
    refine' W71.def_go (nm := "face_list") (st := W71.top 19) KX G ?a ?l ?c ?k ?_; (case a => first | k_is | kernel_rfl | decide +kernel ); (case l => first | k_is | kernel_rfl | decide +kernel ); (case c => first | k_is | kernel_rfl | decide +kernel ); (case k => first | k_is | kernel_rfl | decide +kernel ); intro D6
    refine' W71.def_go (nm := "piece_list") (st := W71.top 20) KX G ?a ?l ?c ?k ?_; (case a => first | k_is | kernel_rfl | decide +kernel ); (case l => first | k_is | kernel_rfl | decide +kernel ); (case c => first | k_is | kernel_rfl | decide +kernel ); (case k => first | k_is | kernel_rfl | decide +kernel ); intro D7
    refine' W71.def_go (nm := "is_picture") (st := W71.top 21) KX G ?a ?l ?c ?k ?_; (case a => first | k_is | kernel_rfl | decide +kernel ); (case l => first | k_is | kernel_rfl | decide +kernel ); (case c => first | k_is | kernel_rfl | decide +kernel ); (case k => first | k_is | kernel_rfl | decide +kernel ); intro D8
    refine' W71.def_go (nm := "need_picture") (st := W71.top 22) KX G ?a ?l ?c ?k ?_; (case a => first | k_is | kernel_rfl | decide +kernel ); (case l => first | k_is | kernel_rfl | decide +kernel ); (case c => first | k_is | kernel_rfl | decide +kernel ); (case k => first | k_is | kernel_rfl | decide +kernel ); intro D9
    refine' W71.def_go (nm := "cord_from") (st := W71.top 23) KX G ?a ?l ?c ?k ?_; (case a => first | k_is | kernel_rfl | decide +kernel ); (case l => first | k_is | kernel_rfl | decide +kernel ); (case c => first | k_is | kernel_rfl | decide +kernel ); (case k => first | k_is | kernel_rfl | decide +kernel ); intro D10
    refine' W71.def_go (nm := "cord_list") (st := W71.top 24) KX G ?a ?l ?c ?k ?_; (case a => first | k_is | kernel_rfl | decide +kernel ); (case l => first | k_is | kernel_rfl | decide +kernel ); (case c => first | k_is | kernel_rfl | decide +kernel ); (case k => first | k_is | kernel_rfl | decide +kernel ); intro D11
    refine' W71.def_go (nm := "count_cords") (st := W71.top 25) KX G ?a ?l ?c ?k ?_; (case a => first | k_is | kernel_rfl | decide +kernel ); (case l => first | k_is | kernel_rfl | decide +kernel ); (case c => first | k_is | kernel_rfl | decide +kernel ); (case k => first | k_is | kernel_rfl | decide +kernel ); intro D12
    refine' W71.def_go (nm := "is_sum") (st := W71.top 30) KX G ?a ?l ?c ?k ?_; (case a => first | k_is | kernel_rfl | decide +kernel ); (case l => first | k_is | kernel_rfl | decide +kernel ); (case c => first | k_is | kernel_rfl | decide +kernel ); (case k => first | k_is | kernel_rfl | decide +kernel ); intro D13
    refine' W71.def_go (nm := "need_sum") (st := W71.top 31) KX G ?a ?l ?c ?k ?_; (case a => first | k_is | kernel_rfl | decide +kernel ); (case l => first | k_is | kernel_rfl | decide +kernel ); (case c => first | k_is | kernel_rfl | decide +kernel ); (case k => first | k_is | kernel_rfl | decide +kernel ); intro D14
    refine' W71.def_go (nm := "from_dict") (st := W71.top 32) KX G ?a ?l ?c ?k ?_; (case a => first | k_is | kernel_rfl | decide +kernel ); (case l => first | k_is | kernel_rfl | decide +kernel ); (case c => first | k_is | kernel_rfl | decide +kernel ); (case k => first | k_is | kernel_rfl | decide +kernel ); intro D15
    refine' W71.def_go (nm := "times") (st := W71.top 33) KX G ?a ?l ?c ?k ?_; (case a => first | k_is | kernel_rfl | decide +kernel ); (case l => first | k_is | kernel_rfl | decide +kernel ); (case c => first | k_is | kernel_rfl | decide +kernel ); (case k => first | k_is | kernel_rfl | decide +kernel ); intro D16
    refine' W71.def_go (nm := "product") (st := W71.top 34) KX G ?a ?l ?c ?k ?_; (case a => first | k_is | kernel_rfl | decide +kernel ); (case l => first | k_is | kernel_rfl | decide +kernel ); (case c => first | k_is | kernel_rfl | decide +kernel ); (case k => first | k_is | kernel_rfl | decide +kernel ); intro D17
    refine' W71.def_go (nm := "turned") (st := W71.top 35) KX G ?a ?l ?c ?k ?_; (case a => first | k_is | kernel_rfl | decide +kernel ); (case l => first | k_is | kernel_rfl | decide +kernel ); (case c => first | k_is | kernel_rfl | decide +kernel ); (case k => first | k_is | kernel_rfl | decide +kernel ); intro D18
    refine' W71.def_go (nm := "value_at") (st := W71.top 36) KX G ?a ?l ?c ?k ?_; (case a => first | k_is | kernel_rfl | decide +kernel ); (case l => first | k_is | kernel_rfl | decide +kernel ); (case c => first | k_is | kernel_rfl | decide +kernel ); (case k => first | k_is | kernel_rfl | decide +kernel ); intro D19
    refine' W71.def_go (nm := "quotient") (st := W71.top 37) KX G ?a ?l ?c ?k ?_; (case a => first | k_is | kernel_rfl | decide +kernel ); (case l => first | k_is | kernel_rfl | decide +kernel ); (case c => first | k_is | kernel_rfl | decide +kernel ); (case k => first | k_is | kernel_rfl | decide +kernel ); intro D20
    refine' W71.def_go (nm := "need_torus") (st := W71.top 41) KX G ?a ?l ?c ?k ?_; (case a => first | k_is | kernel_rfl | decide +kernel ); (case l => first | k_is | kernel_rfl | decide +kernel ); (case c => first | k_is | kernel_rfl | decide +kernel ); (case k => first | k_is | kernel_rfl | decide +kernel ); intro D21
    refine' W71.def_go (nm := "need_single") (st := W71.top 42) KX G ?a ?l ?c ?k ?_; (case a => first | k_is | kernel_rfl | decide +kernel ); (case l => first | k_is | kernel_rfl | decide +kernel ); (case c => first | k_is | kernel_rfl | decide +kernel ); (case k => first | k_is | kernel_rfl | decide +kernel ); intro D22
    refine' W71.def_go (nm := "less_one") (st := W71.top 43) KX G ?a ?l ?c ?k ?_; (case a => first | k_is | kernel_rfl | decide +kernel ); (case l => first | k_is | kernel_rfl | decide +kernel ); (case c => first | k_is | kernel_rfl | decide +kernel ); (case k => first | k_is | kernel_rfl | decide +kernel ); intro D23
    refine' W71.def_go (nm := "crossings_from") (st := W71.top 44) KX G ?a ?l ?c ?k ?_; (case a => first | k_is | kernel_rfl | decide +kernel ); (case l => first | k_is | kernel_rfl | decide +kernel ); (case c => first | k_is | kernel_rfl | decide +kernel ); (case k => first | k_is | kernel_rfl | decide +kernel ); intro D24
    refine' W71.def_go (nm := "torus_picture") (st := W71.top 45) KX G ?a ?l ?c ?k ?_; (case a => first | k_is | kernel_rfl | decide +kernel ); (case l => first | k_is | kernel_rfl | decide +kernel ); (case c => first | k_is | kernel_rfl | decide +kernel ); (case k => first | k_is | kernel_rfl | decide +kernel ); intro D25
    refine' W71.def_go (nm := "torus_pieces") (st := W71.top 46) KX G ?a ?l ?c ?k ?_; (case a => first | k_is | kernel_rfl | decide +kernel ); (case l => first | k_is | kernel_rfl | decide +kernel ); (case c => first | k_is | kernel_rfl | decide +kernel ); (case k => first | k_is | kernel_rfl | decide +kernel ); intro D26
    refine' W71.def_go (nm := "torus_sum") (st := W71.top 47) KX G ?a ?l ?c ?k ?_; (case a => first | k_is | kernel_rfl | decide +kernel ); (case l => first | k_is | kernel_rfl | decide +kernel ); (case c => first | k_is | kernel_rfl | decide +kernel ); (case k => first | k_is | kernel_rfl | decide +kernel ); intro D27
    refine' W71.def_go (nm := "torus_mark") (st := W71.top 48) KX G ?a ?l ?c ?k ?_; (case a => first | k_is | kernel_rfl | decide +kernel ); (case l => first | k_is | kernel_rfl | decide +kernel ); (case c => first | k_is | kernel_rfl | decide +kernel ); (case k => first | k_is | kernel_rfl | decide +kernel ); intro D28
    refine' W71.def_go (nm := "torus_round") (st := W71.top 49) KX G ?a ?l ?c ?k ?_; (case a => first | k_is | kernel_rfl | decide +kernel ); (case l => first | k_is | kernel_rfl | decide +kernel ); (case c => first | k_is | kernel_rfl | decide +kernel ); (case k => first | k_is | kernel_rfl | decide +kernel ); intro D29
    refine' W71.def_go (nm := "met_from") (st := W71.top 51) KX G ?a ?l ?c ?k ?_; (case a => first | k_is | kernel_rfl | decide +kernel ); (case l => first | k_is | kernel_rfl | decide +kernel ); (case c => first | k_is | kernel_rfl | decide +kernel ); (case k => first | k_is | kernel_rfl | decide +kernel ); intro D30
    refine' W71.def_go (nm := "fits_start") (st := W71.top 52) KX G ?a ?l ?c ?k ?_; (case a => first | k_is | kernel_rfl | decide +kernel ); (case l => first | k_is | kernel_rfl | decide +kernel ); (case c => first | k_is | kernel_rfl | decide +kernel ); (case k => first | k_is | kernel_rfl | decide +kernel ); intro D31
    refine' W71.def_go (nm := "need_start") (st := W71.top 53) KX G ?a ?l ?c ?k ?_; (case a => first | k_is | kernel_rfl | decide +kernel ); (case l => first | k_is | kernel_rfl | decide +kernel ); (case c => first | k_is | kernel_rfl | decide +kernel ); (case k => first | k_is | kernel_rfl | decide +kernel ); intro D32
    refine' W71.def_go (nm := "changes_in") (st := W71.top 54) KX G ?a ?l ?c ?k ?_; (case a => first | k_is | kernel_rfl | decide +kernel ); (case l => first | k_is | kernel_rfl | decide +kernel ); (case c => first | k_is | kernel_rfl | decide +kernel ); (case k => first | k_is | kernel_rfl | decide +kernel ); intro D33
    refine' W71.def_go (nm := "changes_for") (st := W71.top 55) KX G ?a ?l ?c ?k ?_; (case a => first | k_is | kernel_rfl | decide +kernel ); (case l => first | k_is | kernel_rfl | decide +kernel ); (case c => first | k_is | kernel_rfl | decide +kernel ); (case k => first | k_is | kernel_rfl | decide +kernel ); intro D34
    refine' W71.def_go (nm := "plain_start") (st := W71.top 56) KX G ?a ?l ?c ?k ?_; (case a => first | k_is | kernel_rfl | decide +kernel ); (case l => first | k_is | kernel_rfl | decide +kernel ); (case c => first | k_is | kernel_rfl | decide +kernel ); (case k => first | k_is | kernel_rfl | decide +kernel ); intro D35
    refine' W71.def_go (nm := "_law_sort") (st := W71.top 60) KX G ?a ?l ?c ?k ?_; (case a => first | k_is | kernel_rfl | decide +kernel ); (case l => first | k_is | kernel_rfl | decide +kernel ); (case c => first | k_is | kernel_rfl | decide +kernel ); (case k => first | k_is | kernel_rfl | decide +kernel ); intro D38
    refine' W71.def_go (nm := "_law_like") (st := W71.top 61) KX G ?a ?l ?c ?k ?_; (case a => first | k_is | kernel_rfl | decide +kernel ); (case l => first | k_is | kernel_rfl | decide +kernel ); (case c => first | k_is | kernel_rfl | decide +kernel ); (case k => first | k_is | kernel_rfl | decide +kernel ); intro D39
    refine' W71.def_go (nm := "_law_ends") (st := W71.top 62) KX G ?a ?l ?c ?k ?_; (case a => first | k_is | kernel_rfl | decide +kernel ); (case l => first | k_is | kernel_rfl | decide +kernel ); (case c => first | k_is | kernel_rfl | decide +kernel ); (case k => first | k_is | kernel_rfl | decide +kernel ); intro D40
    refine' W71.def_go (nm := "_law_other") (st := W71.top 63) KX G ?a ?l ?c ?k ?_; (case a => first | k_is | kernel_rfl | decide +kernel ); (case l => first | k_is | kernel_rfl | decide +kernel ); (case c => first | k_is | kernel_rfl | decide +kernel ); (case k => first | k_is | kernel_rfl | decide +kernel ); intro D41
    refine' W71.def_go (nm := "_law_walk") (st := W71.top 64) KX G ?a ?l ?c ?k ?_; (case a => first | k_is | kernel_rfl | decide +kernel ); (case l => first | k_is | kernel_rfl | decide +kernel ); (case c => first | k_is | kernel_rfl | decide +kernel ); (case k => first | k_is | kernel_rfl | decide +kernel ); intro D42
    refine' W71.def_go (nm := "_law_cords") (st := W71.top 65) KX G ?a ?l ?c ?k ?_; (case a => first | k_is | kernel_rfl | decide +kernel ); (case l => first | k_is | kernel_rfl | decide +kernel ); (case c => first | k_is | kernel_rfl | decide +kernel ); (case k => first | k_is | kernel_rfl | decide +kernel ); intro D43
    refine' W71.def_go (nm := "_law_strands") (st := W71.top 66) KX G ?a ?l ?c ?k ?_; (case a => first | k_is | kernel_rfl | decide +kernel ); (case l => first | k_is | kernel_rfl | decide +kernel ); (case c => first | k_is | kernel_rfl | decide +kernel ); (case k => first | k_is | kernel_rfl | decide +kernel ); intro D44
    refine' W71.def_go (nm := "_law_common") (st := W71.top 68) KX G ?a ?l ?c ?k ?_; (case a => first | k_is | kernel_rfl | decide +kernel ); (case l => first | k_is | kernel_rfl | decide +kernel ); (case c => first | k_is | kernel_rfl | decide +kernel ); (case k => first | k_is | kernel_rfl | decide +kernel ); intro D46
    refine' W71.def_go (nm := "_law_sum") (st := W71.top 69) KX G ?a ?l ?c ?k ?_; (case a => first | k_is | kernel_rfl | decide +kernel ); (case l => first | k_is | kernel_rfl | decide +kernel ); (case c => first | k_is | kernel_rfl | decide +kernel ); (case k => first | k_is | kernel_rfl | decide +kernel ); intro D47
    refine' W71.def_go (nm := "_law_cup") (st := W71.top 58) KX G ?a ?l ?c ?k ?_; (case a => first | k_is | kernel_rfl | decide +kernel ); (case l => first | k_is | kernel_rfl | decide +kernel ); (case c => first | k_is | kernel_rfl | decide +kernel ); (case k => first | k_is | kernel_rfl | decide +kernel ); intro D36
    refine' W71.def_go (nm := "_law_roll") (st := W71.top 59) KX G ?a ?l ?c ?k ?_; (case a => first | k_is | kernel_rfl | decide +kernel ); (case l => first | k_is | kernel_rfl | decide +kernel ); (case c => first | k_is | kernel_rfl | decide +kernel ); (case k => first | k_is | kernel_rfl | decide +kernel ); intro D37
    refine' W71.def_go (nm := "_law_error") (st := W71.top 67) KX G ?a ?l ?c ?k ?_; (case a => first | k_is | kernel_rfl | decide +kernel ); (case l => first | k_is | kernel_rfl | decide +kernel ); (case c => first | k_is | kernel_rfl | decide +kernel ); (case k => first | k_is | kernel_rfl | decide +kernel ); intro D45
    refine' W71.lam_go (nm := "_law_right") (st := W71.top 70) KX G ?a ?l ?c ?k ?t ?t2 ?hd ?no ?_; (case a => first | k_is | kernel_rfl | decide +kernel ); (case l => first | k_is | kernel_rfl | decide +kernel ); (case c => first | k_is | kernel_rfl | decide +kernel ); (case k => first | k_is | kernel_rfl | decide +kernel ); (case t => first | k_is | kernel_rfl | decide +kernel ); (case t2 => first | rfl ); (case hd => first | k_is | decide +kernel | kernel_rfl | rfl ); (case no => first | k_is | rfl | decide +kernel ); intro D48 L48
    refine' W71.lam_go (nm := "law") (st := W71.top 71) KX G ?a ?l ?c ?k ?t ?t2 ?hd ?no ?_; (case a => first | k_is | kernel_rfl | decide +kernel ); (case l => first | k_is | kernel_rfl | decide +kernel ); (case c => first | k_is | kernel_rfl | decide +kernel ); (case k => first | k_is | kernel_rfl | decide +kernel ); (case t => first | k_is | kernel_rfl | decide +kernel ); (case t2 => first | rfl ); (case hd => first | k_is | decide +kernel | kernel_rfl | rfl ); (case no => first | k_is | rfl | decide +kernel ); intro D49 L49
    refine' W71.no_go (nm := "abs") KX G ?a ?_; (case a => first | k_is | kernel_rfl | decide +kernel ); intro n_abs
    refine' W71.no_go (nm := "all") KX G ?a ?_; (case a => first | k_is | kernel_rfl | decide +kernel ); intro n_all
    refine' W71.no_go (nm := "bool") KX G ?a ?_; (case a => first | k_is | kernel_rfl | decide +kernel ); intro n_bool
    refine' W71.no_go (nm := "dict") KX G ?a ?_; (case a => first | k_is | kernel_rfl | decide +kernel ); intro n_dict
    refine' W71.no_go (nm := "enumerate") KX G ?a ?_; (case a => first | k_is | kernel_rfl | decide +kernel ); intro n_enumerate
    refine' W71.no_go (nm := "int") KX G ?a ?_; (case a => first | k_is | kernel_rfl | decide +kernel ); intro n_int
    refine' W71.no_go (nm := "isinstance") KX G ?a ?_; (case a => first | k_is | kernel_rfl | decide +kernel ); intro n_isinstance
    refine' W71.no_go (nm := "len") KX G ?a ?_; (case a => first | k_is | kernel_rfl | decide +kernel ); intro n_len
    refine' W71.no_go (nm := "list") KX G ?a ?_; (case a => first | k_is | kernel_rfl | decide +kernel ); intro n_list
    refine' W71.no_go (nm := "max") KX G ?a ?_; (case a => first | k_is | kernel_rfl | decide +kernel ); intro n_max
    refine' W71.no_go (nm := "min") KX G ?a ?_; (case a => first | k_is | kernel_rfl | decide +kernel ); intro n_min
    refine' W71.no_go (nm := "range") KX G ?a ?_; (case a => first | k_is | kernel_rfl | decide +kernel ); intro n_range
    refine' W71.no_go (nm := "set") KX G ?a ?_; (case a => first | k_is | kernel_rfl | decide +kernel ); intro n_set
    refine' W71.no_go (nm := "sorted") KX G ?a ?_; (case a => first | k_is | kernel_rfl | decide +kernel ); intro n_sorted
    refine' W71.no_go (nm := "str") KX G ?a ?_; (case a => first | k_is | kernel_rfl | decide +kernel ); intro n_str
    refine' W71.no_go (nm := "sum") KX G ?a ?_; (case a => first | k_is | kernel_rfl | decide +kernel ); intro n_sum
    refine' W71.no_go (nm := "tuple") KX G ?a ?_; (case a => first | k_is | kernel_rfl | decide +kernel ); intro n_tuple
    refine' W71.no_go (nm := "zip") KX G ?a ?_; (case a => first | k_is | kernel_rfl | decide +kernel ); intro n_zip
    refine' W71.val_go (nm := "gcd") KX G ?a ?_; (case a => first | k_is | kernel_rfl | decide +kernel ); intro n_gcd
    refine' W71.val_go (nm := "CROSSINGS") KX G ?a ?_; (case a => first | k_is | kernel_rfl | decide +kernel ); intro c_CROSSINGS
    have c_GREAT : ∃ t, mg "GREAT" = some (.int 1000000000000000000000000000000000000000000000000000000000000 t) := by
      first
      | (obtain ⟨v, h1, h2⟩ := XP.2.val _ List.mem_cons_self; cases h2; exact ⟨_, h1⟩)

    refine' W71.val_go (nm := "LONG") KX G ?a ?_; (case a => first | k_is | kernel_rfl | decide +kernel ); intro c_LONG
    refine' W71.val_go (nm := "POWER") KX G ?a ?_; (case a => first | k_is | kernel_rfl | decide +kernel ); intro c_POWER
    refine' W71.val_go (nm := "RINGS") KX G ?a ?_; (case a => first | k_is | kernel_rfl | decide +kernel ); intro c_RINGS
    refine' W71.val_go (nm := "ROUNDS") KX G ?a ?_; (case a => first | k_is | kernel_rfl | decide +kernel ); intro c_ROUNDS
    refine' W71.val_go (nm := "STRANDS") KX G ?a ?_; (case a => first | k_is | kernel_rfl | decide +kernel ); intro c_STRANDS
    refine' W71.val_go (nm := "CordError") KX G ?a ?_; (case a => first | k_is | kernel_rfl | decide +kernel ); intro C0
    refine' W71.cls_go (nm := "InvalidNumber") KX G ?ca ?ck ?cq ?cs ?ct ?_; (case ca => first | k_is | kernel_rfl | decide +kernel ); (case ck => first | k_is | kernel_rfl | decide +kernel ); (case cq => first | k_is | kernel_rfl | decide +kernel ); (case cs => first | k_is | kernel_rfl | decide +kernel ); (case ct => first | k_is | kernel_rfl | decide +kernel ); intro C1
    refine' W71.cls_go (nm := "InvalidPicture") KX G ?ca ?ck ?cq ?cs ?ct ?_; (case ca => first | k_is | kernel_rfl | decide +kernel ); (case ck => first | k_is | kernel_rfl | decide +kernel ); (case cq => first | k_is | kernel_rfl | decide +kernel ); (case cs => first | k_is | kernel_rfl | decide +kernel ); (case ct => first | k_is | kernel_rfl | decide +kernel ); intro C3
    refine' W71.cls_go (nm := "InvalidRow") KX G ?ca ?ck ?cq ?cs ?ct ?_; (case ca => first | k_is | kernel_rfl | decide +kernel ); (case ck => first | k_is | kernel_rfl | decide +kernel ); (case cq => first | k_is | kernel_rfl | decide +kernel ); (case cs => first | k_is | kernel_rfl | decide +kernel ); (case ct => first | k_is | kernel_rfl | decide +kernel ); intro C4
    refine' W71.cls_go (nm := "InvalidSum") KX G ?ca ?ck ?cq ?cs ?ct ?_; (case ca => first | k_is | kernel_rfl | decide +kernel ); (case ck => first | k_is | kernel_rfl | decide +kernel ); (case cq => first | k_is | kernel_rfl | decide +kernel ); (case cs => first | k_is | kernel_rfl | decide +kernel ); (case ct => first | k_is | kernel_rfl | decide +kernel ); intro C2
    refine' W71.cls_go (nm := "NotFound") KX G ?ca ?ck ?cq ?cs ?ct ?_; (case ca => first | k_is | kernel_rfl | decide +kernel ); (case ck => first | k_is | kernel_rfl | decide +kernel ); (case cq => first | k_is | kernel_rfl | decide +kernel ); (case cs => first | k_is | kernel_rfl | decide +kernel ); (case ct => first | k_is | kernel_rfl | decide +kernel ); intro C5
    refine' W71.cls_go (nm := "NotNow") KX G ?ca ?ck ?cq ?cs ?ct ?_; (case ca => first | k_is | kernel_rfl | decide +kernel ); (case ck => first | k_is | kernel_rfl | decide +kernel ); (case cq => first | k_is | kernel_rfl | decide +kernel ); (case cs => first | k_is | kernel_rfl | decide +kernel ); (case ct => first | k_is | kernel_rfl | decide +kernel ); intro C6
    refine' W71.law_at KX hmg D0 D1 D2 D3 D4 D5 D6 D7 D8 D9 D10 D11 D12 D13 D14 D15 D16 D17 D18 D19 D20 D21 D22 D23 D24 D25 D26 D27 D28 D29 D30 D31 D32 D33 D34 D35 D38 D39 D40 D41 D42 D43 D44 D46 D47 D36 D37 D45 D48 D49 n_abs n_all n_bool n_dict n_enumerate n_int n_isinstance n_len n_list n_max n_min n_range n_set n_sorted n_str n_sum n_tuple n_zip n_gcd ⟨_, c_CROSSINGS⟩ c_GREAT ⟨_, c_LONG⟩ ⟨_, c_POWER⟩ ⟨_, c_RINGS⟩ ⟨_, c_ROUNDS⟩ ⟨_, c_STRANDS⟩ C1 C3 C4 C2 C5 C6 C0 ?x1 ?x6 ?k11 ?k16 ?k61 ?k66 ⟨?p1, ?p2, ?p3, ?p4, ?p5, ?p6, ?p7, ?p8⟩ ⟨?r1, ?r2, ?r3, ?r4, ?r5, ?r6, ?r7, ?r8⟩ L48 L49 ?z1 ?z2 ?z3 own own2 W71.law_ev
    (case x1 => first | k_is | kernel_rfl | decide +kernel )
    (case x6 => first | k_is | kernel_rfl | decide +kernel )
    (case k11 => first | k_is | kernel_rfl | decide +kernel )
    (case k16 => first | k_is | kernel_rfl | decide +kernel )
    (case k61 => first | k_is | kernel_rfl | decide +kernel )
    (case k66 => first | k_is | kernel_rfl | decide +kernel )
    (case p1 => first | k_is | kernel_rfl | decide +kernel )
    (case p2 => first | k_is | kernel_rfl | decide +kernel )
    (case p3 => first | k_is | kernel_rfl | decide +kernel )
    (case p4 => first | k_is | kernel_rfl | decide +kernel )
    (case p5 => first | k_is | kernel_rfl | decide +kernel )
    (case p6 => first | k_is | kernel_rfl | decide +kernel )
    (case p7 => first | k_is | kernel_rfl | decide +kernel )
    (case p8 => first | k_is | kernel_rfl | decide +kernel )
    (case r1 => first | k_is | kernel_rfl | decide +kernel )
    (case r2 => first | k_is | kernel_rfl | decide +kernel )
    (case r3 => first | k_is | kernel_rfl | decide +kernel )
    (case r4 => first | k_is | kernel_rfl | decide +kernel )
    (case r5 => first | k_is | kernel_rfl | decide +kernel )
    (case r6 => first | k_is | kernel_rfl | decide +kernel )
    (case r7 => first | k_is | kernel_rfl | decide +kernel )
    (case r8 => first | k_is | kernel_rfl | decide +kernel )
    (case z1 => decide)
    (case z2 => decide)
    (case z3 => decide)
end
