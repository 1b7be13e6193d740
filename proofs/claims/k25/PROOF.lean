import PyProof.Rows.All
import Wide.All
import OpenK.AllK
import Wide.FinOn
import HandS.ForMost
import HandS.Exc
import HandS.ForExc
import HandS.CallSlots
import HandS.Deep
import HandS.TupAny
import HandS.Text
import HandS.More
import HandS.Dict
import HandS.Small
import HandS.Sort
import HandS.IsInst
import HandS.TupLen
import HandS.Iter
import HandS.Zip
import HandS.Comp
import PyProof.ReprLen
import HandS.Style
import HandS.Codes
import HandS.Defaults
import HandS.MakeKw
import HandS.MakeKwOnly
import HandS.ClsMeth
import HandS.Star
import HandS.Property
import HandS.OwnEq
import HandS.SortOrd
import HandS.SortRule
import HandS.Conv
import HandS.ListItems
import KE.KDictList
import HandS.DictComp
import PySem.Challenge.RW_unmeant_k25_classes_judged
set_option Elab.async false
set_option linter.all false
set_option maxRecDepth 100000
set_option maxHeartbeats 4000000
namespace Mn
open PySem PySem.Spec PyProof.Rows L2

/-- data, by value -/
inductive D where
  | non | bl (b : Bool) | int (i : Int) | str (x : Str)
  | tup (ds : List D) | ctp (ds : List D) | lst (ds : List D) | frz (ds : List D) | dic (t : Bool) (kvs : List (D × D)) | ins (c : Str) (fs : List (Str × D)) | ty (n : String) | cls (n : Str)
  deriving Inhabited

/-- a value: data, or a thing that may change -/
inductive W where
  | d (x : D) | ref (k : Nat)
  deriving Inhabited
/-- a thing that may change -/
inductive VO where
  | lst (ds : List D) | dic (t : Bool) (kvs : List (D × D)) | ins (c : Str) (fs : List (Str × W)) | dead
  deriving Inhabited
abbrev VH := List VO
structure Exn where
  cls : Str
  fs : List (Str × D)
inductive Res (α : Type) where
  | ok (a : α) (h : VH) | exn (x : Exn) (h : VH) | stuck
abbrev Rho := List (Option Addr)
abbrev Env := List (Option W)

/-- the text's constants: the written part, the module's names -/
structure Cn where
  K : PySem.W.Frag
  mg : Str → Option Value
  /-- lists that a comprehension is making -/
  hid : List Addr

/-- free to be told by value -/
def Off (c : Cn) (ρ : Rho) (a : Addr) : Prop := some a ∉ ρ ∧ a ∉ c.hid

def LOk (c : Cn) (H : Hp) (ρ : Rho) (a : Addr) (xs : List V) : Prop :=
  (Off c ρ a ∧ Rd H a (.lst xs)) ∨
    ∃ (o : Obj) (its : Array Value) (n : Nat), c.K.lookup a = some o ∧ o.cls = .type "list" ∧ o.dict = none ∧ o.data = .seq its n ∧ its.size ≤ sizeLine ∧ Vals xs its.toList
def TOk (c : Cn) (a : Addr) (xs : List V) : Prop :=
  ∃ (o : Obj) (its : Array Value) (n : Nat), c.K.lookup a = some o ∧ o.cls = .type "tuple" ∧ o.data = .seq its n ∧ its.size ≤ sizeLine ∧ Vals xs its.toList
theorem LOk.sq {c : Cn} {H : Hp} {ρ : Rho} {a : Addr} {xs : List V} (h : LOk c H ρ a xs) : SqL c.K H a xs := h.elim (fun z => .inl z.2) .inr
theorem TOk.sq {c : Cn} {H : Hp} {a : Addr} {xs : List V} (h : TOk c a xs) : SqT c.K H a xs := .inr h

/-- a key of a dict of data -/
def keyOf : D → Option Key
  | .int i => some (.inl i)
  | .str x => some (.inr x)
  | _ => none
def keyT : List D → Option (List Key)
  | [] => some []
  | d :: r => match keyOf d, keyT r with
    | some k, some ks => some (k :: ks)
    | _, _ => none
def keyTOf : D → Option (List Key)
  | .tup ds => keyT ds
  | _ => none
def keysK : List (D × D) → Option (List Key)
  | [] => some []
  | (k, _) :: r => match keyOf k, keysK r with
    | some k, some ks => some (k :: ks)
    | _, _ => none
def keysT : List (D × D) → Option (List (List Key))
  | [] => some []
  | (k, _) :: r => match keyTOf k, keysT r with
    | some k, some ks => some (k :: ks)
    | _, _ => none

/-- a dict stands at a: its keys are ints and texts, or (t) tuples of such -/
def HDic (H : Hp) (a : Addr) (t : Bool) (kvs : List (D × D)) (xs : List V) : Prop := match t with
  | false => ∃ ks, keysK kvs = some ks ∧ H a = some (.dK (ks.zip xs))
  | true => ∃ ks, keysT kvs = some ks ∧ H a = some (.dT (ks.zip xs))
theorem HDic.to {H H' : Hp} {a : Addr} {t : Bool} {kvs : List (D × D)} {xs : List V} (h : HDic H a t kvs xs) (k : ∀ o, H a = some o → H' a = some o) : HDic H' a t kvs xs := by
  cases t with
  | false => obtain ⟨ks, h1, h2⟩ := h; exact ⟨ks, h1, k _ h2⟩
  | true => obtain ⟨ks, h1, h2⟩ := h; exact ⟨ks, h1, k _ h2⟩
theorem HDic.ex {H : Hp} {a : Addr} {t : Bool} {kvs : List (D × D)} {xs : List V} (h : HDic H a t kvs xs) : ∃ o, H a = some o := by
  cases t with
  | false => obtain ⟨ks, h1, h2⟩ := h; exact ⟨_, h2⟩
  | true => obtain ⟨ks, h1, h2⟩ := h; exact ⟨_, h2⟩
mutual
def RelD (c : Cn) (H : Hp) (ρ : Rho) : D → V → Prop
  | .non, v => v = .non
  | .bl b, v => v = .bl b
  | .int i, v => v = .int i
  | .str x, v => v = .str x ∧ x.length ≤ sizeLine ∧ PyData.strOk x = true
  | .tup ds, v => ∃ a xs, v = .ref a ∧ Off c ρ a ∧ H a = some (.tup xs) ∧ ds.length ≤ sizeLine ∧ RelDs c H ρ ds xs
  | .ctp ds, v => ∃ a xs, v = .ref a ∧ TOk c a xs ∧ ds.length ≤ sizeLine ∧ RelDs c H ρ ds xs
  | .lst ds, v => ∃ a xs, v = .ref a ∧ Off c ρ a ∧ H a = some (.lst xs) ∧ ds.length ≤ sizeLine ∧ RelDs c H ρ ds xs
  | .frz ds, v => ∃ a xs, v = .ref a ∧ LOk c H ρ a xs ∧ ds.length ≤ sizeLine ∧ RelDs c H ρ ds xs
  | .dic t kvs, v => ∃ a xs, v = .ref a ∧ Off c ρ a ∧ HDic H a t kvs xs ∧ RelDv c H ρ kvs xs
  | .ins n fs, v => ∃ a C dx xs, v = .ref a ∧ Off c ρ a ∧ c.mg n = some (.ref C) ∧ H a = some (.ins C dx ((fs.map (·.1)).zip xs)) ∧ RelDf c H ρ fs xs
  | .ty n, v => v = .ty n
  | .cls n, v => ∃ C, v = .ref C ∧ c.mg n = some (.ref C)
def RelDs (c : Cn) (H : Hp) (ρ : Rho) : List D → List V → Prop
  | [], [] => True
  | d :: ds, v :: vs => RelD c H ρ d v ∧ RelDs c H ρ ds vs
  | _, _ => False
def RelDv (c : Cn) (H : Hp) (ρ : Rho) : List (D × D) → List V → Prop
  | [], [] => True
  | (_, d) :: ds, v :: vs => RelD c H ρ d v ∧ RelDv c H ρ ds vs
  | _, _ => False
def RelDf (c : Cn) (H : Hp) (ρ : Rho) : List (Str × D) → List V → Prop
  | [], [] => True
  | (_, d) :: ds, v :: vs => RelD c H ρ d v ∧ RelDf c H ρ ds vs
  | _, _ => False
end
def RelW (c : Cn) (H : Hp) (ρ : Rho) : W → V → Prop
  | .d x, v => RelD c H ρ x v
  | .ref k, v => k < ρ.length ∧ ∀ a, ρ[k]? = some (some a) → v = .ref a
def RelWs (c : Cn) (H : Hp) (ρ : Rho) : List W → List V → Prop
  | [], [] => True
  | w :: ws, v :: vs => RelW c H ρ w v ∧ RelWs c H ρ ws vs
  | _, _ => False
def RelWf (c : Cn) (H : Hp) (ρ : Rho) : List (Str × W) → List V → Prop
  | [], [] => True
  | (_, w) :: ws, v :: vs => RelW c H ρ w v ∧ RelWf c H ρ ws vs
  | _, _ => False
/-- the frame's slots: a slot that the mirror does not know may hold anything -/
def RelE (c : Cn) (H : Hp) (ρ : Rho) : Env → L2.St → Prop
  | [], [] => True
  | some w :: e, some v :: σ => RelW c H ρ w v ∧ RelE c H ρ e σ
  | none :: e, _ :: σ => RelE c H ρ e σ
  | _, _ => False
def RelO (c : Cn) (H : Hp) (ρ : Rho) : VO → Option Addr → Prop
  | .dead, o => o = none
  | .lst ds, o => ∃ a xs, o = some a ∧ H a = some (.lst xs) ∧ ds.length ≤ sizeLine ∧ RelDs c H ρ ds xs
  | .dic t kvs, o => ∃ a xs, o = some a ∧ HDic H a t kvs xs ∧ RelDv c H ρ kvs xs
  | .ins n fs, o => ∃ a C dx xs, o = some a ∧ c.mg n = some (.ref C) ∧ H a = some (.ins C dx ((fs.map (·.1)).zip xs)) ∧ RelWf c H ρ fs xs
structure RelH (c : Cn) (H : Hp) (ρ : Rho) (vh : VH) : Prop where
  len : ρ.length = vh.length
  inj : ∀ (i j : Nat) (a : Addr), ρ[i]? = some (some a) → ρ[j]? = some (some a) → i = j
  at' : ∀ (i : Nat) (vo : VO), vh[i]? = some vo → ∃ o, ρ[i]? = some o ∧ RelO c H ρ vo o
  hid : ∀ a, a ∈ c.hid → (∃ o, H a = some o) ∧ some a ∉ ρ

/-- what is not in ρ stays -/
def Fm (H H' : Hp) (ρ : Rho) : Prop := ∀ a o, some a ∉ ρ → H a = some o → H' a = some o
/-- .. nor hidden -/
def Fw (c : Cn) (H H' : Hp) (ρ : Rho) : Prop := ∀ a o, Off c ρ a → H a = some o → H' a = some o
/-- ρ grows by new places; some places may be given up -/
structure Grow (ρ : Rho) (H : Hp) (ρ' : Rho) : Prop where
  len : ρ.length ≤ ρ'.length
  old : ∀ i, i < ρ.length → ρ'[i]? = ρ[i]? ∨ ρ'[i]? = some none
  new : ∀ a, some a ∈ ρ' → some a ∈ ρ ∨ H a = none

theorem Grow.refl (ρ : Rho) (H : Hp) : Grow ρ H ρ := ⟨Nat.le_refl _, fun _ _ => .inl rfl, fun _ h => .inl h⟩
theorem Fm.refl (H : Hp) (ρ : Rho) : Fm H H ρ := fun _ _ _ h => h
theorem Grow.trans {ρ ρ1 ρ2 : Rho} {H H1 : Hp} (a : Grow ρ H ρ1) (f : Fm H H1 ρ) (b : Grow ρ1 H1 ρ2) : Grow ρ H ρ2 where
  len := Nat.le_trans a.len b.len
  old := fun i hi => by
    rcases b.old i (Nat.lt_of_lt_of_le hi a.len) with h | h
    · rw [h]; exact a.old i hi
    · exact .inr h
  new := fun x hx => by
    by_cases h : some x ∈ ρ
    · exact .inl h
    · rcases b.new x hx with h1 | h1
      · exact a.new x h1
      · cases q : H x with
        | none => exact .inr rfl
        | some o => rw [f x o h q] at h1; cases h1
theorem Fm.trans {ρ ρ1 : Rho} {H H1 H2 : Hp} (a : Grow ρ H ρ1) (f : Fm H H1 ρ) (g : Fm H1 H2 ρ1) : Fm H H2 ρ := fun x o hx h => by
  refine g x o (fun z => ?_) (f x o hx h)
  rcases a.new x z with h1 | h1
  · exact hx h1
  · rw [h] at h1; cases h1

section
variable {c : Cn} {H H' : Hp} {ρ ρ' : Rho}
theorem Grow.not (g : Grow ρ H ρ') {a : Addr} {o : HO} (h : Off c ρ a) (e : H a = some o) : Off c ρ' a := by
  refine ⟨fun z => ?_, h.2⟩
  rcases g.new a z with h1 | h1
  · exact h.1 h1
  · rw [e] at h1; cases h1
theorem Fm.w (f : Fm H H' ρ) : Fw c H H' ρ := fun a o h => f a o h.1
theorem Rd.fr (f : Fw c H H' ρ) {a : Addr} {u : HO} (h : Off c ρ a) (r : Rd H a u) : Rd H' a u := by
  rcases r with r | ⟨o, r⟩
  · exact .inl (f a _ h r)
  · exact .inr ⟨o, f a _ h r⟩
theorem LOk.stayw (g : Grow ρ H ρ') (f : Fw c H H' ρ) {a : Addr} {xs : List V} (h : LOk c H ρ a xs) : LOk c H' ρ' a xs := by
  rcases h with ⟨n, r⟩ | h
  · refine .inl ⟨?_, Rd.fr f n r⟩
    rcases r with r | ⟨o, r⟩
    · exact g.not n r
    · exact g.not n r
  · exact .inr h
mutual
theorem RelD.stayw (g : Grow ρ H ρ') (f : Fw c H H' ρ) : ∀ {x : D} {v : V}, RelD c H ρ x v → RelD c H' ρ' x v
  | .non, _, h => h
  | .bl _, _, h => h
  | .int _, _, h => h
  | .str _, _, h => h
  | .tup _, _, ⟨a, xs, e, n, hH, l, r⟩ => ⟨a, xs, e, g.not n hH, f a _ n hH, l, RelDs.stayw g f r⟩
  | .ctp _, _, ⟨a, xs, e, t, l, r⟩ => ⟨a, xs, e, t, l, RelDs.stayw g f r⟩
  | .lst _, _, ⟨a, xs, e, n, hH, l, r⟩ => ⟨a, xs, e, g.not n hH, f a _ n hH, l, RelDs.stayw g f r⟩
  | .frz _, _, ⟨a, xs, e, t, l, r⟩ => ⟨a, xs, e, t.stayw g f, l, RelDs.stayw g f r⟩
  | .dic _ _, _, ⟨a, xs, e, n, hH, r⟩ => ⟨a, xs, e, let ⟨_, hs⟩ := hH.ex; g.not n hs, hH.to fun o q => f a o n q, RelDv.stayw g f r⟩
  | .ins _ _, _, ⟨a, C, dx, xs, e, n, hm, hH, r⟩ => ⟨a, C, dx, xs, e, g.not n hH, hm, f a _ n hH, RelDf.stayw g f r⟩
  | .ty _, _, h => h
  | .cls _, _, h => h
theorem RelDs.stayw (g : Grow ρ H ρ') (f : Fw c H H' ρ) : ∀ {xs : List D} {vs : List V}, RelDs c H ρ xs vs → RelDs c H' ρ' xs vs
  | [], [], h => trivial
  | _ :: _, _ :: _, ⟨h, t⟩ => ⟨RelD.stayw g f h, RelDs.stayw g f t⟩
theorem RelDv.stayw (g : Grow ρ H ρ') (f : Fw c H H' ρ) : ∀ {xs : List (D × D)} {vs : List V}, RelDv c H ρ xs vs → RelDv c H' ρ' xs vs
  | [], [], h => trivial
  | (_, _) :: _, _ :: _, ⟨h, t⟩ => ⟨RelD.stayw g f h, RelDv.stayw g f t⟩
theorem RelDf.stayw (g : Grow ρ H ρ') (f : Fw c H H' ρ) : ∀ {xs : List (Str × D)} {vs : List V}, RelDf c H ρ xs vs → RelDf c H' ρ' xs vs
  | [], [], h => trivial
  | (_, _) :: _, _ :: _, ⟨h, t⟩ => ⟨RelD.stayw g f h, RelDf.stayw g f t⟩
end
theorem RelW.stayw (g : Grow ρ H ρ') (f : Fw c H H' ρ) : ∀ {w : W} {v : V}, RelW c H ρ w v → RelW c H' ρ' w v
  | .d _, _, h => RelD.stayw g f h
  | .ref k, _, ⟨h1, h2⟩ => ⟨Nat.lt_of_lt_of_le h1 g.len, fun a ha => by
      rcases g.old k h1 with e | e
      · exact h2 a (e ▸ ha)
      · rw [e] at ha; cases ha⟩
theorem RelWs.stayw (g : Grow ρ H ρ') (f : Fw c H H' ρ) : ∀ {xs : List W} {vs : List V}, RelWs c H ρ xs vs → RelWs c H' ρ' xs vs
  | [], [], h => trivial
  | _ :: _, _ :: _, ⟨h, t⟩ => ⟨RelW.stayw g f h, RelWs.stayw g f t⟩
theorem RelWf.stayw (g : Grow ρ H ρ') (f : Fw c H H' ρ) : ∀ {xs : List (Str × W)} {vs : List V}, RelWf c H ρ xs vs → RelWf c H' ρ' xs vs
  | [], [], h => trivial
  | (_, _) :: _, _ :: _, ⟨h, t⟩ => ⟨RelW.stayw g f h, RelWf.stayw g f t⟩
theorem RelE.stayw (g : Grow ρ H ρ') (f : Fw c H H' ρ) : ∀ {e : Env} {σ : L2.St}, RelE c H ρ e σ → RelE c H' ρ' e σ
  | [], [], h => trivial
  | some _ :: _, some _ :: _, ⟨h, t⟩ => ⟨RelW.stayw g f h, RelE.stayw g f t⟩
  | none :: e, _ :: σ, t => RelE.stayw (e := e) (σ := σ) g f t
theorem RelDs.length : ∀ {xs : List D} {vs : List V}, RelDs c H ρ xs vs → xs.length = vs.length
  | [], [], _ => rfl
  | _ :: _, _ :: _, ⟨_, t⟩ => congrArg (· + 1) (RelDs.length t)
theorem RelWs.length : ∀ {xs : List W} {vs : List V}, RelWs c H ρ xs vs → xs.length = vs.length
  | [], [], _ => rfl
  | _ :: _, _ :: _, ⟨_, t⟩ => congrArg (· + 1) (RelWs.length t)
theorem RelE.length : ∀ {e : Env} {σ : L2.St}, RelE c H ρ e σ → e.length = σ.length
  | [], [], _ => rfl
  | some _ :: _, some _ :: _, ⟨_, t⟩ => congrArg (· + 1) (RelE.length t)
  | none :: e, _ :: σ, t => congrArg (· + 1) (RelE.length (e := e) (σ := σ) t)
theorem RelE.get : ∀ {e : Env} {σ : L2.St} {i : Nat} {w : W}, RelE c H ρ e σ → e[i]? = some (some w) → ∃ v, σ[i]? = some (some v) ∧ RelW c H ρ w v
  | [], [], _, _, _, q => by simp at q
  | some w :: e, some v :: σ, 0, _, ⟨h, _⟩, q => by simp at q; subst q; exact ⟨v, rfl, h⟩
  | some w :: e, some v :: σ, i + 1, _, ⟨_, t⟩, q => by simpa using RelE.get (i := i) t (by simpa using q)
  | none :: e, v :: σ, 0, _, _, q => by simp at q
  | none :: e, v :: σ, i + 1, _, t, q => by simpa using RelE.get (i := i) (e := e) (σ := σ) t (by simpa using q)
theorem RelE.set {w : W} {v : V} (r : RelW c H ρ w v) : ∀ {e : Env} {σ : L2.St} {i : Nat}, RelE c H ρ e σ → RelE c H ρ (e.set i (some w)) (σ.set i (some v))
  | [], [], _, _ => trivial
  | some _ :: e, some _ :: σ, 0, ⟨_, t⟩ => ⟨r, t⟩
  | some _ :: e, some _ :: σ, i + 1, ⟨h, t⟩ => ⟨h, RelE.set r t⟩
  | none :: e, _ :: σ, 0, t => ⟨r, t⟩
  | none :: e, _ :: σ, i + 1, t => RelE.set (e := e) (σ := σ) r t
theorem RelDs.get : ∀ {xs : List D} {vs : List V} {i : Nat} {x : D}, RelDs c H ρ xs vs → xs[i]? = some x → ∃ v, vs[i]? = some v ∧ RelD c H ρ x v
  | [], [], _, _, _, q => by simp at q
  | x :: xs, v :: vs, 0, _, ⟨h, _⟩, q => by simp at q; subst q; exact ⟨v, rfl, h⟩
  | x :: xs, v :: vs, i + 1, _, ⟨_, t⟩, q => by simpa using RelDs.get (i := i) t (by simpa using q)
theorem RelDs.get' : ∀ {xs : List D} {vs : List V} {i : Nat} {v : V}, RelDs c H ρ xs vs → vs[i]? = some v → ∃ x, xs[i]? = some x ∧ RelD c H ρ x v
  | [], [], _, _, _, q => by simp at q
  | x :: xs, v :: vs, 0, _, ⟨h, _⟩, q => by simp at q; subst q; exact ⟨x, rfl, h⟩
  | x :: xs, v :: vs, i + 1, _, ⟨_, t⟩, q => by simpa using RelDs.get' (i := i) t (by simpa using q)
theorem RelDs.append : ∀ {xs ys : List D} {vs us : List V}, RelDs c H ρ xs vs → RelDs c H ρ ys us → RelDs c H ρ (xs ++ ys) (vs ++ us)
  | [], _, [], _, _, s => s
  | _ :: _, _, _ :: _, _, ⟨h, t⟩, s => ⟨h, RelDs.append t s⟩
theorem RelDs.set {x : D} {v : V} (r : RelD c H ρ x v) : ∀ {xs : List D} {vs : List V} {i : Nat}, RelDs c H ρ xs vs → RelDs c H ρ (xs.set i x) (vs.set i v)
  | [], [], _, _ => trivial
  | _ :: _, _ :: _, 0, ⟨_, t⟩ => ⟨r, t⟩
  | _ :: _, _ :: _, i + 1, ⟨h, t⟩ => ⟨h, RelDs.set r t⟩
theorem RelDs.take : ∀ {xs : List D} {vs : List V} (n : Nat), RelDs c H ρ xs vs → RelDs c H ρ (xs.take n) (vs.take n)
  | [], [], n, _ => by simp; trivial
  | _ :: _, _ :: _, 0, _ => trivial
  | _ :: _, _ :: _, n + 1, ⟨h, t⟩ => ⟨h, RelDs.take n t⟩
theorem RelDs.drop : ∀ {xs : List D} {vs : List V} (n : Nat), RelDs c H ρ xs vs → RelDs c H ρ (xs.drop n) (vs.drop n)
  | [], [], n, _ => by simp; trivial
  | _ :: _, _ :: _, 0, h => h
  | _ :: _, _ :: _, n + 1, ⟨_, t⟩ => RelDs.drop n t
theorem LOk.stay (g : Grow ρ H ρ') (f : Fm H H' ρ) {a : Addr} {xs : List V} (h : LOk c H ρ a xs) : LOk c H' ρ' a xs := h.stayw g f.w
theorem RelD.stay (g : Grow ρ H ρ') (f : Fm H H' ρ) {x : D} {v : V} (h : RelD c H ρ x v) : RelD c H' ρ' x v := RelD.stayw g f.w h
theorem RelDs.stay (g : Grow ρ H ρ') (f : Fm H H' ρ) {x : List D} {v : List V} (h : RelDs c H ρ x v) : RelDs c H' ρ' x v := RelDs.stayw g f.w h
theorem RelDv.stay (g : Grow ρ H ρ') (f : Fm H H' ρ) {x : List (D × D)} {v : List V} (h : RelDv c H ρ x v) : RelDv c H' ρ' x v := RelDv.stayw g f.w h
theorem RelDf.stay (g : Grow ρ H ρ') (f : Fm H H' ρ) {x : List (Str × D)} {v : List V} (h : RelDf c H ρ x v) : RelDf c H' ρ' x v := RelDf.stayw g f.w h
theorem RelW.stay (g : Grow ρ H ρ') (f : Fm H H' ρ) {x : W} {v : V} (h : RelW c H ρ x v) : RelW c H' ρ' x v := RelW.stayw g f.w h
theorem RelWs.stay (g : Grow ρ H ρ') (f : Fm H H' ρ) {x : List W} {v : List V} (h : RelWs c H ρ x v) : RelWs c H' ρ' x v := RelWs.stayw g f.w h
theorem RelWf.stay (g : Grow ρ H ρ') (f : Fm H H' ρ) {x : List (Str × W)} {v : List V} (h : RelWf c H ρ x v) : RelWf c H' ρ' x v := RelWf.stayw g f.w h
theorem RelE.stay (g : Grow ρ H ρ') (f : Fm H H' ρ) {x : Env} {v : L2.St} (h : RelE c H ρ x v) : RelE c H' ρ' x v := RelE.stayw g f.w h
end
end Mn

namespace Mn
open PySem PySem.Spec PyProof.Rows L2

/-! ### reading an outcome -/
def RelX (c : Cn) (H : Hp) (ρ : Rho) (x : Exn) (cls : Value) (d : Option Addr) : Prop :=
  c.mg x.cls = some cls ∧ ∃ dd gs, d = some dd ∧ Off c ρ dd ∧ H dd = some (.xd ((x.fs.map (·.1)).zip gs)) ∧ RelDf c H ρ x.fs gs
def Out {α : Type} (c : Cn) (σ : L2.St) (H : Hp) (ρ : Rho) (X : WX) (r : Res α) (K : α → VH → Hp → Rho → Prop) : Prop :=
  match r with
  | .ok a vh' => ∀ H' ρ', Grow ρ H ρ' → Fm H H' ρ → RelH c H' ρ' vh' → K a vh' H' ρ'
  | .exn x vh' => ∀ cls d H' ρ', Grow ρ H ρ' → Fm H H' ρ → RelX c H' ρ' x cls d → RelH c H' ρ' vh' → X cls d σ H'
  | .stuck => False
def bnd {α β : Type} (r : Res α) (k : α → VH → Res β) : Res β :=
  match r with
  | .ok a h => k a h
  | .exn x h => .exn x h
  | .stuck => .stuck
@[simp] theorem bnd_ok {α β : Type} (a : α) (h : VH) (k : α → VH → Res β) : bnd (.ok a h) k = k a h := rfl
@[simp] theorem bnd_exn {α β : Type} (x : Exn) (h : VH) (k : α → VH → Res β) : bnd (.exn x h) k = .exn x h := rfl
@[simp] theorem bnd_stuck {α β : Type} (k : α → VH → Res β) : bnd .stuck k = .stuck := rfl
def opt {α β : Type} (o : Option α) (k : α → Res β) : Res β := match o with
  | some a => k a
  | none => .stuck
@[simp] theorem opt_some {α β : Type} (a : α) (k : α → Res β) : opt (some a) k = k a := rfl
@[simp] theorem opt_none {α β : Type} (k : α → Res β) : opt none k = .stuck := rfl

abbrev FE := Env → VH → Res W
abbrev FT := Env → VH → Res Bool
abbrev FA := Env → VH → Res (List W)
section
variable {c : Cn} {X : WX} {σ : L2.St} {H H1 : Hp} {ρ ρ1 : Rho} {e : Env} {vh : VH} {α β : Type}
def tM (c : Cn) (X : WX) (f : FE) : TE := fun σ H Q => ∃ e ρ vh, RelE c H ρ e σ ∧ RelH c H ρ vh ∧ Out c σ H ρ X (f e vh) fun w _ H' ρ' => ∀ v, RelW c H' ρ' w v → Q v H'
def tMT (c : Cn) (X : WX) (f : FT) : TT := fun σ H Q => ∃ e ρ vh, RelE c H ρ e σ ∧ RelH c H ρ vh ∧ Out c σ H ρ X (f e vh) fun b _ H' _ => Q b H'
def tMA (c : Cn) (X : WX) (f : FA) : TA := fun σ H Q => ∃ e ρ vh, RelE c H ρ e σ ∧ RelH c H ρ vh ∧ Out c σ H ρ X (f e vh) fun ws _ H' ρ' => ∀ vs, RelWs c H' ρ' ws vs → Q vs H'

theorem Out.mono {r : Res α} {K K' : α → VH → Hp → Rho → Prop} (h : Out c σ H ρ X r K) (k : ∀ a vh' H' ρ', K a vh' H' ρ' → K' a vh' H' ρ') : Out c σ H ρ X r K' := by
  cases r with
  | ok a vh' => exact fun H' ρ' g f r => k _ _ _ _ (h H' ρ' g f r)
  | exn x vh' => exact h
  | stuck => exact h
theorem Out.later {r : Res α} {K : α → VH → Hp → Rho → Prop} (h : Out c σ H ρ X r K) (g : Grow ρ H ρ1) (f : Fm H H1 ρ) : Out c σ H1 ρ1 X r K := by
  cases r with
  | ok a vh' => exact fun H' ρ' g' f' r => h H' ρ' (g.trans f g') (Fm.trans g f f') r
  | exn x vh' => exact fun cls d H' ρ' g' f' rx r => h cls d H' ρ' (g.trans f g') (Fm.trans g f f') rx r
  | stuck => exact h
theorem Out.here {a : α} {K : α → VH → Hp → Rho → Prop} (h : Out c σ H ρ X (.ok a vh) K) (r : RelH c H ρ vh) : K a vh H ρ := h H ρ (Grow.refl _ _) (Fm.refl _ _) r
/-- what stands behind a part -/
structure Aft (c : Cn) (X : WX) (σ : L2.St) (e : Env) (H1 : Hp) (ρ1 : Rho) (vh1 : VH) (r : Res β) (K : β → VH → Hp → Rho → Prop) : Prop where
  re : RelE c H1 ρ1 e σ
  rh : RelH c H1 ρ1 vh1
  out : Out c σ H1 ρ1 X r K
theorem use {f : FE} {k : W → VH → Res β} {K : β → VH → Hp → Rho → Prop} (he : RelE c H ρ e σ) (hh : RelH c H ρ vh) (h : Out c σ H ρ X (bnd (f e vh) k) K) :
    tM c X f σ H fun v H1 => ∃ w vh1 ρ1, RelW c H1 ρ1 w v ∧ Aft c X σ e H1 ρ1 vh1 (k w vh1) K ∧ Grow ρ H ρ1 ∧ Fm H H1 ρ := by
  refine ⟨e, ρ, vh, he, hh, ?_⟩
  cases q : f e vh with
  | ok w vh' =>
    rw [q] at h
    exact fun H' ρ' g fm rh v rw' => ⟨w, vh', ρ', rw', ⟨he.stay g fm, rh, h.later g fm⟩, g, fm⟩
  | exn x vh' => rw [q] at h; exact h
  | stuck => rw [q] at h; exact h
theorem useT {f : FT} {k : Bool → VH → Res β} {K : β → VH → Hp → Rho → Prop} (he : RelE c H ρ e σ) (hh : RelH c H ρ vh) (h : Out c σ H ρ X (bnd (f e vh) k) K) :
    tMT c X f σ H fun b H1 => ∃ vh1 ρ1, Aft c X σ e H1 ρ1 vh1 (k b vh1) K ∧ Grow ρ H ρ1 ∧ Fm H H1 ρ := by
  refine ⟨e, ρ, vh, he, hh, ?_⟩
  cases q : f e vh with
  | ok w vh' =>
    rw [q] at h
    exact fun H' ρ' g fm rh => ⟨vh', ρ', ⟨he.stay g fm, rh, h.later g fm⟩, g, fm⟩
  | exn x vh' => rw [q] at h; exact h
  | stuck => rw [q] at h; exact h
theorem useA {f : FA} {k : List W → VH → Res β} {K : β → VH → Hp → Rho → Prop} (he : RelE c H ρ e σ) (hh : RelH c H ρ vh) (h : Out c σ H ρ X (bnd (f e vh) k) K) :
    tMA c X f σ H fun vs H1 => ∃ ws vh1 ρ1, RelWs c H1 ρ1 ws vs ∧ Aft c X σ e H1 ρ1 vh1 (k ws vh1) K ∧ Grow ρ H ρ1 ∧ Fm H H1 ρ := by
  refine ⟨e, ρ, vh, he, hh, ?_⟩
  cases q : f e vh with
  | ok w vh' =>
    rw [q] at h
    exact fun H' ρ' g fm rh vs rw' => ⟨w, vh', ρ', rw', ⟨he.stay g fm, rh, h.later g fm⟩, g, fm⟩
  | exn x vh' => rw [q] at h; exact h
  | stuck => rw [q] at h; exact h
end

/-! ### weaker readings -/
section
variable {X : Cx} {e : Expr} {es : List Expr} {c : Cn} {W₀ : WX}
theorem pe_imp {t t' : TE} (h : PE X e t) (i : ∀ σ H Q, t' σ H Q → t σ H Q) : PE X e t' := ⟨fun pins s σ H Q I q => h.run pins s σ H Q I (i σ H Q q)⟩
theorem pt_imp {t t' : TT} (h : PT X e t) (i : ∀ σ H Q, t' σ H Q → t σ H Q) : PT X e t' := ⟨fun pins s σ H Q I q => h.run pins s σ H Q I (i σ H Q q)⟩
theorem pw_imp {t t' : TT} (h : PW X e t) (i : ∀ σ H Q, t' σ H Q → t σ H Q) : PW X e t' := ⟨fun wh pins s σ H Q I q => h.run wh pins s σ H Q I (i σ H Q q)⟩
theorem pa_imp {t t' : TA} (h : PA X es t) (i : ∀ σ H Q, t' σ H Q → t σ H Q) : PA X es t' := ⟨fun pos pins s σ H Q I q => h.run pos pins s σ H Q I (i σ H Q q)⟩
theorem ps_imp {st : Stmt} {t t' : TS} (h : PS X st t) (i : ∀ D σ H, t' D σ H → t D σ H) : PS X st t' := ⟨fun pins s σ H D I q => h.run pins s σ H D I (i D σ H q)⟩
theorem pss_imp {st : List Stmt} {t t' : TS} (h : PSs X st t) (i : ∀ D σ H, t' D σ H → t D σ H) : PSs X st t' := ⟨fun pins s σ H D I q => h.run pins s σ H D I (i D σ H q)⟩
end

/-! ### new objects -/
section
variable {c : Cn} {H : Hp} {ρ : Rho} {vh : VH}
theorem RelO.live {vo : VO} {a : Addr} (h : RelO c H ρ vo (some a)) : ∃ o, H a = some o := by
  cases vo with
  | dead => cases h
  | lst ds => obtain ⟨_, _, e, h, _, _⟩ := h; cases e; exact ⟨_, h⟩
  | dic t kvs => obtain ⟨_, _, e, h, _⟩ := h; cases e; exact h.ex
  | ins n fs => obtain ⟨_, _, _, _, e, _, h, _⟩ := h; cases e; exact ⟨_, h⟩
theorem RelH.live (h : RelH c H ρ vh) {a : Addr} (ha : some a ∈ ρ) : ∃ o, H a = some o := by
  obtain ⟨i, hi, e⟩ := List.mem_iff_getElem.mp ha
  have hv : i < vh.length := by rw [← h.len]; exact hi
  obtain ⟨o, ho, r⟩ := h.at' i vh[i] (by simp [hv])
  have : o = some a := by
    rw [List.getElem?_eq_getElem hi, e] at ho
    exact (Option.some.inj ho).symm
  subst this
  exact r.live
theorem RelH.fresh (h : RelH c H ρ vh) {p : Addr} (hp : H p = none) : Off c ρ p := by
  refine ⟨fun z => ?_, fun z => ?_⟩
  · obtain ⟨o, e⟩ := h.live z
    rw [hp] at e; cases e
  · obtain ⟨⟨o, e⟩, _⟩ := h.hid p z
    rw [hp] at e; cases e
theorem Fm.new {p : Addr} {o : HO} (hp : H p = none) : Fm H (upd H p o) ρ := fun a u _ e => by rw [upd_ne (ne_of_none e hp)]; exact e
theorem Fm.same {H' : Hp} (s : Same H H') : Fm H H' ρ := fun a u _ e => s a u e
theorem RelO.stay {H' : Hp} {ρ' : Rho} (g : Grow ρ H ρ') (f : Fm H H' ρ) {vo : VO} {o : Option Addr} (s : ∀ a u, o = some a → H a = some u → H' a = some u) (h : RelO c H ρ vo o) : RelO c H' ρ' vo o := by
  cases vo with
  | dead => exact h
  | lst ds => obtain ⟨a, xs, e, hH, l, r⟩ := h; exact ⟨a, xs, e, s a _ e hH, l, r.stay g f⟩
  | dic t kvs => obtain ⟨a, xs, e, hH, r⟩ := h; exact ⟨a, xs, e, hH.to fun o q => s a o e q, r.stay g f⟩
  | ins n fs => obtain ⟨a, C, dx, xs, e, hm, hH, r⟩ := h; exact ⟨a, C, dx, xs, e, hm, s a _ e hH, r.stay g f⟩
theorem RelH.same {H' : Hp} (h : RelH c H ρ vh) (s : Same H H') : RelH c H' ρ vh where
  len := h.len
  inj := h.inj
  at' := fun i vo e => by
    obtain ⟨o, ho, r⟩ := h.at' i vo e
    exact ⟨o, ho, r.stay (Grow.refl _ _) (Fm.same s) fun a u _ q => s a u q⟩
  hid := fun a ha => let ⟨⟨o, e⟩, n⟩ := h.hid a ha; ⟨⟨o, s a o e⟩, n⟩
theorem same_upd {p : Addr} {o : HO} (hp : H p = none) : Same H (upd H p o) := fun a u e => by rw [upd_ne (ne_of_none e hp)]; exact e
/-- a new changeable object -/
theorem Grow.push {p : Addr} (hp : H p = none) : Grow ρ H (ρ ++ [some p]) where
  len := by simp
  old := fun i hi => .inl (by simp [List.getElem?_append_left, hi])
  new := fun a ha => by
    rcases List.mem_append.mp ha with h | h
    · exact .inl h
    · simp at h; subst h; exact .inr hp
theorem RelH.push {p : Addr} {o : HO} {vo : VO} (h : RelH c H ρ vh) (hp : H p = none) (r : RelO c (upd H p o) (ρ ++ [some p]) vo (some p)) : RelH c (upd H p o) (ρ ++ [some p]) (vh ++ [vo]) where
  len := by simp [h.len]
  inj := fun i j a hi hj => by
    by_cases li : i < ρ.length
    · rw [List.getElem?_append_left li] at hi
      by_cases lj : j < ρ.length
      · rw [List.getElem?_append_left lj] at hj; exact h.inj i j a hi hj
      · rw [List.getElem?_append_right (by omega)] at hj
        have : a = p := by
          cases q : j - ρ.length with
          | zero => rw [q] at hj; simpa using hj.symm
          | succ n => rw [q] at hj; simp at hj
        subst this
        exact absurd (List.mem_of_getElem? hi) (h.fresh hp).1
    · rw [List.getElem?_append_right (by omega)] at hi
      have e1 : i = ρ.length ∧ a = p := by
        cases q : i - ρ.length with
        | zero => rw [q] at hi; exact ⟨by omega, by simpa using hi.symm⟩
        | succ n => rw [q] at hi; simp at hi
      obtain ⟨e1, e2⟩ := e1
      subst e2
      by_cases lj : j < ρ.length
      · rw [List.getElem?_append_left lj] at hj
        exact absurd (List.mem_of_getElem? hj) (h.fresh hp).1
      · rw [List.getElem?_append_right (by omega)] at hj
        cases q : j - ρ.length with
        | zero => omega
        | succ n => rw [q] at hj; simp at hj
  at' := fun i vo' e => by
    by_cases li : i < vh.length
    · rw [List.getElem?_append_left li] at e
      obtain ⟨u, hu, r'⟩ := h.at' i vo' e
      refine ⟨u, by rw [List.getElem?_append_left (by rw [h.len]; exact li)]; exact hu, r'.stay (Grow.push hp) (Fm.new hp) fun a x _ q => same_upd hp a x q⟩
    · rw [List.getElem?_append_right (by omega)] at e
      cases q : i - vh.length with
      | zero =>
        rw [q] at e
        simp at e; subst e
        refine ⟨some p, ?_, r⟩
        rw [List.getElem?_append_right (by rw [h.len]; omega), h.len, q]; rfl
      | succ n => rw [q] at e; simp at e
  hid := fun a ha => by
    obtain ⟨⟨u, e⟩, n⟩ := h.hid a ha
    refine ⟨⟨u, same_upd hp a u e⟩, fun z => ?_⟩
    rcases List.mem_append.mp z with z | z
    · exact n z
    · simp at z; subst z; rw [hp] at e; cases e
end

/-! ### what may be read -/
def see (vh : VH) : W → Option D
  | .d x => some x
  | .ref k => match vh[k]? with
    | some (.lst ds) => some (.lst ds)
    | some (.dic t kvs) => some (.dic t kvs)
    | _ => none
@[simp] theorem see_d (vh : VH) (x : D) : see vh (.d x) = some x := rfl
/-- readable: as RelD, but the top may change later -/
def RelR (c : Cn) (H : Hp) (ρ : Rho) : D → V → Prop
  | .lst ds, v => ∃ a xs, v = .ref a ∧ H a = some (.lst xs) ∧ ds.length ≤ sizeLine ∧ RelDs c H ρ ds xs
  | .dic t kvs, v => ∃ a xs, v = .ref a ∧ HDic H a t kvs xs ∧ RelDv c H ρ kvs xs
  | x, v => RelD c H ρ x v
section
variable {c : Cn} {H : Hp} {ρ : Rho} {vh : VH}
theorem RelD.r : ∀ {x : D} {v : V}, RelD c H ρ x v → RelR c H ρ x v
  | .lst _, _, ⟨a, xs, e, _, hH, l, r⟩ => ⟨a, xs, e, hH, l, r⟩
  | .frz _, _, h => h
  | .dic _ _, _, ⟨a, xs, e, _, h⟩ => ⟨a, xs, e, h⟩
  | .non, _, h => h
  | .bl _, _, h => h
  | .int _, _, h => h
  | .str _, _, h => h
  | .tup _, _, h => h
  | .ctp _, _, h => h
  | .ins _ _, _, h => h
  | .ty _, _, h => h
  | .cls _, _, h => h
theorem see_ok {w : W} {v : V} {x : D} (hh : RelH c H ρ vh) (r : RelW c H ρ w v) (e : see vh w = some x) : RelR c H ρ x v := by
  cases w with
  | d y => cases e; exact RelD.r r
  | ref k =>
    obtain ⟨_, r2⟩ := r
    unfold see at e
    cases q : vh[k]? with
    | none => simp only [q] at e; cases e
    | some vo =>
      obtain ⟨o, ho, ro⟩ := hh.at' k vo q
      simp only [q] at e
      cases vo with
      | lst ds =>
        cases e
        obtain ⟨a, xs, rfl, hH, l, rr⟩ := ro
        exact ⟨a, xs, r2 a ho, hH, l, rr⟩
      | dic t kvs =>
        cases e
        obtain ⟨a, xs, rfl, hh⟩ := ro
        exact ⟨a, xs, r2 a ho, hh⟩
      | ins _ _ => cases e
      | dead => cases e
end
end Mn

namespace Mn
open PySem PySem.Spec PyProof.Rows L2

section
variable {c : Cn} {X : WX} {σ : L2.St} {H H1 : Hp} {ρ ρ1 : Rho} {e : Env} {vh : VH} {α β : Type}
theorem tM.mono {f : FE} {Q Q' : VK} (h : tM c X f σ H Q) (q : ∀ v H, Q v H → Q' v H) : tM c X f σ H Q' := by
  obtain ⟨e, ρ, vh, he, hh, o⟩ := h
  exact ⟨e, ρ, vh, he, hh, o.mono fun _ _ _ _ k v r => q _ _ (k v r)⟩
theorem tMT.mono {f : FT} {Q Q' : Bool → Hp → Prop} (h : tMT c X f σ H Q) (q : ∀ v H, Q v H → Q' v H) : tMT c X f σ H Q' := by
  obtain ⟨e, ρ, vh, he, hh, o⟩ := h
  exact ⟨e, ρ, vh, he, hh, o.mono fun _ _ _ _ k => q _ _ k⟩
theorem tMA.mono {f : FA} {Q Q' : List V → Hp → Prop} (h : tMA c X f σ H Q) (q : ∀ v H, Q v H → Q' v H) : tMA c X f σ H Q' := by
  obtain ⟨e, ρ, vh, he, hh, o⟩ := h
  exact ⟨e, ρ, vh, he, hh, o.mono fun _ _ _ _ k v r => q _ _ (k v r)⟩
abbrev KW (c : Cn) (Q : VK) : W → VH → Hp → Rho → Prop := fun w _ H' ρ' => ∀ v, RelW c H' ρ' w v → Q v H'
theorem opt_out {o : Option α} {k : α → Res β} {K : β → VH → Hp → Rho → Prop} (h : Out c σ H ρ X (opt o k) K) : ∃ a, o = some a ∧ Out c σ H ρ X (k a) K := by
  cases o with
  | none => exact h.elim
  | some a => exact ⟨a, rfl, h⟩
/-- the end of a pure operation -/
theorem pure_out {z : D} {Q : VK} (rh : RelH c H ρ vh) (h : Out c σ H ρ X (.ok (.d z) vh) (KW c Q)) : ∀ v' H', Same H H' → RelD c H' ρ z v' → Q v' H' :=
  fun v' H' s r => h H' ρ ⟨Nat.le_refl _, fun _ _ => .inl rfl, fun _ z => .inl z⟩ (Fm.same s) (rh.same s) v' r
end

/-! ### operations on data -/
def Fresh (c : Cn) (H : Hp) (ρ : Rho) : Prop := ∀ p, H p = none → Off c ρ p
/-- what holds of an outcome of data: told at any heap that grew -/
abbrev DK (c : Cn) (H : Hp) (ρ : Rho) (z : D) (Q : VK) : Prop := ∀ v' H', Same H H' → RelD c H' ρ z v' → Q v' H'
def OpD (c : Cn) (r : R2) (g : D → D → Option D) : Prop := ∀ H ρ x y v u z Q, Fresh c H ρ → RelR c H ρ x v → RelR c H ρ y u → g x y = some z → DK c H ρ z Q → r v u H Q
def UnD (c : Cn) (r : V → Hp → VK → Prop) (g : D → Option D) : Prop := ∀ H ρ x v z Q, Fresh c H ρ → RelR c H ρ x v → g x = some z → DK c H ρ z Q → r v H Q
def RelRs (c : Cn) (H : Hp) (ρ : Rho) : List D → List V → Prop
  | [], [] => True
  | d :: ds, v :: vs => RelR c H ρ d v ∧ RelRs c H ρ ds vs
  | _, _ => False
def CallD (c : Cn) (r : List V → Hp → VK → Prop) (g : List D → Option D) : Prop := ∀ H ρ xs vs z Q, Fresh c H ρ → RelRs c H ρ xs vs → g xs = some z → DK c H ρ z Q → r vs H Q

def mVar (i : Nat) : FE := fun e vh => match e[i]? with
  | some (some w) => .ok w vh
  | _ => .stuck
def mC (d : D) : FE := fun _ vh => .ok (.d d) vh
def mOp (g : D → D → Option D) (fa fb : FE) : FE := fun e vh => bnd (fa e vh) fun w1 vh1 => bnd (fb e vh1) fun w2 vh2 => opt (see vh2 w1) fun x => opt (see vh2 w2) fun y => opt (g x y) fun z => .ok (.d z) vh2
def mUn (g : D → Option D) (fa : FE) : FE := fun e vh => bnd (fa e vh) fun w1 vh1 => opt (see vh1 w1) fun x => opt (g x) fun z => .ok (.d z) vh1
/-- a comparison's chain a op b op' c -/
def mChain (g g' : D → D → Option D) (fa fb fc : FE) : FE := fun e vh => bnd (fa e vh) fun w1 vh1 => bnd (fb e vh1) fun w2 vh2 => opt (see vh2 w1) fun x => opt (see vh2 w2) fun y => opt (g x y) fun z => match z with
  | .bl true => bnd (fc e vh2) fun w3 vh3 => opt (see vh3 w2) fun y => opt (see vh3 w3) fun x3 => opt (g' y x3) fun z' => .ok (.d z') vh3
  | .bl false => .ok (.d (.bl false)) vh2
  | _ => .stuck
def isB (w : W) (vh : VH) : Res Bool := match w with
  | .d (.bl b) => .ok b vh
  | _ => .stuck
def mTest (f : FE) : FT := fun e vh => bnd (f e vh) isB
def mNotT (f : FT) : FT := fun e vh => bnd (f e vh) fun b vh1 => .ok (!b) vh1
def mAndT (f g : FT) : FT := fun e vh => bnd (f e vh) fun b vh1 => if b = true then g e vh1 else .ok false vh1
def mOrT (f g : FT) : FT := fun e vh => bnd (f e vh) fun b vh1 => if b = true then .ok true vh1 else g e vh1
def mIf (t : FT) (f g : FE) : FE := fun e vh => bnd (t e vh) fun b vh1 => if b = true then f e vh1 else g e vh1
def mAnd (f g : FE) : FE := fun e vh => bnd (f e vh) fun w vh1 => bnd (isB w vh1) fun b vh1 => if b = true then g e vh1 else .ok (.d (.bl false)) vh1
def mOr (f g : FE) : FE := fun e vh => bnd (f e vh) fun w vh1 => bnd (isB w vh1) fun b vh1 => if b = true then .ok (.d (.bl true)) vh1 else g e vh1
def mNot (f : FE) : FE := fun e vh => bnd (f e vh) fun w vh1 => bnd (isB w vh1) fun b vh1 => .ok (.d (.bl !b)) vh1
def mNil : FA := fun _ vh => .ok [] vh
def mCons (f : FE) (g : FA) : FA := fun e vh => bnd (f e vh) fun w vh1 => bnd (g e vh1) fun ws vh2 => .ok (w :: ws) vh2
/-- data alone -/
def datas : List W → Option (List D)
  | [] => some []
  | .d x :: r => match datas r with
    | some xs => some (x :: xs)
    | none => none
  | .ref _ :: _ => none
def sees (vh : VH) : List W → Option (List D)
  | [] => some []
  | w :: r => match see vh w, sees vh r with
    | some x, some xs => some (x :: xs)
    | _, _ => none
def mTup (f : FA) : FE := fun e vh => bnd (f e vh) fun ws vh1 => opt (datas ws) fun ds => if ds.length ≤ sizeLine then .ok (.d (.tup ds)) vh1 else .stuck
def mLst (f : FA) : FE := fun e vh => bnd (f e vh) fun ws vh1 => opt (datas ws) fun ds => if ds.length ≤ sizeLine then .ok (.d (.lst ds)) vh1 else .stuck
/-- a list that will change -/
def mLstM (f : FA) : FE := fun e vh => bnd (f e vh) fun ws vh1 => opt (datas ws) fun ds => if ds.length ≤ sizeLine then .ok (.ref vh1.length) (vh1 ++ [.lst ds]) else .stuck
/-- a builtin's call -/
def mBlt (g : List D → Option D) (f : FA) : FE := fun e vh => bnd (f e vh) fun ws vh1 => opt (sees vh1 ws) fun ds => opt (g ds) fun z => .ok (.d z) vh1

section
variable {c : Cn} {X : Cx} {U : WX} {a b d : Expr} {es : List Expr} {pos p : Pos}
theorem me_var (i : Nat) {x : Str} (hN : X.N[i]? = some x := by rfl) (hv : Vis X.env.scope x := by first | exact Or.inl rfl | exact Or.inr (Or.inl rfl) | exact Or.inr (Or.inr rfl)) (hd : (x == ("__debug__" : Str)) = false := by decide)
    (hcd : (x == ("__classdict__" : Str)) = false := by decide) : PE X (.Name x pos) (tM c U (mVar i)) := by
  refine pe_imp (pe_var hN hv hd hcd) fun σ H Q ⟨e, ρ, vh, he, hh, h⟩ => ?_
  unfold mVar at h
  cases q : e[i]? with
  | none => rw [q] at h; exact h.elim
  | some o => cases o with
    | none => rw [q] at h; exact h.elim
    | some w =>
      rw [q] at h
      obtain ⟨v, e1, r⟩ := he.get q
      exact ⟨v, e1, h.here hh v r⟩
theorem me_const {d : D} {v : V} (h : PE X a (tC v)) (r : ∀ H ρ, RelD c H ρ d v) : PE X a (tM c U (mC d)) := pe_imp h fun σ H Q ⟨e, ρ, vh, he, hh, h⟩ => h.here hh v (r H ρ)
theorem me_int {i : Int} {j : Nat} : PE X (.Constant (.int i) j pos) (tM c U (mC (.int i))) := me_const pe_int fun _ _ => rfl
theorem me_bl {b : Bool} {j : Nat} : PE X (.Constant (.bool b) j pos) (tM c U (mC (.bl b))) := me_const pe_bl fun _ _ => rfl
theorem me_non {j : Nat} : PE X (.Constant .none j pos) (tM c U (mC .non)) := me_const pe_non fun _ _ => rfl
theorem me_str {x : Str} {j : Nat} (hl : (decide (x.length ≤ sizeLine) && PyData.strOk x) = true := by decide +kernel) : PE X (.Constant (.str x) j pos) (tM c U (mC (.str x))) := me_const pe_str fun _ _ => by
  rw [Bool.and_eq_true, decide_eq_true_eq] at hl
  exact ⟨rfl, hl⟩
/-- a constant of the module -/
theorem me_glob {x : Str} {u : Value} {d : D} {v : V} (hg : Gl X x) (hm : X.mg x = some u) (r : RelV v u) (rd : ∀ H ρ, RelD c H ρ d v) (hdb : (x == ("__debug__" : Str)) = false := by decide) : PE X (.Name x pos) (tM c U (mC d)) := me_const (pe_glob hg hm r hdb) rd

section
variable {σ : L2.St} {H : Hp} {ρ : Rho} {vh : VH} {e : Env}
theorem RelH.fr (h : RelH c H ρ vh) : Fresh c H ρ := fun _ hp => h.fresh hp
theorem fin2 {r : R2} {g : D → D → Option D} (hd : OpD c r g) {w1 w2 : W} {v1 v2 : V} {Q : VK} (rh : RelH c H ρ vh) (r1 : RelW c H ρ w1 v1) (r2 : RelW c H ρ w2 v2)
    (h : Out c σ H ρ U (opt (see vh w1) fun x => opt (see vh w2) fun y => opt (g x y) fun z => .ok (.d z) vh) (KW c Q)) : r v1 v2 H Q := by
  obtain ⟨x, e1, h⟩ := opt_out h
  obtain ⟨y, e2, h⟩ := opt_out h
  obtain ⟨z, e3, h⟩ := opt_out h
  exact hd H ρ x y v1 v2 z Q rh.fr (see_ok rh r1 e1) (see_ok rh r2 e2) e3 (pure_out rh h)
theorem op_use {fa fb : FE} {r : R2} {g : D → D → Option D} (hd : OpD c r g) {Q : VK} (h : tM c U (mOp g fa fb) σ H Q) : tOp r (tM c U fa) (tM c U fb) σ H Q := by
  obtain ⟨e, ρ, vh, he, hh, h⟩ := h
  refine (use he hh h).mono fun v1 H1 ⟨w1, vh1, ρ1, r1, A, g1, f1⟩ => ?_
  refine (use A.re A.rh A.out).mono fun v2 H2 ⟨w2, vh2, ρ2, r2, B, g2, f2⟩ => ?_
  exact fin2 hd B.rh (r1.stay g2 f2) r2 B.out
end
theorem me_op {op : Operator} {r : R2} {g : D → D → Option D} {fa fb : FE} (ho : OpR X (binaryOp op) r) (hd : OpD c r g) (ha : PE X a (tM c U fa)) (hb : PE X b (tM c U fb)) : PE X (.BinOp a op b pos) (tM c U (mOp g fa fb)) :=
  pe_imp (pe_op ho ha hb) fun σ H Q h => op_use hd h
theorem me_cmp {op : CmpOp} {r : R2} {g : D → D → Option D} {fa fb : FE} (ho : OpR X (compareOp op) r) (hd : OpD c r g) (ha : PE X a (tM c U fa)) (hb : PE X b (tM c U fb)) (hm : behindInMarks op b = false) : PE X (.Compare a [op] [b] pos) (tM c U (mOp g fa fb)) :=
  pe_imp (pe_cmpR ho ha hb hm) fun σ H Q h => op_use hd h
theorem test_use {f : FE} {σ : L2.St} {H : Hp} {Q : Bool → Hp → Prop} (h : tMT c U (mTest f) σ H Q) : tM c U f σ H fun x H' => ∃ k, x = .bl k ∧ Q k H' := by
  obtain ⟨e, ρ, vh, he, hh, h⟩ := h
  refine (use he hh h).mono fun v1 H1 ⟨w1, vh1, ρ1, r1, A, g1, f1⟩ => ?_
  have o := A.out
  unfold isB at o
  split at o
  · exact ⟨_, r1, o.here A.rh⟩
  · exact o.elim
theorem mt_cmp {op : CmpOp} {r : R2} {g : D → D → Option D} {fa fb : FE} (ho : OpR X (compareOp op) r) (hd : OpD c r g) (ha : PE X a (tM c U fa)) (hb : PE X b (tM c U fb)) (hm : behindInMarks op b = false) : PT X (.Compare a [op] [b] pos) (tMT c U (mTest (mOp g fa fb))) :=
  pt_imp (pt_cmpR ho ha hb hm) fun σ H Q h => op_use hd (test_use h)
theorem chain_use {fa fb fc : FE} {r r' : R2} {g g' : D → D → Option D} (hd : OpD c r g) (hd' : OpD c r' g') {σ : L2.St} {H : Hp} {Q : VK} (h : tM c U (mChain g g' fa fb fc) σ H Q) : tChain r r' (tM c U fa) (tM c U fb) (tM c U fc) σ H Q := by
  obtain ⟨e, ρ, vh, he, hh, h⟩ := h
  refine (use he hh h).mono fun v1 H1 ⟨w1, vh1, ρ1, r1, A, g1, f1⟩ => ?_
  refine (use A.re A.rh A.out).mono fun v2 H2 ⟨w2, vh2, ρ2, r2, B, g2, f2⟩ => ?_
  obtain ⟨x, e1, o⟩ := opt_out B.out
  obtain ⟨y, e2, o⟩ := opt_out o
  obtain ⟨z, e3, o⟩ := opt_out o
  refine hd H2 ρ2 x y v1 v2 z _ B.rh.fr (see_ok B.rh (r1.stay g2 f2) e1) (see_ok B.rh r2 e2) e3 fun v' H' s rz => ?_
  cases z with
  | bl k =>
    refine ⟨k, rz, ?_⟩
    have gs : Grow ρ2 H2 ρ2 := Grow.refl _ _
    cases k with
    | true =>
      refine iteT ?_
      refine (use (B.re.stay gs (Fm.same s)) (B.rh.same s) (o.later gs (Fm.same s))).mono fun v3 H3 ⟨w3, vh3, ρ3, r3, C, g3, f3⟩ => ?_
      exact fin2 hd' C.rh ((r2.stay gs (Fm.same s)).stay g3 f3) r3 C.out
    | false =>
      refine iteF ?_
      exact pure_out B.rh o _ _ s rfl
  | _ => exact o.elim
theorem me_chain {op op' : CmpOp} {r r' : R2} {g g' : D → D → Option D} {fa fb fc : FE} (ho : OpR X (compareOp op) r) (hd : OpD c r g) (ho' : OpR X (compareOp op') r') (hd' : OpD c r' g') (ha : PE X a (tM c U fa)) (hb : PE X b (tM c U fb)) (hc : PE X d (tM c U fc)) (hm : lastMarks [op, op'] [b, d] = false := by rfl) :
    PE X (.Compare a [op, op'] [b, d] pos) (tM c U (mChain g g' fa fb fc)) := pe_imp (pe_chain ho ho' ha hb hc hm) fun σ H Q h => chain_use hd hd' h
theorem mt_chain {op op' : CmpOp} {r r' : R2} {g g' : D → D → Option D} {fa fb fc : FE} (ho : OpR X (compareOp op) r) (hd : OpD c r g) (ho' : OpR X (compareOp op') r') (hd' : OpD c r' g') (ha : PE X a (tM c U fa)) (hb : PE X b (tM c U fb)) (hc : PE X d (tM c U fc)) (hm : lastMarks [op, op'] [b, d] = false := by rfl) :
    PT X (.Compare a [op, op'] [b, d] pos) (tMT c U (mTest (mChain g g' fa fb fc))) := pt_imp (pt_chain ho ho' ha hb hc hm) fun σ H Q h => chain_use hd hd' (test_use h)
/-- a bool's value as a test -/
theorem mt_val {f : FE} (h : PE X a (tM c U f)) (he : ∀ whole, isTrue a X.env whole = (do let v ← whole; standAt a.pos; holding [v] (truthy v)) := by intro _; rfl) : PT X a (tMT c U (mTest f)) :=
  pt_imp (pt_val h he) fun σ H Q h => test_use h
theorem mt_not {f : FT} (h : PT X a (tMT c U f)) : PT X (.UnaryOp .Not a pos) (tMT c U (mNotT f)) := pt_imp (pt_not h) fun σ H Q ⟨e, ρ, vh, he, hh, h⟩ =>
  (useT he hh h).mono fun b H1 ⟨vh1, ρ1, A, _, _⟩ => A.out.here A.rh
theorem mw_and1 {f : FT} (h : PT X a (tMT c U f)) : PW X (.BoolOp .And [a] pos) (tMT c U f) := pw_and1 h
theorem mw_or1 {f : FT} (h : PT X a (tMT c U f)) : PW X (.BoolOp .Or [a] pos) (tMT c U f) := pw_or1 h
theorem mw_and {f g : FT} (ha : PT X a (tMT c U f)) (hb : PW X (.BoolOp .And (b :: es) pos) (tMT c U g)) : PW X (.BoolOp .And (a :: b :: es) pos) (tMT c U (mAndT f g)) := pw_imp (pw_and ha hb) fun σ H Q ⟨e, ρ, vh, he, hh, h⟩ =>
  (useT he hh h).mono fun b H1 ⟨vh1, ρ1, A, _, _⟩ => by
    have o := A.out
    cases b with
    | true => exact iteT ⟨e, ρ1, vh1, A.re, A.rh, o⟩
    | false => exact iteF (o.here A.rh)
theorem mw_or {f g : FT} (ha : PT X a (tMT c U f)) (hb : PW X (.BoolOp .Or (b :: es) pos) (tMT c U g)) : PW X (.BoolOp .Or (a :: b :: es) pos) (tMT c U (mOrT f g)) := pw_imp (pw_or ha hb) fun σ H Q ⟨e, ρ, vh, he, hh, h⟩ =>
  (useT he hh h).mono fun b H1 ⟨vh1, ρ1, A, _, _⟩ => by
    have o := A.out
    cases b with
    | true => exact iteT (o.here A.rh)
    | false => exact iteF ⟨e, ρ1, vh1, A.re, A.rh, o⟩
theorem me_ifExp {t : FT} {f g : FE} (hc : PT X d (tMT c U t)) (ha : PE X a (tM c U f)) (hb : PE X b (tM c U g)) : PE X (.IfExp d a b pos) (tM c U (mIf t f g)) := pe_imp (pe_ifExp hc ha hb) fun σ H Q ⟨e, ρ, vh, he, hh, h⟩ =>
  (useT he hh h).mono fun b H1 ⟨vh1, ρ1, A, _, _⟩ => by
    have o := A.out
    cases b with
    | true => exact iteT ⟨e, ρ1, vh1, A.re, A.rh, o⟩
    | false => exact iteF ⟨e, ρ1, vh1, A.re, A.rh, o⟩
theorem isB_out {w : W} {v : V} {σ : L2.St} {H : Hp} {ρ : Rho} {vh : VH} {β : Type} {k : Bool → VH → Res β} {K : β → VH → Hp → Rho → Prop} (r : RelW c H ρ w v) (h : Out c σ H ρ U (bnd (isB w vh) k) K) : ∃ b, v = .bl b ∧ Out c σ H ρ U (k b vh) K := by
  unfold isB at h
  split at h
  · exact ⟨_, r, h⟩
  · exact h.elim
theorem me_one {op : BoolOp} {f : FE} (h : PE X a (tM c U f)) : PE X (.BoolOp op [a] pos) (tM c U f) := pe_one h
theorem me_and {f g : FE} (ha : PE X a (tM c U f)) (hb : PE X (.BoolOp .And (b :: es) pos) (tM c U g)) : PE X (.BoolOp .And (a :: b :: es) pos) (tM c U (mAnd f g)) := pe_imp (pe_and ha hb) fun σ H Q ⟨e, ρ, vh, he, hh, h⟩ =>
  (use he hh h).mono fun v H1 ⟨w1, vh1, ρ1, r1, A, _, _⟩ => by
    obtain ⟨b, rfl, o⟩ := isB_out r1 A.out
    refine ⟨b, rfl, ?_⟩
    cases b with
    | true => exact iteT ⟨e, ρ1, vh1, A.re, A.rh, o⟩
    | false => exact iteF (o.here A.rh _ rfl)
theorem me_or {f g : FE} (ha : PE X a (tM c U f)) (hb : PE X (.BoolOp .Or (b :: es) pos) (tM c U g)) : PE X (.BoolOp .Or (a :: b :: es) pos) (tM c U (mOr f g)) := pe_imp (pe_or ha hb) fun σ H Q ⟨e, ρ, vh, he, hh, h⟩ =>
  (use he hh h).mono fun v H1 ⟨w1, vh1, ρ1, r1, A, _, _⟩ => by
    obtain ⟨b, rfl, o⟩ := isB_out r1 A.out
    refine ⟨b, rfl, ?_⟩
    cases b with
    | true => exact iteT (o.here A.rh _ rfl)
    | false => exact iteF ⟨e, ρ1, vh1, A.re, A.rh, o⟩
theorem me_not {f : FE} (ha : PE X a (tM c U f)) : PE X (.UnaryOp .Not a pos) (tM c U (mNot f)) := pe_imp (pe_not ha) fun σ H Q ⟨e, ρ, vh, he, hh, h⟩ =>
  (use he hh h).mono fun v H1 ⟨w1, vh1, ρ1, r1, A, _, _⟩ => by
    obtain ⟨b, rfl, o⟩ := isB_out r1 A.out
    exact ⟨b, rfl, o.here A.rh _ rfl⟩
theorem ma_nil : PA X [] (tMA c U mNil) := pa_imp pa_nil fun σ H Q ⟨e, ρ, vh, he, hh, h⟩ => h.here hh [] trivial
theorem ma_cons {f : FE} {g : FA} (ha : PE X a (tM c U f)) (hr : PA X es (tMA c U g)) (hs : starEach (a :: es) X.env = (false, eval a X.env) :: starEach es X.env := by rfl) : PA X (a :: es) (tMA c U (mCons f g)) :=
  pa_imp (pa_cons ha hr hs) fun σ H Q ⟨e, ρ, vh, he, hh, h⟩ =>
  (use he hh h).mono fun v H1 ⟨w1, vh1, ρ1, r1, A, _, _⟩ =>
    (useA A.re A.rh A.out).mono fun vs H2 ⟨ws, vh2, ρ2, rs, B, g2, f2⟩ => B.out.here B.rh (v :: vs) ⟨r1.stay g2 f2, rs⟩
theorem datas_ok {H : Hp} {ρ : Rho} : ∀ {ws : List W} {vs : List V} {ds : List D}, RelWs c H ρ ws vs → datas ws = some ds → RelDs c H ρ ds vs
  | [], [], ds, _, q => by cases q; trivial
  | .d x :: ws, v :: vs, ds, ⟨r, t⟩, q => by
    unfold datas at q
    split at q
    · rename_i xs hx
      cases q
      exact ⟨r, datas_ok t hx⟩
    · cases q
  | .ref _ :: _, _ :: _, _, _, q => by cases q
theorem sees_ok {H : Hp} {ρ : Rho} {vh : VH} (hh : RelH c H ρ vh) : ∀ {ws : List W} {vs : List V} {ds : List D}, RelWs c H ρ ws vs → sees vh ws = some ds → RelRs c H ρ ds vs
  | [], [], ds, _, q => by cases q; trivial
  | w :: ws, v :: vs, ds, ⟨r, t⟩, q => by
    unfold sees at q
    split at q
    · rename_i x xs h1 h2
      cases q
      exact ⟨see_ok hh r h1, sees_ok hh t h2⟩
    · cases q
theorem me_tup {x1 : Nat} {f : FA} (h : PA X es (tMA c U f)) : PE X (.Tuple es x1 pos) (tM c U (mTup f)) := pe_imp (pe_tup h) fun σ H Q ⟨e, ρ, vh, he, hh, h⟩ =>
  (useA he hh h).mono fun vs H1 ⟨ws, vh1, ρ1, rs, A, _, _⟩ => by
    obtain ⟨ds, e1, o⟩ := opt_out A.out
    have rd := datas_ok rs e1
    split at o
    · rename_i hl
      refine ⟨by rw [← rd.length]; exact hl, fun p hp => ?_⟩
      have s := same_upd (o := .tup vs) hp
      exact pure_out A.rh o _ _ s ⟨p, vs, rfl, A.rh.fresh hp, upd_same, hl, rd.stay (Grow.refl _ _) (Fm.same s)⟩
    · exact o.elim
theorem me_lst {f : FA} (h : PA X es (tMA c U f)) : PE X (.List es pos) (tM c U (mLst f)) := pe_imp (pe_lst h) fun σ H Q ⟨e, ρ, vh, he, hh, h⟩ =>
  (useA he hh h).mono fun vs H1 ⟨ws, vh1, ρ1, rs, A, _, _⟩ => by
    obtain ⟨ds, e1, o⟩ := opt_out A.out
    have rd := datas_ok rs e1
    split at o
    · rename_i hl
      refine ⟨by rw [← rd.length]; exact hl, fun p hp => ?_⟩
      have s := same_upd (o := .lst vs) hp
      exact pure_out A.rh o _ _ s ⟨p, vs, rfl, A.rh.fresh hp, upd_same, hl, rd.stay (Grow.refl _ _) (Fm.same s)⟩
    · exact o.elim
theorem push_lst {H : Hp} {ρ : Rho} {vh : VH} {ds : List D} {vs : List V} {p : Addr} (hh : RelH c H ρ vh) (hp : H p = none) (hl : ds.length ≤ sizeLine) (rd : RelDs c H ρ ds vs) : RelH c (upd H p (.lst vs)) (ρ ++ [some p]) (vh ++ [.lst ds]) :=
  hh.push hp ⟨p, vs, rfl, upd_same, hl, rd.stay (Grow.push hp) (Fm.new hp)⟩
theorem me_lstM {f : FA} (h : PA X es (tMA c U f)) : PE X (.List es pos) (tM c U (mLstM f)) := pe_imp (pe_lst h) fun σ H Q ⟨e, ρ, vh, he, hh, h⟩ =>
  (useA he hh h).mono fun vs H1 ⟨ws, vh1, ρ1, rs, A, _, _⟩ => by
    obtain ⟨ds, e1, o⟩ := opt_out A.out
    have rd := datas_ok rs e1
    split at o
    · rename_i hl
      refine ⟨by rw [← rd.length]; exact hl, fun p hp => ?_⟩
      refine o _ _ (Grow.push hp) (Fm.new hp) (push_lst A.rh hp hl rd) _ ⟨by simp [A.rh.len], fun a ha => ?_⟩
      rw [List.getElem?_append_right (by rw [A.rh.len]; omega), A.rh.len] at ha
      simp at ha; rw [ha]
    · exact o.elim
end
end Mn

namespace Mn
open PySem PySem.Spec PyProof.Rows L2

/-! ### statements -/
inductive RS where
  | nx (e : Env) (h : VH) | rt (w : W) (h : VH) | bk (e : Env) (h : VH) | ct (e : Env) (h : VH) | exn (x : Exn) (e : Env) (h : VH) | stuck
abbrev FS := Env → VH → RS
def OutS (c : Cn) (H : Hp) (ρ : Rho) (X : WX) (r : RS) (D : Ends) : Prop :=
  match r with
  | .nx e vh => ∀ σ' H' ρ', Grow ρ H ρ' → Fm H H' ρ → RelE c H' ρ' e σ' → RelH c H' ρ' vh → D.nx σ' H'
  | .bk e vh => ∀ σ' H' ρ', Grow ρ H ρ' → Fm H H' ρ → RelE c H' ρ' e σ' → RelH c H' ρ' vh → D.bk σ' H'
  | .ct e vh => ∀ σ' H' ρ', Grow ρ H ρ' → Fm H H' ρ → RelE c H' ρ' e σ' → RelH c H' ρ' vh → D.ct σ' H'
  | .rt w vh => ∀ v H' ρ', Grow ρ H ρ' → Fm H H' ρ → RelW c H' ρ' w v → RelH c H' ρ' vh → D.rt v H'
  | .exn x e vh => ∀ cls d σ' H' ρ', Grow ρ H ρ' → Fm H H' ρ → RelX c H' ρ' x cls d → RelE c H' ρ' e σ' → RelH c H' ρ' vh → X cls d σ' H'
  | .stuck => False
def tMS (c : Cn) (X : WX) (f : FS) : TS := fun D σ H => ∃ e ρ vh, RelE c H ρ e σ ∧ RelH c H ρ vh ∧ OutS c H ρ X (f e vh) D
/-- an expression's outcome in a statement -/
def lft {α : Type} (r : Res α) (e : Env) (k : α → VH → RS) : RS := match r with
  | .ok a h => k a h
  | .exn x h => .exn x e h
  | .stuck => .stuck
@[simp] theorem lft_ok {α : Type} (a : α) (h : VH) (e : Env) (k : α → VH → RS) : lft (.ok a h) e k = k a h := rfl
@[simp] theorem lft_exn {α : Type} (x : Exn) (h : VH) (e : Env) (k : α → VH → RS) : lft (.exn x h) e k = .exn x e h := rfl
@[simp] theorem lft_stuck {α : Type} (e : Env) (k : α → VH → RS) : lft .stuck e k = .stuck := rfl
def mSkip : FS := fun e vh => .nx e vh
def mSeq (f g : FS) : FS := fun e vh => match f e vh with
  | .nx e' vh' => g e' vh'
  | r => r
def mSet (i : Nat) (f : FE) : FS := fun e vh => lft (f e vh) e fun w vh' => .nx (e.set i (some w)) vh'
def mDo (f : FE) : FS := fun e vh => lft (f e vh) e fun _ vh' => .nx e vh'
def mRet (f : FE) : FS := fun e vh => lft (f e vh) e fun w vh' => .rt w vh'
def mRetN : FS := fun _ vh => .rt (.d .non) vh
def mIfS (t : FT) (f g : FS) : FS := fun e vh => lft (t e vh) e fun b vh' => if b = true then f e vh' else g e vh'
def mNever : FS := fun _ _ => .stuck
def mBreak : FS := fun e vh => .bk e vh
def mCont : FS := fun e vh => .ct e vh

section
variable {c : Cn} {X : WX} {σ : L2.St} {H H1 : Hp} {ρ ρ1 : Rho} {e : Env} {vh : VH} {α β : Type}
theorem OutS.later {r : RS} {D : Ends} (h : OutS c H ρ X r D) (g : Grow ρ H ρ1) (f : Fm H H1 ρ) : OutS c H1 ρ1 X r D := by
  cases r with
  | nx e vh => exact fun σ' H' ρ' g' f' => h σ' H' ρ' (g.trans f g') (Fm.trans g f f')
  | bk e vh => exact fun σ' H' ρ' g' f' => h σ' H' ρ' (g.trans f g') (Fm.trans g f f')
  | ct e vh => exact fun σ' H' ρ' g' f' => h σ' H' ρ' (g.trans f g') (Fm.trans g f f')
  | rt e vh => exact fun σ' H' ρ' g' f' => h σ' H' ρ' (g.trans f g') (Fm.trans g f f')
  | exn x e vh => exact fun cls d σ' H' ρ' g' f' => h cls d σ' H' ρ' (g.trans f g') (Fm.trans g f f')
  | stuck => exact h
theorem OutS.imp {r : RS} {D D' : Ends} (h : OutS c H ρ X r D) (n : ∀ σ H, D.nx σ H → D'.nx σ H) (b : ∀ σ H, D.bk σ H → D'.bk σ H) (t : ∀ σ H, D.ct σ H → D'.ct σ H) (q : ∀ v H, D.rt v H → D'.rt v H) : OutS c H ρ X r D' := by
  cases r with
  | nx e vh => exact fun σ' H' ρ' g' f' x y => n _ _ (h σ' H' ρ' g' f' x y)
  | bk e vh => exact fun σ' H' ρ' g' f' x y => b _ _ (h σ' H' ρ' g' f' x y)
  | ct e vh => exact fun σ' H' ρ' g' f' x y => t _ _ (h σ' H' ρ' g' f' x y)
  | rt e vh => exact fun σ' H' ρ' g' f' x y => q _ _ (h σ' H' ρ' g' f' x y)
  | exn x e vh => exact h
  | stuck => exact h
theorem OutS.here {D : Ends} (h : OutS c H ρ X (.nx e vh) D) (re : RelE c H ρ e σ) (rh : RelH c H ρ vh) : D.nx σ H := h σ H ρ (Grow.refl _ _) (Fm.refl _ _) re rh
/-- what stands behind a part of a statement -/
structure AftS (c : Cn) (X : WX) (σ : L2.St) (e : Env) (H1 : Hp) (ρ1 : Rho) (vh1 : VH) (r : RS) (D : Ends) : Prop where
  re : RelE c H1 ρ1 e σ
  rh : RelH c H1 ρ1 vh1
  out : OutS c H1 ρ1 X r D
theorem useS {f : FE} {k : W → VH → RS} {D : Ends} (he : RelE c H ρ e σ) (hh : RelH c H ρ vh) (h : OutS c H ρ X (lft (f e vh) e k) D) :
    tM c X f σ H fun v H1 => ∃ w vh1 ρ1, RelW c H1 ρ1 w v ∧ AftS c X σ e H1 ρ1 vh1 (k w vh1) D ∧ Grow ρ H ρ1 ∧ Fm H H1 ρ := by
  refine ⟨e, ρ, vh, he, hh, ?_⟩
  cases q : f e vh with
  | ok w vh' =>
    rw [q] at h
    exact fun H' ρ' g fm rh v rw' => ⟨w, vh', ρ', rw', ⟨he.stay g fm, rh, h.later g fm⟩, g, fm⟩
  | exn x vh' => rw [q] at h; exact fun cls d H' ρ' g fm rx rh => h cls d σ H' ρ' g fm rx (he.stay g fm) rh
  | stuck => rw [q] at h; exact h
theorem useST {f : FT} {k : Bool → VH → RS} {D : Ends} (he : RelE c H ρ e σ) (hh : RelH c H ρ vh) (h : OutS c H ρ X (lft (f e vh) e k) D) :
    tMT c X f σ H fun b H1 => ∃ vh1 ρ1, AftS c X σ e H1 ρ1 vh1 (k b vh1) D ∧ Grow ρ H ρ1 ∧ Fm H H1 ρ := by
  refine ⟨e, ρ, vh, he, hh, ?_⟩
  cases q : f e vh with
  | ok w vh' =>
    rw [q] at h
    exact fun H' ρ' g fm rh => ⟨vh', ρ', ⟨he.stay g fm, rh, h.later g fm⟩, g, fm⟩
  | exn x vh' => rw [q] at h; exact fun cls d H' ρ' g fm rx rh => h cls d σ H' ρ' g fm rx (he.stay g fm) rh
  | stuck => rw [q] at h; exact h
theorem useSA {f : FA} {k : List W → VH → RS} {D : Ends} (he : RelE c H ρ e σ) (hh : RelH c H ρ vh) (h : OutS c H ρ X (lft (f e vh) e k) D) :
    tMA c X f σ H fun vs H1 => ∃ ws vh1 ρ1, RelWs c H1 ρ1 ws vs ∧ AftS c X σ e H1 ρ1 vh1 (k ws vh1) D ∧ Grow ρ H ρ1 ∧ Fm H H1 ρ := by
  refine ⟨e, ρ, vh, he, hh, ?_⟩
  cases q : f e vh with
  | ok w vh' =>
    rw [q] at h
    exact fun H' ρ' g fm rh vs rw' => ⟨w, vh', ρ', rw', ⟨he.stay g fm, rh, h.later g fm⟩, g, fm⟩
  | exn x vh' => rw [q] at h; exact fun cls d H' ρ' g fm rx rh => h cls d σ H' ρ' g fm rx (he.stay g fm) rh
  | stuck => rw [q] at h; exact h
end

section
variable {c : Cn} {X : Cx} {U : WX} {a b d : Expr} {es : List Expr} {st : Stmt} {sts : List Stmt} {pos p : Pos}
theorem mss_nil : PSs X [] (tMS c U mSkip) := pss_imp pss_nil fun D σ H ⟨e, ρ, vh, he, hh, h⟩ => h.here he hh
theorem mss_cons {f g : FS} (h1 : PS X st (tMS c U f)) (h2 : PSs X sts (tMS c U g)) : PSs X (st :: sts) (tMS c U (mSeq f g)) := pss_imp (pss_cons h1 h2) fun D σ H ⟨e, ρ, vh, he, hh, h⟩ => by
  refine ⟨e, ρ, vh, he, hh, ?_⟩
  unfold mSeq at h
  cases q : f e vh with
  | nx e' vh' => rw [q] at h; exact fun σ' H' ρ' g' f' x y => ⟨e', ρ', vh', x, y, h.later g' f'⟩
  | bk e' vh' => rw [q] at h; exact h
  | ct e' vh' => rw [q] at h; exact h
  | rt e' vh' => rw [q] at h; exact h
  | exn x e' vh' => rw [q] at h; exact h
  | stuck => rw [q] at h; exact h
theorem mss_one {f : FS} (h : PS X st (tMS c U f)) : PSs X [st] (tMS c U f) := pss_one h
theorem ms_set (i : Nat) {x : Str} {f : FE} {pos' : Pos} (hN : X.N.Nodup) (ha : PE X a (tM c U f)) (hi : X.N[i]? = some x := by rfl) (hx : Loc X.env.scope x := by first | exact Or.inl rfl | exact Or.inr rfl)
    (hs : swapsWith a (some (.Name x pos')) pos.line X.env = pure false := by rfl) (hf : X.fn x = true ∨ X.env.scope.names.lookup x = some .local := by first | exact .inl rfl | exact .inr rfl) : PS X (.Assign [.Name x pos'] a pos) (tMS c U (mSet i f)) :=
  ps_imp (ps_set hN hi hx ha hs hf) fun D σ H ⟨e, ρ, vh, he, hh, h⟩ => (useS he hh h).mono fun v H1 ⟨w, vh1, ρ1, r, A, _, _⟩ => A.out.here (A.re.set r) A.rh
theorem ms_expr {f : FE} (ha : PE X a (tM c U f)) (hs : swapsWith a none pos.line X.env = pure false := by rfl) : PS X (.Expr a pos) (tMS c U (mDo f)) :=
  ps_imp (ps_expr ha hs) fun D σ H ⟨e, ρ, vh, he, hh, h⟩ => (useS he hh h).mono fun v H1 ⟨w, vh1, ρ1, r, A, _, _⟩ => A.out.here A.re A.rh
theorem ms_ret {f : FE} (ha : PE X a (tM c U f)) : PS X (.Return (some a) pos) (tMS c U (mRet f)) :=
  ps_imp (ps_ret ha) fun D σ H ⟨e, ρ, vh, he, hh, h⟩ => (useS he hh h).mono fun v H1 ⟨w, vh1, ρ1, r, A, _, _⟩ => A.out v H1 ρ1 (Grow.refl _ _) (Fm.refl _ _) r A.rh
theorem ms_retN : PS X (.Return none pos) (tMS c U mRetN) := ps_imp ps_retN fun D σ H ⟨e, ρ, vh, he, hh, h⟩ => h .non H ρ (Grow.refl _ _) (Fm.refl _ _) rfl hh
theorem ms_if {t : FT} {f g : FS} {A B : List Stmt} (hc : PT X d (tMT c U t)) (ha : PSs X A (tMS c U f)) (hb : PSs X B (tMS c U g)) : PS X (.If d A B pos) (tMS c U (mIfS t f g)) :=
  ps_imp (ps_if hc ha hb) fun D σ H ⟨e, ρ, vh, he, hh, h⟩ => (useST he hh h).mono fun b H1 ⟨vh1, ρ1, A, _, _⟩ => by
    have o := A.out
    cases b with
    | true => exact iteT ⟨e, ρ1, vh1, A.re, A.rh, o⟩
    | false => exact iteF ⟨e, ρ1, vh1, A.re, A.rh, o⟩
theorem ms_pass : PS X (.Pass pos) (tMS c U mSkip) := ps_imp ps_pass fun D σ H ⟨e, ρ, vh, he, hh, h⟩ => h.here he hh
theorem ms_break : PS X (.Break pos) (tMS c U mBreak) := ps_imp ps_break fun D σ H ⟨e, ρ, vh, he, hh, h⟩ => h σ H ρ (Grow.refl _ _) (Fm.refl _ _) he hh
theorem ms_continue : PS X (.Continue pos) (tMS c U mCont) := ps_imp ps_continue fun D σ H ⟨e, ρ, vh, he, hh, h⟩ => h σ H ρ (Grow.refl _ _) (Fm.refl _ _) he hh
theorem ms_never : PS X st (tMS c U mNever) := ps_imp ps_never fun D σ H ⟨e, ρ, vh, he, hh, h⟩ => h
theorem mss_never : PSs X sts (tMS c U mNever) := pss_imp pss_never fun D σ H ⟨e, ρ, vh, he, hh, h⟩ => h
theorem me_never : PE X a (tM c U fun _ _ => .stuck) := ⟨fun _ _ _ _ _ _ ⟨e, ρ, vh, he, hh, h⟩ => h.elim⟩
end

/-! ### defs -/
abbrev FN := List W → VH → Res W
def entry (np nn : Nat) (ws : List W) : Env := ws.map some ++ List.replicate (nn - np) none
def mFn (np nn : Nat) (f : FS) : FN := fun ws vh => if ws.length = np then match f (entry np nn ws) vh with
  | .nx _ vh' => .ok (.d .non) vh'
  | .rt w vh' => .ok w vh'
  | .exn x _ vh' => .exn x vh'
  | _ => .stuck else .stuck
def spM (K : PySem.W.Frag) (mg : Str → Option Value) (F : FN) : Sp := fun vs H Q E => ∃ c : Cn, c.K = K ∧ c.mg = mg ∧ ∃ ws ρ vh, RelWs c H ρ ws vs ∧ RelH c H ρ vh ∧ Out c [] H ρ (fun cls d _ H' => E cls d H') (F ws vh) (KW c Q)
theorem entry_rel {c : Cn} {H : Hp} {ρ : Rho} {np : Nat} {N : List Str} : ∀ {ws : List W} {vs : List V}, RelWs c H ρ ws vs → RelE c H ρ (ws.map some ++ List.replicate (N.length - vs.length) none) (L2.start N vs) := by
  intro ws vs h
  unfold L2.start
  generalize N.length - vs.length = k
  induction ws generalizing vs with
  | nil => cases vs with
    | nil =>
      simp only [List.map_nil, List.nil_append]
      induction k with
      | zero => trivial
      | succ k ih => exact ih
    | cons _ _ => exact h.elim
  | cons w ws ih => cases vs with
    | nil => exact h.elim
    | cons v vs => exact ⟨h.1, ih h.2⟩
theorem FnOk.m {P : Program} {w : World} {K : PySem.W.Frag} {mg : Str → Option Value} {base : Heap} {x qual : Str} {st : Stmt} {f : Addr} {fd : FuncData} {N ps : List Str} {k : Nat} {g : FS} (F : Fun K x qual st f fd) (S : FnScope N ps (defScope st))
    (hbody : ∀ (cdv : Value) (A : Around) (outer : List PySem.Env) (s : Shared) (H : Hp) (E : XK), Room k (A.deeper (envOfC qual (defScope st) s.heap.objs.size f cdv)) → Takes (cxOf (L2.CX P w) P w K mg base N qual (defScope st) f cdv A outer s H E) (fun cls d _ H => E cls d H) →
      ∀ hid, PSs (cxOf (L2.CX P w) P w K mg base N qual (defScope st) f cdv A outer s H E) (defBody st) (tMS ⟨K, mg, hid⟩ (fun cls d _ H => E cls d H) g)) : FnOk P w K mg base (L2.CX P w) (k + 1) f fd ps (spM K mg (mFn ps.length N.length g)) := by
  refine F.okX S (fun vs H Q E ⟨c, hk, hm, ws, ρ, vh, rs, hh, h⟩ => ?_) fun cdv A outer s H vs Q E hr h => ?_
  · unfold mFn at h
    split at h
    · rename_i e; rw [← rs.length, e]
    · exact h.elim
  · obtain ⟨⟨K', mg', hid⟩, rfl, rfl, ws, ρ, vh, rs, hh, h⟩ := h
    refine ⟨_, hbody cdv A outer s H E hr (takes_of rfl rfl rfl rfl) hid, ?_⟩
    unfold mFn at h
    split at h
    · rename_i e
      refine ⟨_, ρ, vh, entry_rel (np := ps.length) rs, hh, ?_⟩
      have e2 : entry ps.length N.length ws = ws.map some ++ List.replicate (N.length - vs.length) none := by unfold entry; rw [← rs.length, e]
      rw [← e2]
      cases q : g (entry ps.length N.length ws) vh with
      | nx e' vh' => rw [q] at h; exact fun σ' H' ρ' g' f' x y => h H' ρ' g' f' y .non rfl
      | bk e' vh' => rw [q] at h; exact h.elim
      | ct e' vh' => rw [q] at h; exact h.elim
      | rt w vh' => rw [q] at h; exact fun v H' ρ' g' f' x y => h H' ρ' g' f' y v x
      | exn x e' vh' => rw [q] at h; exact fun cls d σ' H' ρ' g' f' x y z => h cls d H' ρ' g' f' x z
      | stuck => rw [q] at h; exact h.elim
    · exact h.elim

/-! ### shutting: what is handed back is frozen, what was made is dropped -/
def okRef (n : Nat) : VO → Bool
  | .ins _ fs => fs.all fun f => match f.2 with
    | .ref k => decide (k < n)
    | .d _ => true
  | _ => true
def tame (n : Nat) (vh : VH) : Bool := (vh.take n).all (okRef n)
def froz (n : Nat) (vh : VH) : W → Option W
  | .d x => some (.d x)
  | .ref k => if k < n then some (.ref k) else match vh[k]? with
    | some (.lst ds) => some (.d (.lst ds))
    | some (.dic t kvs) => some (.d (.dic t kvs))
    | _ => none
def mShut (F : FN) : FN := fun ws vh => match F ws vh with
  | .ok w vh' => if vh.length ≤ vh'.length ∧ tame vh.length vh' = true then opt (froz vh.length vh' w) fun z => .ok z (vh'.take vh.length) else .stuck
  | .exn x vh' => if vh.length ≤ vh'.length ∧ tame vh.length vh' = true then .exn x (vh'.take vh.length) else .stuck
  | .stuck => .stuck

section
variable {c : Cn} {H : Hp} {ρ ρ2 : Rho}
theorem LOk.less (s : ∀ a, some a ∈ ρ2 → some a ∈ ρ) {a : Addr} {xs : List V} (h : LOk c H ρ a xs) : LOk c H ρ2 a xs := h.elim (fun z => .inl ⟨⟨fun y => z.1.1 (s _ y), z.1.2⟩, z.2⟩) .inr
mutual
theorem RelD.less (s : ∀ a, some a ∈ ρ2 → some a ∈ ρ) : ∀ {x : D} {v : V}, RelD c H ρ x v → RelD c H ρ2 x v
  | .non, _, h => h
  | .bl _, _, h => h
  | .int _, _, h => h
  | .str _, _, h => h
  | .tup _, _, ⟨a, xs, e, n, hH, l, r⟩ => ⟨a, xs, e, ⟨fun y => n.1 (s _ y), n.2⟩, hH, l, RelDs.less s r⟩
  | .ctp _, _, ⟨a, xs, e, t, l, r⟩ => ⟨a, xs, e, t, l, RelDs.less s r⟩
  | .lst _, _, ⟨a, xs, e, n, hH, l, r⟩ => ⟨a, xs, e, ⟨fun y => n.1 (s _ y), n.2⟩, hH, l, RelDs.less s r⟩
  | .frz _, _, ⟨a, xs, e, t, l, r⟩ => ⟨a, xs, e, t.less s, l, RelDs.less s r⟩
  | .dic _ _, _, ⟨a, xs, e, n, hH, r⟩ => ⟨a, xs, e, ⟨fun y => n.1 (s _ y), n.2⟩, hH, RelDv.less s r⟩
  | .ins _ _, _, ⟨a, C, dx, xs, e, n, hm, hH, r⟩ => ⟨a, C, dx, xs, e, ⟨fun y => n.1 (s _ y), n.2⟩, hm, hH, RelDf.less s r⟩
  | .ty _, _, h => h
  | .cls _, _, h => h
theorem RelDs.less (s : ∀ a, some a ∈ ρ2 → some a ∈ ρ) : ∀ {xs : List D} {vs : List V}, RelDs c H ρ xs vs → RelDs c H ρ2 xs vs
  | [], [], h => trivial
  | _ :: _, _ :: _, ⟨h, t⟩ => ⟨RelD.less s h, RelDs.less s t⟩
theorem RelDv.less (s : ∀ a, some a ∈ ρ2 → some a ∈ ρ) : ∀ {xs : List (D × D)} {vs : List V}, RelDv c H ρ xs vs → RelDv c H ρ2 xs vs
  | [], [], h => trivial
  | (_, _) :: _, _ :: _, ⟨h, t⟩ => ⟨RelD.less s h, RelDv.less s t⟩
theorem RelDf.less (s : ∀ a, some a ∈ ρ2 → some a ∈ ρ) : ∀ {xs : List (Str × D)} {vs : List V}, RelDf c H ρ xs vs → RelDf c H ρ2 xs vs
  | [], [], h => trivial
  | (_, _) :: _, _ :: _, ⟨h, t⟩ => ⟨RelD.less s h, RelDf.less s t⟩
end
theorem take_sub {n : Nat} : ∀ a, some a ∈ ρ.take n → some a ∈ ρ := fun a h => List.mem_of_mem_take h
theorem RelWf.take {n : Nat} (hn : n ≤ ρ.length) : ∀ {fs : List (Str × W)} {xs : List V}, (fs.all fun f => match f.2 with | .ref k => decide (k < n) | .d _ => true) = true → RelWf c H ρ fs xs → RelWf c H (ρ.take n) fs xs
  | [], [], _, _ => trivial
  | (_, .d x) :: fs, v :: xs, h, ⟨r, t⟩ => ⟨RelD.less take_sub r, RelWf.take hn (by simpa using h) t⟩
  | (_, .ref k) :: fs, v :: xs, h, ⟨⟨r1, r2⟩, t⟩ => by
    rw [List.all_cons, Bool.and_eq_true] at h
    have hk : k < n := by simpa using h.1
    exact ⟨⟨by rw [List.length_take]; omega, fun a ha => r2 a (by rwa [List.getElem?_take_of_lt hk] at ha)⟩, RelWf.take hn h.2 t⟩
theorem RelO.take {n : Nat} (hn : n ≤ ρ.length) {vo : VO} {o : Option Addr} (k : okRef n vo = true) (h : RelO c H ρ vo o) : RelO c H (ρ.take n) vo o := by
  cases vo with
  | dead => exact h
  | lst ds => obtain ⟨a, xs, e, hH, l, r⟩ := h; exact ⟨a, xs, e, hH, l, r.less take_sub⟩
  | dic t kvs => obtain ⟨a, xs, e, hH, r⟩ := h; exact ⟨a, xs, e, hH, r.less take_sub⟩
  | ins n fs => obtain ⟨a, C, dx, xs, e, hm, hH, r⟩ := h; exact ⟨a, C, dx, xs, e, hm, hH, r.take hn k⟩
theorem RelH.take {n : Nat} {vh : VH} (h : RelH c H ρ vh) (hn : n ≤ vh.length) (k : tame n vh = true) : RelH c H (ρ.take n) (vh.take n) where
  len := by rw [List.length_take, List.length_take, h.len]
  inj := fun i j a hi hj => h.inj i j a (by
    by_cases l : i < n
    · rwa [List.getElem?_take_of_lt l] at hi
    · rw [List.getElem?_take, if_neg l] at hi; cases hi) (by
    by_cases l : j < n
    · rwa [List.getElem?_take_of_lt l] at hj
    · rw [List.getElem?_take, if_neg l] at hj; cases hj)
  at' := fun i vo e => by
    by_cases l : i < n
    · have e' := e
      rw [List.getElem?_take_of_lt l] at e
      obtain ⟨o, ho, r⟩ := h.at' i vo e
      refine ⟨o, by rw [List.getElem?_take_of_lt l]; exact ho, r.take (by rw [h.len]; exact hn) ?_⟩
      exact List.all_eq_true.mp k vo (List.mem_of_getElem? e')
    · rw [List.getElem?_take, if_neg l] at e; cases e
  hid := fun a ha => let ⟨e, n⟩ := h.hid a ha; ⟨e, fun z => n (take_sub a z)⟩
theorem Grow.take {n : Nat} {ρ' : Rho} (g : Grow ρ H ρ') (hn : n = ρ.length) : Grow ρ H (ρ'.take n) where
  len := by have := g.len; rw [List.length_take]; omega
  old := fun i hi => by rw [List.getElem?_take_of_lt (by omega)]; exact g.old i hi
  new := fun a h => g.new a (take_sub a h)
theorem RelDf.less' (s : ∀ a, some a ∈ ρ2 → some a ∈ ρ) {x : Exn} {cls : Value} {d : Option Addr} (h : RelX c H ρ x cls d) : RelX c H ρ2 x cls d := by
  obtain ⟨hm, dd, gs, e, n, hH, r⟩ := h
  exact ⟨hm, dd, gs, e, ⟨fun z => n.1 (s _ z), n.2⟩, hH, r.less s⟩
theorem shut_out {σ : L2.St} {X : WX} {F : FN} {ws : List W} {vh : VH} {Q : VK} (hh : RelH c H ρ vh) (h : Out c σ H ρ X (mShut F ws vh) (KW c Q)) : Out c σ H ρ X (F ws vh) (KW c Q) := by
  unfold mShut at h
  cases q : F ws vh with
  | ok w vh' =>
    simp only [q] at h
    split at h
    · rename_i hk
      obtain ⟨z, hz, h⟩ := opt_out h
      intro H' ρ' g f rh v rw'
      refine h H' (ρ'.take vh.length) (g.take hh.len.symm) f (rh.take hk.1 hk.2) v ?_
      cases w with
      | d x => cases hz; exact RelD.less take_sub rw'
      | ref k =>
        obtain ⟨r1, r2⟩ := rw'
        simp only [froz] at hz
        split at hz
        · rename_i lk
          cases hz
          exact ⟨by rw [List.length_take]; omega, fun a ha => r2 a (by rwa [List.getElem?_take_of_lt lk] at ha)⟩
        · rename_i lk
          have hnot : ∀ a, ρ'[k]? = some (some a) → some a ∉ ρ'.take vh.length := fun a ha hm => by
            obtain ⟨j, hj, e⟩ := List.mem_iff_getElem.mp hm
            have hj' : j < vh.length := by have hj2 := hj; rw [List.length_take] at hj2; omega
            have e2 : ρ'[j]? = some (some a) := by
              rw [← List.getElem?_take_of_lt hj', List.getElem?_eq_getElem hj, e]
            have e3 := rh.inj _ _ _ ha e2
            exact lk (by omega)
          cases qq : vh'[k]? with
          | none => simp only [qq] at hz; cases hz
          | some vo =>
            obtain ⟨o, ho, ro⟩ := rh.at' k vo qq
            simp only [qq] at hz
            cases vo with
            | lst ds =>
              cases hz
              obtain ⟨a, xs, rfl, hH, l, rr⟩ := ro
              exact ⟨a, xs, r2 a ho, ⟨hnot a ho, fun z => (rh.hid a z).2 (List.mem_of_getElem? ho)⟩, hH, l, rr.less take_sub⟩
            | dic t kvs =>
              cases hz
              obtain ⟨a, xs, rfl, hH, rr⟩ := ro
              exact ⟨a, xs, r2 a ho, ⟨hnot a ho, fun z => (rh.hid a z).2 (List.mem_of_getElem? ho)⟩, hH, rr.less take_sub⟩
            | ins _ _ => cases hz
            | dead => cases hz
    · exact h.elim
  | exn x vh' =>
    simp only [q] at h
    split at h
    · rename_i hk
      exact fun cls d H' ρ' g f rx rh => h cls d H' (ρ'.take vh.length) (g.take hh.len.symm) f (RelDf.less' take_sub rx) (rh.take hk.1 hk.2)
    · exact h.elim
  | stuck => simp only [q] at h; exact h
end
theorem spM.shut {K : PySem.W.Frag} {mg : Str → Option Value} {F : FN} : ∀ vs H Q E, spM K mg (mShut F) vs H Q E → spM K mg F vs H Q E := fun vs H Q E ⟨c, hk, hm, ws, ρ, vh, rs, hh, h⟩ => ⟨c, hk, hm, ws, ρ, vh, rs, hh, shut_out hh h⟩
theorem FnOk.shut {P : Program} {w : World} {K : PySem.W.Frag} {mg : Str → Option Value} {base : Heap} {f : Addr} {fd : FuncData} {ps : List Str} {k : Nat} {F : FN} {CX : CXT} (h : FnOk P w K mg base CX k f fd ps (spM K mg F)) : FnOk P w K mg base CX k f fd ps (spM K mg (mShut F)) :=
  h.imp spM.shut
/-- the same function -/
theorem FnOk.eqM {P : Program} {w : World} {K : PySem.W.Frag} {mg : Str → Option Value} {base : Heap} {f : Addr} {fd : FuncData} {ps : List Str} {k : Nat} {F G : FN} {CX : CXT} (h : FnOk P w K mg base CX k f fd ps (spM K mg F)) (e : F = G) : FnOk P w K mg base CX k f fd ps (spM K mg G) := e ▸ h

/-! ### calls -/
def mCall (F : FN) (dws : List W) (fa : FA) : FE := fun e vh => bnd (fa e vh) fun ws vh1 => F (ws ++ dws) vh1
section
variable {c : Cn} {X : Cx} {U : WX} {e : Expr} {es : List Expr} {pos p : Pos} {F : FN} {f : Addr} {fd : FuncData} {ps : List Str} {k : Nat} {x : Str} {ds : List Value} {dvs : List V} {dws : List W} {fa : FA}
theorem RelWs.append {H : Hp} {ρ : Rho} : ∀ {xs ys : List W} {vs us : List V}, RelWs c H ρ xs vs → RelWs c H ρ ys us → RelWs c H ρ (xs ++ ys) (vs ++ us)
  | [], _, [], _, _, s => s
  | _ :: _, _, _ :: _, _, ⟨h, t⟩, s => ⟨h, RelWs.append t s⟩
theorem Out.sigma {α : Type} {σ τ : L2.St} {H : Hp} {ρ : Rho} {E : XK} {r : Res α} {K : α → VH → Hp → Rho → Prop} (h : Out c σ H ρ U r K) (he : ∀ cls d H, U cls d σ H → E cls d H) : Out c τ H ρ (fun cls d _ H' => E cls d H') r K := by
  cases r with
  | ok w vh => exact h
  | exn x vh => exact fun cls d H' ρ' g f rx rh => he _ _ _ (h cls d H' ρ' g f rx rh)
  | stuck => exact h
theorem me_call (hc : c.K = X.K) (hcm : c.mg = X.mg) (G : FnOk X.prog X.w X.K X.mg X.base (L2.CX X.prog X.w) k f fd ps (spM X.K X.mg F)) (hr : Room k X.A) (tk : Takes X U) (hg : Gl X x) (hm : X.mg x = some (.ref f)) (hk : PySem.W.keepIn X.K (.ref f) = true) (hb : Binds X.K fd ps ds) (hd : Vals dvs ds) (hdw : ∀ H ρ, RelWs c H ρ dws dvs)
    (ha : PA X (e :: es) (tMA c U fa)) (hdb : (x == ("__debug__" : Str)) = false := by decide) (he : starEach (e :: es) X.env = (false, eval e X.env) :: starEach es X.env := by rfl) (hpl : (backTo pos (starEach es X.env)).any (·.1) = false := by rfl) :
    PE X (.Call (.Name x p) (e :: es) [] pos) (tM c U (mCall F dws fa)) :=
  pe_imp (pe_callSD G hr hg hm hk hb hd (passAt tk) ha hdb he hpl) fun σ H Q ⟨e, ρ, vh, hE, hh, h⟩ =>
    (useA hE hh h).mono fun vs H1 ⟨ws, vh1, ρ1, rs, A, _, _⟩ => ⟨c, hc, hcm, ws ++ dws, ρ1, vh1, rs.append (hdw _ _), A.rh, A.out.sigma (τ := []) fun _ _ _ h => h⟩
end
end Mn

namespace Mn
open PySem PySem.Spec PyProof.Rows L2

/-! ### data as the library's PyData -/
mutual
def toPy : D → Option PyData
  | .non => some .none
  | .bl b => some (.bool b)
  | .int i => some (.int i)
  | .str x => some (.str x)
  | .tup ds => (toPys ds).map .tuple
  | .ctp ds => (toPys ds).map .tuple
  | .lst ds => (toPys ds).map .list
  | _ => none
def toPys : List D → Option (List PyData)
  | [] => some []
  | d :: ds => match toPy d, toPys ds with
    | some p, some ps => some (p :: ps)
    | _, _ => none
end
section
variable {c : Cn} {H : Hp} {ρ : Rho}
mutual
theorem dp_of : ∀ {x : D} {v : V} {p : PyData}, RelD c H ρ x v → toPy x = some p → Dp c.K H v p ∧ p.canLay0 = true
  | .non, _, _, h, q => by cases h; cases q; exact ⟨.non, rfl⟩
  | .bl _, _, _, h, q => by cases h; cases q; exact ⟨.bl _, rfl⟩
  | .int _, _, _, h, q => by cases h; cases q; exact ⟨.int _, rfl⟩
  | .str _, _, _, ⟨h, _, hs⟩, q => by cases h; cases q; exact ⟨.str _, by simpa [PyData.canLay0] using hs⟩
  | .tup ds, _, p, ⟨a, xs, e, n, hH, l, r⟩, q => by
    simp only [toPy] at q
    obtain ⟨ps, hp, rfl⟩ := Option.map_eq_some_iff.mp q
    subst e
    obtain ⟨h1, h2⟩ := dp_ofs r hp
    exact ⟨.tup (.of hH) h1, by simpa [PyData.canLay0] using h2⟩
  | .ctp ds, _, p, ⟨a, xs, e, t, l, r⟩, q => by
    simp only [toPy] at q
    obtain ⟨ps, hp, rfl⟩ := Option.map_eq_some_iff.mp q
    subst e
    obtain ⟨h1, h2⟩ := dp_ofs r hp
    exact ⟨.tup t.sq h1, by simpa [PyData.canLay0] using h2⟩
  | .lst ds, _, p, ⟨a, xs, e, n, hH, l, r⟩, q => by
    simp only [toPy] at q
    obtain ⟨ps, hp, rfl⟩ := Option.map_eq_some_iff.mp q
    subst e
    obtain ⟨h1, h2⟩ := dp_ofs r hp
    exact ⟨.lst (.of hH) h1, by simpa [PyData.canLay0] using h2⟩
  | .frz _, _, _, _, q => by cases q
  | .dic _ _, _, _, _, q => by cases q
  | .ins _ _, _, _, _, q => by cases q
  | .ty _, _, _, _, q => by cases q
  | .cls _, _, _, _, q => by cases q
theorem dp_ofs : ∀ {xs : List D} {vs : List V} {ps : List PyData}, RelDs c H ρ xs vs → toPys xs = some ps → DpAll c.K H vs ps ∧ PyData.canLayAll0 ps = true
  | [], [], _, _, q => by cases q; exact ⟨.nil, rfl⟩
  | d :: ds, v :: vs, ps, ⟨r, t⟩, q => by
    simp only [toPys] at q
    split at q
    · rename_i p qs h1 h2
      cases q
      obtain ⟨a1, a2⟩ := dp_of r h1
      obtain ⟨b1, b2⟩ := dp_ofs t h2
      exact ⟨.cons a1 b1, by simp [PyData.canLayAll0, a2, b2]⟩
    · cases q
end
theorem dp_r {x : D} {v : V} {p : PyData} (h : RelR c H ρ x v) (q : toPy x = some p) : Dp c.K H v p ∧ p.canLay0 = true := by
  cases x with
  | lst ds =>
    obtain ⟨a, xs, e, hH, l, r⟩ := h
    simp only [toPy] at q
    obtain ⟨ps, hp, rfl⟩ := Option.map_eq_some_iff.mp q
    subst e
    obtain ⟨h1, h2⟩ := dp_ofs r hp
    exact ⟨.lst (.of hH) h1, by simpa [PyData.canLay0] using h2⟩
  | dic _ _ => cases q
  | non => exact dp_of h q
  | bl _ => exact dp_of h q
  | int _ => exact dp_of h q
  | str _ => exact dp_of h q
  | tup _ => exact dp_of h q
  | ctp _ => exact dp_of h q
  | frz _ => exact dp_of h q
  | ins _ _ => exact dp_of h q
  | ty _ => cases q
  | cls _ => cases q
end

/-! ### == and != of data -/
def dEq (x y : D) : Option D := match toPy x, toPy y with
  | some p, some q => if min p.depth q.depth ≤ 60 then some (.bl (PyData.eqv p q)) else none
  | _, _ => none
def dNe (x y : D) : Option D := match toPy x, toPy y with
  | some p, some q => if min p.depth q.depth ≤ 60 then some (.bl (!PyData.eqv p q)) else none
  | _, _ => none
def rEqM (K : PySem.W.Frag) (n : Bool) : R2 := fun x y H Q => ∃ d e, Dp K H x d ∧ Dp K H y e ∧ d.canLay0 = true ∧ e.canLay0 = true ∧ min d.depth e.depth ≤ 60 ∧ Q (.bl (if n then !PyData.eqv d e else PyData.eqv d e)) H
section
variable {X : Cx} {c : Cn} {U : WX}
theorem op_eqM (hu : X.A.units + 64 < cLine) : OpR X (compareOp .Eq) (rEqM X.K false) := by
  intro pins s σ H x y v u Q I rx ry h
  obtain ⟨d, e, hd, he, sd, se, hm, q⟩ := h
  obtain ⟨as, r1⟩ := Dp.reads I d x v hd rx
  obtain ⟨bs, r2⟩ := Dp.reads I e y u he ry
  exact SeqAt.compareEq_reads r1 r2 sd se (by omega) ⟨.bl _, H, I, rfl, q⟩
theorem op_neM (hu : X.A.units + 64 < cLine) : OpR X (compareOp .NotEq) (rEqM X.K true) := by
  intro pins s σ H x y v u Q I rx ry h
  obtain ⟨d, e, hd, he, sd, se, hm, q⟩ := h
  obtain ⟨as, r1⟩ := Dp.reads I d x v hd rx
  obtain ⟨bs, r2⟩ := Dp.reads I e y u he ry
  exact SeqAt.compareNe_reads r1 r2 sd se (by omega) ⟨.bl _, H, I, rfl, q⟩
theorem od_eq : OpD c (rEqM c.K false) dEq := fun H ρ x y v u z Q fr rx ry e k => by
  unfold dEq at e
  split at e
  · rename_i p q h1 h2
    split at e
    · rename_i hm
      cases e
      obtain ⟨a1, a2⟩ := dp_r rx h1
      obtain ⟨b1, b2⟩ := dp_r ry h2
      exact ⟨p, q, a1, b1, a2, b2, hm, k _ H (Same.refl H) rfl⟩
    · cases e
  · cases e
theorem od_ne : OpD c (rEqM c.K true) dNe := fun H ρ x y v u z Q fr rx ry e k => by
  unfold dNe at e
  split at e
  · rename_i p q h1 h2
    split at e
    · rename_i hm
      cases e
      obtain ⟨a1, a2⟩ := dp_r rx h1
      obtain ⟨b1, b2⟩ := dp_r ry h2
      exact ⟨p, q, a1, b1, a2, b2, hm, k _ H (Same.refl H) rfl⟩
    · cases e
  · cases e
/-! ### is None -/
def D.isNon : D → Bool
  | .non => true
  | _ => false
def dIsN (x y : D) : Option D := match y with
  | .non => some (.bl x.isNon)
  | _ => none
def dNotN (x y : D) : Option D := match y with
  | .non => some (.bl !x.isNon)
  | _ => none
theorem non_iff {H : Hp} {ρ : Rho} {x : D} {v : V} (h : RelR c H ρ x v) : decide (v = .non) = x.isNon := by
  cases x with
  | non => cases h; rfl
  | bl _ => cases h; rfl
  | int _ => cases h; rfl
  | str _ => obtain ⟨rfl, _⟩ := h; rfl
  | tup _ => obtain ⟨_, _, rfl, _⟩ := h; rfl
  | ctp _ => obtain ⟨_, _, rfl, _⟩ := h; rfl
  | lst _ => obtain ⟨_, _, rfl, _⟩ := h; rfl
  | frz _ => obtain ⟨_, _, rfl, _⟩ := h; rfl
  | dic _ _ => obtain ⟨_, _, rfl, _⟩ := h; rfl
  | ins _ _ => obtain ⟨_, _, _, _, rfl, _⟩ := h; rfl
  | ty _ => cases h; rfl
  | cls _ => obtain ⟨_, rfl, _⟩ := h; rfl
theorem od_isN : OpD c (fun x y H Q => y = .non ∧ Q (.bl (decide (x = .non))) H) dIsN := fun H ρ x y v u z Q fr rx ry e k => by
  unfold dIsN at e
  split at e
  · cases e
    cases ry
    exact ⟨rfl, by rw [non_iff rx]; exact k _ H (Same.refl H) rfl⟩
  · cases e
theorem od_notN : OpD c (fun x y H Q => y = .non ∧ Q (.bl (!decide (x = .non))) H) dNotN := fun H ρ x y v u z Q fr rx ry e k => by
  unfold dNotN at e
  split at e
  · cases e
    cases ry
    exact ⟨rfl, by rw [non_iff rx]; exact k _ H (Same.refl H) rfl⟩
  · cases e

/-! ### ints, texts, lists, tuples: + - * // % ** < -/
def dInt2 (g : Int → Int → Option D) (x y : D) : Option D := match x, y with
  | .int i, .int j => g i j
  | _, _ => none
theorem rI_of {C : Int → Int → Prop} {g : Int → Int → V} {f : Int → Int → Option D} (h : ∀ i j z, f i j = some z → C i j ∧ ∀ H ρ, RelD c H ρ z (g i j)) : OpD c (rI C g) (dInt2 f) := fun H ρ x y v u z Q fr rx ry e k => by
  unfold dInt2 at e
  split at e
  · rename_i i j
    obtain ⟨h1, h2⟩ := h i j z e
    exact ⟨i, j, rx, ry, h1, k _ H (Same.refl H) (h2 _ _)⟩
  · cases e
theorem rI0_of {g : Int → Int → V} {f : Int → Int → D} (h : ∀ i j H ρ, RelD c H ρ (f i j) (g i j)) : OpD c (rI0 g) (dInt2 fun i j => some (f i j)) := fun H ρ x y v u z Q fr rx ry e k => by
  unfold dInt2 at e
  split at e
  · rename_i i j
    cases e
    exact ⟨i, j, rx, ry, k _ H (Same.refl H) (h i j _ _)⟩
  · cases e
def dSub : D → D → Option D := dInt2 fun i j => some (.int (i - j))
def dMul : D → D → Option D := dInt2 fun i j => if (-(2 ^ 64) < i ∧ i < 2 ^ 64) ∨ (-(2 ^ 64) < j ∧ j < 2 ^ 64) then some (.int (i * j)) else none
def dFdiv : D → D → Option D := dInt2 fun i j => if 0 < j ∧ j < 1073741824 then some (.int (i / j)) else none
def dMod : D → D → Option D := dInt2 fun i j => if 0 < j then some (.int (i % j)) else none
def dPow : D → D → Option D := dInt2 fun i j => if 0 ≤ j ∧ j ≤ 1000000 ∧ i.natAbs < 2 ^ 64 then some (.int (i ^ j.toNat)) else none
def dLt : D → D → Option D := dInt2 fun i j => some (.bl (decide (i < j)))
def dLe : D → D → Option D := dInt2 fun i j => some (.bl (decide (i ≤ j)))
def dGt : D → D → Option D := dInt2 fun i j => some (.bl (decide (j < i)))
def dGe : D → D → Option D := dInt2 fun i j => some (.bl (decide (j ≤ i)))
theorem od_sub : OpD c (rI0 fun i j => .int (i - j)) dSub := rI0_of fun _ _ _ _ => rfl
theorem od_mul : OpD c (rI CMul fun i j => .int (i * j)) dMul := rI_of fun i j z e => by
  split at e
  · rename_i h; cases e; exact ⟨h, fun _ _ => rfl⟩
  · cases e
theorem od_fdiv : OpD c (rI CDiv fun i j => .int (i / j)) dFdiv := rI_of fun i j z e => by
  split at e
  · rename_i h; cases e; exact ⟨h, fun _ _ => rfl⟩
  · cases e
theorem od_mod : OpD c (rI (fun _ j => 0 < j) fun i j => .int (i % j)) dMod := rI_of fun i j z e => by
  split at e
  · rename_i h; cases e; exact ⟨h, fun _ _ => rfl⟩
  · cases e
theorem od_pow : OpD c (rI CPow fun i j => .int (i ^ j.toNat)) dPow := rI_of fun i j z e => by
  split at e
  · rename_i h; cases e; exact ⟨h, fun _ _ => rfl⟩
  · cases e
theorem od_lt : OpD c (rI0 fun i j => .bl (decide (i < j))) dLt := rI0_of fun _ _ _ _ => rfl
theorem od_le : OpD c (rI0 fun i j => .bl (decide (i ≤ j))) dLe := rI0_of fun _ _ _ _ => rfl
theorem od_gt : OpD c (rI0 fun i j => .bl (decide (j < i))) dGt := rI0_of fun _ _ _ _ => rfl
theorem od_ge : OpD c (rI0 fun i j => .bl (decide (j ≤ i))) dGe := rI0_of fun _ _ _ _ => rfl
def asTup : D → Option (List D)
  | .tup ds => some ds
  | .ctp ds => some ds
  | _ => none
theorem asTup_ok {H : Hp} {ρ : Rho} {x : D} {v : V} {ds : List D} (h : RelR c H ρ x v) (e : asTup x = some ds) : ∃ a xs, v = .ref a ∧ SqT c.K H a xs ∧ ds.length ≤ sizeLine ∧ RelDs c H ρ ds xs := by
  cases x with
  | tup _ => cases e; obtain ⟨a, xs, rfl, n, hH, l, r⟩ := h; exact ⟨a, xs, rfl, .of hH, l, r⟩
  | ctp _ => cases e; obtain ⟨a, xs, rfl, t, l, r⟩ := h; exact ⟨a, xs, rfl, t.sq, l, r⟩
  | _ => cases e
def dAdd (x y : D) : Option D := match x, y with
  | .int i, .int j => some (.int (i + j))
  | .str a, .str b => if a.length + b.length ≤ sizeLine then some (.str (a ++ b)) else none
  | .lst a, .lst b => if a.length + b.length ≤ sizeLine then some (.lst (a ++ b)) else none
  | .tup a, .tup b => if a.length + b.length ≤ sizeLine then some (.tup (a ++ b)) else none
  | _, _ => none
theorem strOk_append {a b : Str} (ha : PyData.strOk a = true) (hb : PyData.strOk b = true) : PyData.strOk (a ++ b) = true := by
  unfold PyData.strOk at *
  show (a.cps ++ b.cps).all _ = true
  rw [Array.all_append, ha, hb]; rfl
theorem len_append (a b : Str) : (a ++ b).length = a.length + b.length := by
  show (a.cps ++ b.cps).size = _
  rw [Array.size_append]; rfl
def rAddM (K : PySem.W.Frag) : R2 := fun x y H Q => rI0 (fun i j => .int (i + j)) x y H Q ∨ (∃ i j, x = .str i ∧ y = .str j ∧ i.length + j.length ≤ sizeLine ∧ Q (.str (i ++ j)) H) ∨ rCat x y H Q ∨ rCatA K x y H Q
theorem op_addM : OpR X (binaryOp .Add) (rAddM X.K) := op_add.or (op_add_str.or (op_cat.or op_catA))
theorem od_add : OpD c (rAddM c.K) dAdd := fun H ρ x y v u z Q fr rx ry e k => by
  unfold dAdd at e
  split at e
  · rename_i i j
    cases e
    exact .inl ⟨i, j, rx, ry, k _ H (Same.refl H) rfl⟩
  · rename_i a b
    split at e
    · rename_i hl
      cases e
      exact .inr (.inl ⟨a, b, rx.1, ry.1, hl, k _ H (Same.refl H) ⟨rfl, by rw [len_append]; exact hl, strOk_append rx.2.2 ry.2.2⟩⟩)
    · cases e
  · rename_i a b
    split at e
    · rename_i hl
      cases e
      obtain ⟨p, xs, rfl, hH, l, r⟩ := rx
      obtain ⟨p2, ys, rfl, hH2, l2, r2⟩ := ry
      refine .inr (.inr (.inl ⟨p, p2, xs, ys, rfl, rfl, hH, hH2, by rw [← r.length, ← r2.length]; exact hl, fun q hq => ?_⟩))
      exact k _ _ (same_upd hq) ⟨q, _, rfl, fr q hq, upd_same, by rw [List.length_append]; exact hl, (r.append r2).stay (Grow.refl _ _) (Fm.new hq)⟩
    · cases e
  · rename_i a b
    split at e
    · rename_i hl
      cases e
      obtain ⟨p, xs, rfl, n, hH, l, r⟩ := rx
      obtain ⟨p2, ys, rfl, n2, hH2, l2, r2⟩ := ry
      refine .inr (.inr (.inr ⟨p, p2, xs, ys, rfl, rfl, .of hH, .of hH2, by rw [← r.length, ← r2.length]; exact hl, fun q => ?_, fun q1 q2 => ?_, fun q1 q2 q hq => ?_⟩))
      · subst q
        cases a with
        | nil => exact k _ H (Same.refl H) ⟨p2, ys, rfl, n2, hH2, l2, r2⟩
        | cons _ _ => exact r.elim
      · subst q2
        cases b with
        | nil => rw [List.append_nil] at k; exact k _ H (Same.refl H) ⟨p, xs, rfl, n, hH, l, r⟩
        | cons _ _ => exact r2.elim
      · exact k _ _ (same_upd hq) ⟨q, _, rfl, fr q hq, upd_same, by rw [List.length_append]; exact hl, (r.append r2).stay (Grow.refl _ _) (Fm.new hq)⟩
    · cases e
  · cases e
end
end Mn

namespace Mn
open PySem PySem.Spec PyProof.Rows L2

/-! ### dicts by keys -/
theorem keyOf_v {c : Cn} {H : Hp} {ρ : Rho} {x : D} {v : V} {k : Key} (h : RelD c H ρ x v) (e : keyOf x = some k) : v = kV k := by
  cases x with
  | int i => cases e; cases h; rfl
  | str x => cases e; obtain ⟨rfl, _⟩ := h; rfl
  | _ => cases e
theorem keyT_v {c : Cn} {H : Hp} {ρ : Rho} : ∀ {ds : List D} {vs : List V} {ks : List Key}, RelDs c H ρ ds vs → keyT ds = some ks → vs = ks.map kV
  | [], [], _, _, e => by cases e; rfl
  | d :: ds, v :: vs, ks, ⟨r, t⟩, e => by
    simp only [keyT] at e
    split at e
    · rename_i k ks' h1 h2
      cases e
      rw [keyOf_v r h1, keyT_v t h2]; rfl
    · cases e
/-- the place of a key -/
def dFindK : List (D × D) → Key → Option D
  | [], _ => none
  | (a, b) :: r, k => if keyOf a = some k then some b else dFindK r k
def dFindT : List (D × D) → List Key → Option D
  | [], _ => none
  | (a, b) :: r, k => if keyTOf a = some k then some b else dFindT r k
/-- (is it a key?) what stands there -/
def dGet (t : Bool) (kvs : List (D × D)) (x : D) : Option (Option D) := match t with
  | false => (keyOf x).map (dFindK kvs)
  | true => (keyTOf x).map (dFindT kvs)
def dPutK (kvs : List (D × D)) (k : Key) (x v : D) : List (D × D) :=
  if kvs.any (fun p => decide (keyOf p.1 = some k)) = true then kvs.map (fun p => if keyOf p.1 = some k then (p.1, v) else p) else kvs ++ [(x, v)]
def dPutT (kvs : List (D × D)) (k : List Key) (x v : D) : List (D × D) :=
  if kvs.any (fun p => decide (keyTOf p.1 = some k)) = true then kvs.map (fun p => if keyTOf p.1 = some k then (p.1, v) else p) else kvs ++ [(x, v)]
def dPut (t : Bool) (kvs : List (D × D)) (x v : D) : Option (List (D × D)) := match t with
  | false => (keyOf x).map fun k => dPutK kvs k x v
  | true => (keyTOf x).map fun k => dPutT kvs k x v
section
variable {c : Cn} {H : Hp} {ρ : Rho}
def RelOD (c : Cn) (H : Hp) (ρ : Rho) : Option D → Option V → Prop
  | some x, some v => RelD c H ρ x v
  | none, none => True
  | _, _ => False
theorem keysK_len : ∀ {kvs : List (D × D)} {ks : List Key}, keysK kvs = some ks → ks.length = kvs.length
  | [], _, e => by cases e; rfl
  | (a, _) :: r, ks, e => by
    simp only [keysK] at e
    split at e
    · rename_i h1 h2; cases e; simp [keysK_len h2]
    · cases e
theorem keysT_len : ∀ {kvs : List (D × D)} {ks : List (List Key)}, keysT kvs = some ks → ks.length = kvs.length
  | [], _, e => by cases e; rfl
  | (a, _) :: r, ks, e => by
    simp only [keysT] at e
    split at e
    · rename_i h1 h2; cases e; simp [keysT_len h2]
    · cases e
theorem RelDv.length : ∀ {kvs : List (D × D)} {xs : List V}, RelDv c H ρ kvs xs → kvs.length = xs.length
  | [], [], _ => rfl
  | (_, _) :: _, _ :: _, ⟨_, t⟩ => congrArg (· + 1) (RelDv.length t)
theorem valV_K {k : Key} : ∀ {kvs : List (D × D)} {ks : List Key} {xs : List V}, keysK kvs = some ks → RelDv c H ρ kvs xs → RelOD c H ρ (dFindK kvs k) (valV (ks.zip xs) k)
  | [], _, [], e, _ => by cases e; trivial
  | (a, b) :: r, ks, v :: xs, e, ⟨h, t⟩ => by
    simp only [keysK] at e
    split at e
    · rename_i k' ks' h1 h2
      cases e
      have ih := valV_K (k := k) h2 t
      unfold dFindK valV
      rw [List.zip_cons_cons, List.find?_cons]
      by_cases hk : k' = k
      · subst hk
        rw [if_pos h1]
        simp only [decide_true, Option.map_some]
        exact h
      · rw [if_neg (by rw [h1]; exact fun z => hk (Option.some.inj z))]
        simp only [hk, decide_false]
        exact ih
    · cases e
theorem valV_T {k : List Key} : ∀ {kvs : List (D × D)} {ks : List (List Key)} {xs : List V}, keysT kvs = some ks → RelDv c H ρ kvs xs → RelOD c H ρ (dFindT kvs k) (valV (ks.zip xs) k)
  | [], _, [], e, _ => by cases e; trivial
  | (a, b) :: r, ks, v :: xs, e, ⟨h, t⟩ => by
    simp only [keysT] at e
    split at e
    · rename_i k' ks' h1 h2
      cases e
      have ih := valV_T (k := k) h2 t
      unfold dFindT valV
      rw [List.zip_cons_cons, List.find?_cons]
      by_cases hk : k' = k
      · subst hk
        rw [if_pos h1]
        simp only [decide_true, Option.map_some]
        exact h
      · rw [if_neg (by rw [h1]; exact fun z => hk (Option.some.inj z))]
        simp only [hk, decide_false]
        exact ih
    · cases e
theorem any_K {k : Key} : ∀ {kvs : List (D × D)} {ks : List (Key)} {xs : List V}, keysK kvs = some ks → RelDv c H ρ kvs xs → (ks.zip xs).any (fun kv => decide (kv.1 = k)) = kvs.any (fun p => decide (keyOf p.1 = some k))
  | [], _, [], e, _ => by cases e; rfl
  | (a, b) :: r, ks, v :: xs, e, ⟨h, t⟩ => by
    simp only [keysK] at e
    split at e
    · rename_i k' ks' h1 h2
      cases e
      rw [List.zip_cons_cons, List.any_cons, List.any_cons, any_K h2 t, h1]
      simp
    · cases e
theorem map_K {k : Key} {d : D} {v : V} (hv : RelD c H ρ d v) : ∀ {kvs : List (D × D)} {ks : List (Key)} {xs : List V}, keysK kvs = some ks → RelDv c H ρ kvs xs →
    ∃ xs', keysK (kvs.map fun p => if keyOf p.1 = some k then (p.1, d) else p) = some ks ∧ (ks.zip xs).map (fun kv => if kv.1 = k then (kv.1, v) else kv) = ks.zip xs' ∧ RelDv c H ρ (kvs.map fun p => if keyOf p.1 = some k then (p.1, d) else p) xs'
  | [], _, [], e, _ => by cases e; exact ⟨[], rfl, rfl, trivial⟩
  | (a, b) :: r, ks, w :: xs, e, ⟨h, t⟩ => by
    simp only [keysK] at e
    split at e
    · rename_i k' ks' h1 h2
      cases e
      obtain ⟨xs2, e1, e2, e3⟩ := map_K (k := k) hv h2 t
      by_cases hk : k' = k
      · subst hk
        refine ⟨v :: xs2, ?_, ?_, ?_⟩
        · rw [List.map_cons]; simp only [h1, if_true, keysK, e1]
        · rw [List.zip_cons_cons, List.map_cons, e2]; simp
        · rw [List.map_cons]; simp only [h1, if_true]; exact ⟨hv, e3⟩
      · have hk2 : ¬ some k' = some k := fun z => hk (Option.some.inj z)
        refine ⟨w :: xs2, ?_, ?_, ?_⟩
        · rw [List.map_cons]; simp only [h1, hk2, if_false, keysK, e1]
        · rw [List.zip_cons_cons, List.map_cons, e2]; simp [hk]
        · rw [List.map_cons]; simp only [h1, hk2, if_false]; exact ⟨h, e3⟩
    · cases e
theorem app_K {k : Key} {x d : D} {v : V} (hx : keyOf x = some k) (hv : RelD c H ρ d v) : ∀ {kvs : List (D × D)} {ks : List (Key)} {xs : List V}, keysK kvs = some ks → RelDv c H ρ kvs xs →
    keysK (kvs ++ [(x, d)]) = some (ks ++ [k]) ∧ RelDv c H ρ (kvs ++ [(x, d)]) (xs ++ [v])
  | [], _, [], e, _ => by cases e; exact ⟨by simp [keysK, hx], ⟨hv, trivial⟩⟩
  | (a, b) :: r, ks, w :: xs, e, ⟨h, t⟩ => by
    simp only [keysK] at e
    split at e
    · rename_i k' ks' h1 h2
      cases e
      obtain ⟨e1, e2⟩ := app_K hx hv h2 t
      exact ⟨by simp [keysK, h1, e1], ⟨h, e2⟩⟩
    · cases e
theorem putK_K {k : Key} {x d : D} {v : V} (hx : keyOf x = some k) (hv : RelD c H ρ d v) {kvs : List (D × D)} {ks : List (Key)} {xs : List V} (e : keysK kvs = some ks) (r : RelDv c H ρ kvs xs) :
    ∃ ks' xs', keysK (dPutK kvs k x d) = some ks' ∧ putK (ks.zip xs) k v = ks'.zip xs' ∧ RelDv c H ρ (dPutK kvs k x d) xs' := by
  unfold dPutK putK
  rw [any_K e r]
  by_cases hk : kvs.any (fun p => decide (keyOf p.1 = some k)) = true
  · rw [if_pos hk, if_pos hk]
    obtain ⟨xs', e1, e2, e3⟩ := map_K (k := k) hv e r
    exact ⟨ks, xs', e1, e2, e3⟩
  · rw [if_neg hk, if_neg hk]
    obtain ⟨e1, e2⟩ := app_K hx hv e r
    refine ⟨_, _, e1, ?_, e2⟩
    rw [List.zip_append (by rw [keysK_len e, r.length])]
    rfl
theorem any_T {k : List Key} : ∀ {kvs : List (D × D)} {ks : List (List Key)} {xs : List V}, keysT kvs = some ks → RelDv c H ρ kvs xs → (ks.zip xs).any (fun kv => decide (kv.1 = k)) = kvs.any (fun p => decide (keyTOf p.1 = some k))
  | [], _, [], e, _ => by cases e; rfl
  | (a, b) :: r, ks, v :: xs, e, ⟨h, t⟩ => by
    simp only [keysT] at e
    split at e
    · rename_i k' ks' h1 h2
      cases e
      rw [List.zip_cons_cons, List.any_cons, List.any_cons, any_T h2 t, h1]
      simp
    · cases e
theorem map_T {k : List Key} {d : D} {v : V} (hv : RelD c H ρ d v) : ∀ {kvs : List (D × D)} {ks : List (List Key)} {xs : List V}, keysT kvs = some ks → RelDv c H ρ kvs xs →
    ∃ xs', keysT (kvs.map fun p => if keyTOf p.1 = some k then (p.1, d) else p) = some ks ∧ (ks.zip xs).map (fun kv => if kv.1 = k then (kv.1, v) else kv) = ks.zip xs' ∧ RelDv c H ρ (kvs.map fun p => if keyTOf p.1 = some k then (p.1, d) else p) xs'
  | [], _, [], e, _ => by cases e; exact ⟨[], rfl, rfl, trivial⟩
  | (a, b) :: r, ks, w :: xs, e, ⟨h, t⟩ => by
    simp only [keysT] at e
    split at e
    · rename_i k' ks' h1 h2
      cases e
      obtain ⟨xs2, e1, e2, e3⟩ := map_T (k := k) hv h2 t
      by_cases hk : k' = k
      · subst hk
        refine ⟨v :: xs2, ?_, ?_, ?_⟩
        · rw [List.map_cons]; simp only [h1, if_true, keysT, e1]
        · rw [List.zip_cons_cons, List.map_cons, e2]; simp
        · rw [List.map_cons]; simp only [h1, if_true]; exact ⟨hv, e3⟩
      · have hk2 : ¬ some k' = some k := fun z => hk (Option.some.inj z)
        refine ⟨w :: xs2, ?_, ?_, ?_⟩
        · rw [List.map_cons]; simp only [h1, hk2, if_false, keysT, e1]
        · rw [List.zip_cons_cons, List.map_cons, e2]; simp [hk]
        · rw [List.map_cons]; simp only [h1, hk2, if_false]; exact ⟨h, e3⟩
    · cases e
theorem app_T {k : List Key} {x d : D} {v : V} (hx : keyTOf x = some k) (hv : RelD c H ρ d v) : ∀ {kvs : List (D × D)} {ks : List (List Key)} {xs : List V}, keysT kvs = some ks → RelDv c H ρ kvs xs →
    keysT (kvs ++ [(x, d)]) = some (ks ++ [k]) ∧ RelDv c H ρ (kvs ++ [(x, d)]) (xs ++ [v])
  | [], _, [], e, _ => by cases e; exact ⟨by simp [keysT, hx], ⟨hv, trivial⟩⟩
  | (a, b) :: r, ks, w :: xs, e, ⟨h, t⟩ => by
    simp only [keysT] at e
    split at e
    · rename_i k' ks' h1 h2
      cases e
      obtain ⟨e1, e2⟩ := app_T hx hv h2 t
      exact ⟨by simp [keysT, h1, e1], ⟨h, e2⟩⟩
    · cases e
theorem putK_T {k : List Key} {x d : D} {v : V} (hx : keyTOf x = some k) (hv : RelD c H ρ d v) {kvs : List (D × D)} {ks : List (List Key)} {xs : List V} (e : keysT kvs = some ks) (r : RelDv c H ρ kvs xs) :
    ∃ ks' xs', keysT (dPutT kvs k x d) = some ks' ∧ putK (ks.zip xs) k v = ks'.zip xs' ∧ RelDv c H ρ (dPutT kvs k x d) xs' := by
  unfold dPutT putK
  rw [any_T e r]
  by_cases hk : kvs.any (fun p => decide (keyTOf p.1 = some k)) = true
  · rw [if_pos hk, if_pos hk]
    obtain ⟨xs', e1, e2, e3⟩ := map_T (k := k) hv e r
    exact ⟨ks, xs', e1, e2, e3⟩
  · rw [if_neg hk, if_neg hk]
    obtain ⟨e1, e2⟩ := app_T hx hv e r
    refine ⟨_, _, e1, ?_, e2⟩
    rw [List.zip_append (by rw [keysT_len e, r.length])]
    rfl
theorem RelR.d_key {x : D} {v : V} {k : Key} (h : RelR c H ρ x v) (e : keyOf x = some k) : v = kV k := by
  cases x with
  | int i => cases e; cases h; rfl
  | str x => cases e; obtain ⟨rfl, _⟩ := h; rfl
  | _ => cases e
theorem RelR.d_keyT {x : D} {v : V} {k : List Key} (h : RelR c H ρ x v) (e : keyTOf x = some k) : ∃ b, v = .ref b ∧ H b = some (.tup (k.map kV)) := by
  cases x with
  | tup ds =>
    obtain ⟨a, xs, rfl, n, hH, l, r⟩ := h
    exact ⟨a, rfl, by rw [hH, keyT_v r e]⟩
  | _ => cases e
theorem dget_of {t : Bool} {kvs : List (D × D)} {xs : List V} {a : Addr} {x : D} {y : V} {o : Option D} (h : HDic H a t kvs xs) (r : RelDv c H ρ kvs xs) (hx : RelR c H ρ x y) (e : dGet t kvs x = some o) : ∃ ov, DGet H a y ov ∧ RelOD c H ρ o ov := by
  cases t with
  | false =>
    obtain ⟨ks, h1, h2⟩ := h
    obtain ⟨k, hk, rfl⟩ := Option.map_eq_some_iff.mp e
    exact ⟨_, .inl ⟨_, k, .inl h2, hx.d_key hk, rfl⟩, valV_K h1 r⟩
  | true =>
    obtain ⟨ks, h1, h2⟩ := h
    obtain ⟨k, hk, rfl⟩ := Option.map_eq_some_iff.mp e
    obtain ⟨b, e1, e2⟩ := hx.d_keyT hk
    exact ⟨_, .inr ⟨_, k, b, .inl h2, e1, e2, rfl⟩, valV_T h1 r⟩
end

/-! ### in -/
def flatD : D → Bool
  | .non => true
  | .bl _ => true
  | .int _ => true
  | .str _ => true
  | _ => false
def sameFlat : D → D → Bool
  | .non, .non => true
  | .bl a, .bl b => a == b
  | .bl a, .int b => (if a then 1 else 0) == b
  | .int a, .bl b => a == (if b then 1 else 0)
  | .int a, .int b => a == b
  | .str a, .str b => a == b
  | _, _ => false
def dIn (x y : D) : Option Bool := match y with
  | .str z => match x with
    | .str s => if s.cps.size = 1 then some (decide (s.cps.getD 0 0 ∈ z.cps.toList)) else none
    | _ => none
  | .tup ds => if flatD x && ds.all flatD then some (ds.any fun d => sameFlat d x) else none
  | .ctp ds => if flatD x && ds.all flatD then some (ds.any fun d => sameFlat d x) else none
  | .lst ds => match toPy x, toPys ds with
    | some p, some ps => if p.depth ≤ 50 ∧ PyData.depthAll ps ≤ 50 then some (ps.any fun z => PyData.eqv z p) else none
    | _, _ => none
  | .dic t kvs => (dGet t kvs x).map (·.isSome)
  | _ => none
def dInD (x y : D) : Option D := (dIn x y).map D.bl
def dNotInD (x y : D) : Option D := (dIn x y).map fun b => .bl !b
section
variable {X : Cx} {c : Cn} {U : WX}
/-- `in` of all kinds; n: not in -/
def rInM (K : PySem.W.Frag) (n : Bool) : R2 := fun x y H Q =>
  (∃ (ch : Nat) (z : Str), x = .str ⟨#[ch]⟩ ∧ y = .str z ∧ Q (.bl (if n then !decide (ch ∈ z.cps.toList) else decide (ch ∈ z.cps.toList))) H) ∨
  rIn K n x y H Q ∨
  (∃ d ds, Dp K H x d ∧ Dp K H y (.list ds) ∧ SeqAt.shaped d = true ∧ SeqAt.shaped (.list ds) = true ∧ Q (.bl (if n then !(ds.any fun z => PyData.eqv z d) else ds.any fun z => PyData.eqv z d)) H) ∨
  (∃ a o, y = .ref a ∧ DGet H a x o ∧ Q (.bl (if n then !o.isSome else o.isSome)) H)
theorem op_inM (hu : X.A.units + 65 < cLine) : OpR X (compareOp .In) (rInM X.K false) := by
  intro pins s σ H x y v u Q I rx ry h
  rcases h with ⟨ch, z, e1, e2, q⟩ | h | ⟨d, ds, h1, h2, h3, h4, q⟩ | ⟨a, o, rfl, g, q⟩
  · exact op_in_sign pins s σ H x y v u Q I rx ry ⟨ch, z, e1, e2, q⟩
  · exact op_in_seq pins s σ H x y v u Q I rx ry h
  · exact op_inD hu pins s σ H x y v u Q I rx ry ⟨d, ds, h1, h2, h3, h4, q⟩
  · obtain rfl : u = Value.ref a := ry
    exact d_in (by omega) I g rx fun s3 I3 => ⟨.bl o.isSome, H, I3, rfl, q⟩
theorem op_notInM (hu : X.A.units + 65 < cLine) : OpR X (compareOp .NotIn) (rInM X.K true) := by
  intro pins s σ H x y v u Q I rx ry h
  rcases h with ⟨ch, z, e1, e2, q⟩ | h | ⟨d, ds, h1, h2, h3, h4, q⟩ | ⟨a, o, rfl, g, q⟩
  · exact op_notIn_sign pins s σ H x y v u Q I rx ry ⟨ch, z, e1, e2, q⟩
  · exact op_notIn_seq pins s σ H x y v u Q I rx ry h
  · exact op_notInD hu pins s σ H x y v u Q I rx ry ⟨d, ds, h1, h2, h3, h4, q⟩
  · obtain rfl : u = Value.ref a := ry
    exact d_notIn (by omega) I g rx fun s3 I3 => ⟨.bl (!o.isSome), H, I3, rfl, q⟩
theorem flat_v {H : Hp} {ρ : Rho} {x : D} {v : V} (h : RelD c H ρ x v) (e : flatD x = true) : flatV v = true ∧ ∀ {y : D} {w : V}, RelD c H ρ y w → flatD y = true → eqV w v = sameFlat y x := by
  cases x with
  | non => cases h; exact ⟨rfl, fun {y w} hy ey => by cases y <;> first | (cases hy; rfl) | (obtain ⟨rfl, _⟩ := hy; rfl) | cases ey⟩
  | bl _ => cases h; exact ⟨rfl, fun {y w} hy ey => by cases y <;> first | (cases hy; rfl) | (obtain ⟨rfl, _⟩ := hy; rfl) | cases ey⟩
  | int _ => cases h; exact ⟨rfl, fun {y w} hy ey => by cases y <;> first | (cases hy; rfl) | (obtain ⟨rfl, _⟩ := hy; rfl) | cases ey⟩
  | str _ => obtain ⟨rfl, _⟩ := h; exact ⟨rfl, fun {y w} hy ey => by cases y <;> first | (cases hy; rfl) | (obtain ⟨rfl, _⟩ := hy; rfl) | cases ey⟩
  | _ => cases e
theorem RelR.flat {H : Hp} {ρ : Rho} {x : D} {v : V} (h : RelR c H ρ x v) (e : flatD x = true) : RelD c H ρ x v := by
  cases x <;> first | exact h | cases e
theorem flats_v {H : Hp} {ρ : Rho} {x : D} {v : V} (h : RelD c H ρ x v) (e : flatD x = true) : ∀ {ds : List D} {vs : List V}, RelDs c H ρ ds vs → ds.all flatD = true → vs.all flatV = true ∧ inV v vs = ds.any fun d => sameFlat d x
  | [], [], _, _ => ⟨rfl, rfl⟩
  | d :: ds, w :: vs, ⟨r, t⟩, q => by
    rw [List.all_cons, Bool.and_eq_true] at q
    obtain ⟨h1, h2⟩ := flats_v h e t q.2
    refine ⟨by rw [List.all_cons, (flat_v r q.1).1, h1]; rfl, ?_⟩
    show (eqV w v || inV v vs) = _
    rw [h2, (flat_v h e).2 r q.1, List.any_cons]
theorem in_spec {n : Bool} {H : Hp} {ρ : Rho} {x y : D} {v u : V} {b : Bool} {Q : VK} (rx : RelR c H ρ x v) (ry : RelR c H ρ y u) (e : dIn x y = some b) (k : Q (.bl (if n then !b else b)) H) : rInM c.K n v u H Q := by
  have tupcase : ∀ {ds : List D} {a : Addr} {xs : List V}, u = .ref a → SqT c.K H a xs → RelDs c H ρ ds xs → (if flatD x && ds.all flatD then some (ds.any fun d => sameFlat d x) else none) = some b → rInM c.K n v u H Q := fun {ds a xs} eu hq r e => by
    split at e
    · rename_i hf
      rw [Bool.and_eq_true] at hf
      cases e
      have hx := rx.flat hf.1
      obtain ⟨h1, h2⟩ := flats_v hx hf.1 r hf.2
      exact .inr (.inl ⟨a, xs, eu, .inr hq, (flat_v hx hf.1).1, h1, by rw [h2]; exact k⟩)
    · cases e
  unfold dIn at e
  split at e
  · rename_i z
    split at e
    · rename_i s
      split at e
      · rename_i hs
        cases e
        obtain ⟨e1, _⟩ := rx
        obtain ⟨e2, _⟩ := ry
        refine .inl ⟨s.cps.getD 0 0, z, ?_, e2, k⟩
        rw [e1]
        obtain ⟨⟨l⟩⟩ := s
        match l, hs with
        | [a], _ => rfl
      · cases e
    · cases e
  · obtain ⟨a, xs, eu, n, hH, l, r⟩ := ry
    exact tupcase eu (.of hH) r e
  · obtain ⟨a, xs, eu, t, l, r⟩ := ry
    exact tupcase eu t.sq r e
  · rename_i dsl
    split at e
    · rename_i p ps h1 h2
      split at e
      · rename_i hd
        cases e
        obtain ⟨a1, a2⟩ := dp_r rx h1
        have h3 : toPy (.lst dsl) = some (.list ps) := by simp only [toPy, h2, Option.map_some]
        obtain ⟨b1, b2⟩ := dp_r ry h3
        refine .inr (.inr (.inl ⟨p, ps, a1, b1, ?_, ?_, k⟩))
        · unfold SeqAt.shaped; rw [a2, Bool.true_and]; exact decide_eq_true (by omega)
        · unfold SeqAt.shaped; rw [b2, Bool.true_and]; exact decide_eq_true (by rw [PyData.depth]; omega)
      · cases e
    · cases e
  · obtain ⟨a, xs, eu, hd, r⟩ := ry
    obtain ⟨o, ho, rfl⟩ := Option.map_eq_some_iff.mp e
    obtain ⟨ov, g, ro⟩ := dget_of hd r rx ho
    refine .inr (.inr (.inr ⟨a, ov, eu, g, ?_⟩))
    have : ov.isSome = o.isSome := by
      cases o <;> cases ov <;> first | rfl | exact ro.elim
    rw [this]; exact k
  · cases e
theorem od_in : OpD c (rInM c.K false) dInD := fun H ρ x y v u z Q fr rx ry e k => by
  obtain ⟨b, hb, rfl⟩ := Option.map_eq_some_iff.mp e
  exact in_spec rx ry hb (k _ H (Same.refl H) rfl)
theorem od_notIn : OpD c (rInM c.K true) dNotInD := fun H ρ x y v u z Q fr rx ry e k => by
  obtain ⟨b, hb, rfl⟩ := Option.map_eq_some_iff.mp e
  exact in_spec rx ry hb (k _ H (Same.refl H) rfl)

/-! ### a[i] -/
def dIx (x y : D) : Option D := match x with
  | .lst ds => match y with
    | .int i => atI ds i
    | _ => none
  | .tup ds => match y with
    | .int i => atI ds i
    | _ => none
  | .ctp ds => match y with
    | .int i => atI ds i
    | _ => none
  | .str z => match y with
    | .int i => (atI z.cps.toList i).map fun ch => .str ⟨#[ch]⟩
    | _ => none
  | .dic t kvs => match dGet t kvs y with
    | some (some d) => some d
    | _ => none
  | _ => none
def rIxM (K : PySem.W.Frag) : R2 := fun x y H Q => rIx K x y H Q ∨ ∃ a v, x = .ref a ∧ DGet H a y (some v) ∧ Q v H
theorem ix_dict (hu : X.A.units + 1 < cLine) : IxR X (fun x y H Q => ∃ a v, x = .ref a ∧ DGet H a y (some v) ∧ Q v H) := by
  intro value slice pins s σ H x y v u Q I rx ry h hs
  obtain ⟨a, z, rfl, g, q⟩ := h
  obtain rfl : v = Value.ref a := rx
  exact tail_any (dict_typeIs I g) PySem.F.slot_dict_getitem.lookup (d_getItem hu I g ry fun w' s3 I3 rw' => ⟨z, H, I3, rw', q⟩) hs
theorem ix_M (hu : X.A.units + 1 < cLine) : IxR X (rIxM X.K) := ix_seq.or (ix_dict hu)
theorem atI_some {α : Type} {xs : List α} {i : Int} {v : α} (h : atI xs i = some v) : ∃ j, ixN xs.length i = some j ∧ xs[j]? = some v := by
  unfold atI at h
  cases q : ixN xs.length i with
  | none => rw [q] at h; cases h
  | some j => rw [q] at h; exact ⟨j, rfl, h⟩
theorem RelDs.atI {H : Hp} {ρ : Rho} {ds : List D} {vs : List V} {i : Int} {d : D} (r : RelDs c H ρ ds vs) (h : L2.atI ds i = some d) : ∃ v, L2.atI vs i = some v ∧ RelD c H ρ d v := by
  obtain ⟨j, h1, h2⟩ := atI_some h
  obtain ⟨v, h3, h4⟩ := r.get h2
  refine ⟨v, ?_, h4⟩
  unfold L2.atI
  rw [← r.length, h1]; exact h3
theorem strOk_one {z : Str} {ch : Nat} (h : PyData.strOk z = true) (e : ch ∈ z.cps.toList) : PyData.strOk ⟨#[ch]⟩ = true := by
  unfold PyData.strOk at *
  have := Array.all_eq_true_iff_forall_mem.mp h ch (by simpa using e)
  simpa using this
theorem od_ix : OpD c (rIxM c.K) dIx := fun H ρ x y v u z Q fr rx ry e k => by
  unfold dIx at e
  split at e
  · split at e
    · rename_i i
      obtain ⟨a, xs, rfl, hH, l, r⟩ := rx
      obtain ⟨w, h1, h2⟩ := r.atI e
      exact .inl (.inl ⟨a, xs, i, w, rfl, ry, .of hH, h1, k _ H (Same.refl H) h2⟩)
    · cases e
  · split at e
    · rename_i i
      obtain ⟨a, xs, rfl, n, hH, l, r⟩ := rx
      obtain ⟨w, h1, h2⟩ := r.atI e
      exact .inl (.inr (.inl ⟨a, xs, i, w, rfl, ry, .of hH, h1, k _ H (Same.refl H) h2⟩))
    · cases e
  · split at e
    · rename_i i
      obtain ⟨a, xs, rfl, t, l, r⟩ := rx
      obtain ⟨w, h1, h2⟩ := r.atI e
      exact .inl (.inr (.inl ⟨a, xs, i, w, rfl, ry, t.sq, h1, k _ H (Same.refl H) h2⟩))
    · cases e
  · rename_i zz
    split at e
    · rename_i i
      obtain ⟨ch, hc, rfl⟩ := Option.map_eq_some_iff.mp e
      obtain ⟨h1, h2, h3⟩ := rx
      obtain ⟨j, _, hj⟩ := atI_some hc
      exact .inl (.inr (.inr ⟨zz, i, ch, h1, ry, h2, hc, k _ H (Same.refl H) ⟨rfl, by show 1 ≤ sizeLine; decide, strOk_one h3 (List.mem_of_getElem? hj)⟩⟩))
    · cases e
  · split at e
    · rename_i d hd
      cases e
      obtain ⟨a, xs, rfl, hh, r⟩ := rx
      obtain ⟨ov, g, ro⟩ := dget_of hh r ry hd
      cases ov with
      | none => exact ro.elim
      | some w => exact .inr ⟨a, w, rfl, g, k _ H (Same.refl H) ro⟩
    · cases e
  · cases e
theorem me_ix {a b : Expr} {pos : Pos} {fa fb : FE} {c : Cn} (hc : X.K = c.K) (hu : X.A.units + 1 < cLine) (ha : PE X a (tM c U fa)) (hb : PE X b (tM c U fb)) (hs : PlainIx b := by exact fun _ _ => rfl) : PE X (.Subscript a b pos) (tM c U (mOp dIx fa fb)) := by
  have hx := pe_ix (pos := pos) (ix_M hu) ha hb hs
  rw [hc] at hx
  exact pe_imp hx fun σ H Q h => op_use od_ix h
end
end Mn

namespace Mn
open PySem PySem.Spec PyProof.Rows L2

section
variable {X : Cx} {c : Cn} {U : WX} {a b : Expr} {es : List Expr} {pos p p2 : Pos}
/-! ### slices -/
abbrev FO := PySem.Str → Nat
def mNoPart : Env → VH → Res (Option Int) := fun _ vh => .ok none vh
def mPart (f : FE) : Env → VH → Res (Option Int) := fun e vh => bnd (f e vh) fun w vh1 => match see vh1 w with
  | some (.int i) => .ok (some i) vh1
  | _ => .stuck
def tMO (c : Cn) (U : WX) (f : Env → VH → Res (Option Int)) : TO := fun σ H Q => ∃ e ρ vh, RelE c H ρ e σ ∧ RelH c H ρ vh ∧ Out c σ H ρ U (f e vh) fun o _ H' _ => Q o H'
theorem mo_none : PO X none (tMO c U mNoPart) := ⟨fun pins s σ H Q I ⟨e, ρ, vh, he, hh, h⟩ => po_none.run pins s σ H Q I (h.here hh)⟩
theorem mo_some {f : FE} (ha : PE X a (tM c U f)) : PO X (some a) (tMO c U (mPart f)) := ⟨fun pins s σ H Q I ⟨e, ρ, vh, he, hh, h⟩ => (po_some ha).run pins s σ H Q I ((use he hh h).mono fun v H1 ⟨w, vh1, ρ1, r, A, _, _⟩ => by
  have o := A.out
  split at o
  · rename_i i hs
    exact ⟨i, see_ok A.rh r hs, o.here A.rh⟩
  · exact o.elim)⟩
theorem useO {β : Type} {σ : L2.St} {H : Hp} {ρ : Rho} {e : Env} {vh : VH} {f : Env → VH → Res (Option Int)} {k : Option Int → VH → Res β} {K : β → VH → Hp → Rho → Prop} (he : RelE c H ρ e σ) (hh : RelH c H ρ vh) (h : Out c σ H ρ U (bnd (f e vh) k) K) :
    tMO c U f σ H fun b H1 => ∃ vh1 ρ1, Aft c U σ e H1 ρ1 vh1 (k b vh1) K ∧ Grow ρ H ρ1 ∧ Fm H H1 ρ := by
  refine ⟨e, ρ, vh, he, hh, ?_⟩
  cases q : f e vh with
  | ok w vh' =>
    rw [q] at h
    exact fun H' ρ' g fm rh => ⟨vh', ρ', ⟨he.stay g fm, rh, h.later g fm⟩, g, fm⟩
  | exn x vh' => rw [q] at h; exact h
  | stuck => rw [q] at h; exact h
theorem tMO.mono {σ : L2.St} {H : Hp} {f : Env → VH → Res (Option Int)} {Q Q' : Option Int → Hp → Prop} (h : tMO c U f σ H Q) (q : ∀ v H, Q v H → Q' v H) : tMO c U f σ H Q' := by
  obtain ⟨e, ρ, vh, he, hh, o⟩ := h
  exact ⟨e, ρ, vh, he, hh, o.mono fun _ _ _ _ k => q _ _ k⟩
def cutD (xs : List D) (lo hi : Option Int) : List D := (xs.drop (HT.sIx xs.length 0 lo)).take (HT.sIx xs.length xs.length hi - HT.sIx xs.length 0 lo)
def dSl (x : D) (lo hi : Option Int) : Option D := match x with
  | .lst ds => some (.lst (cutD ds lo hi))
  | .frz ds => some (.lst (cutD ds lo hi))
  | .tup ds => some (.tup (cutD ds lo hi))
  | .str z => some (.str (cutS z lo hi))
  | _ => none
def mSl (fa : FE) (fl fh : Env → VH → Res (Option Int)) : FE := fun e vh => bnd (fa e vh) fun w vh1 => bnd (fl e vh1) fun lo vh2 => bnd (fh e vh2) fun hi vh3 => opt (see vh3 w) fun x => opt (dSl x lo hi) fun z => .ok (.d z) vh3
def rSlM (K : PySem.W.Frag) : V → Option Int → Option Int → Hp → VK → Prop := fun x lo hi H Q => rSlL K x lo hi H Q ∨ rSlS x lo hi H Q ∨ rSlA K x lo hi H Q
theorem sl_M : SlR X (rSlM X.K) := sl_list.or (sl_str.or sl_tupA)
theorem cut_rel {H : Hp} {ρ : Rho} {ds : List D} {vs : List V} {lo hi : Option Int} (r : RelDs c H ρ ds vs) : RelDs c H ρ (cutD ds lo hi) (cutV vs lo hi) := by
  unfold cutD cutV
  rw [r.length]
  exact (r.drop _).take _
theorem cut_len (ds : List D) (lo hi : Option Int) : (cutD ds lo hi).length ≤ ds.length := by
  unfold cutD
  rw [List.length_take, List.length_drop]
  omega
theorem cutS_len (z : Str) (lo hi : Option Int) : (cutS z lo hi).length ≤ z.length := by
  show (List.toArray _).size ≤ _
  rw [List.size_toArray, List.length_take, List.length_drop]
  have : z.cps.toList.length = z.length := by simp [Str.length]
  omega
theorem strOk_sub {z y : Str} (h : PyData.strOk z = true) (s : ∀ c ∈ y.cps.toList, c ∈ z.cps.toList) : PyData.strOk y = true := by
  unfold PyData.strOk at *
  rw [Array.all_eq_true_iff_forall_mem] at *
  exact fun c hc => h c (by simpa using s c (by simpa using hc))
theorem strOk_cut {z : Str} {lo hi : Option Int} (h : PyData.strOk z = true) : PyData.strOk (cutS z lo hi) = true := strOk_sub h fun c hc => by
  have : c ∈ (z.cps.toList.drop (HT.sIx z.length 0 lo)).take (HT.sIx z.length z.length hi - HT.sIx z.length 0 lo) := by simpa [cutS] using hc
  exact List.mem_of_mem_drop (List.mem_of_mem_take this)
theorem sl_spec {H : Hp} {ρ : Rho} {x : D} {v : V} {lo hi : Option Int} {z : D} {Q : VK} (fr : Fresh c H ρ) (rx : RelR c H ρ x v) (e : dSl x lo hi = some z) (k : DK c H ρ z Q) : rSlM c.K v lo hi H Q := by
  unfold dSl at e
  split at e
  · cases e
    obtain ⟨a, xs, rfl, hH, l, r⟩ := rx
    exact .inl ⟨a, xs, rfl, .of hH, fun q hq => k _ _ (same_upd hq) ⟨q, _, rfl, fr q hq, upd_same, Nat.le_trans (cut_len _ _ _) l, (cut_rel r).stay (Grow.refl _ _) (Fm.new hq)⟩⟩
  · cases e
    rename_i ds
    obtain ⟨a, xs, rfl, t, l, r⟩ := rx
    exact .inl ⟨a, xs, rfl, t.sq, fun q hq => k _ _ (same_upd hq) ⟨q, _, rfl, fr q hq, upd_same, Nat.le_trans (cut_len _ _ _) l, (cut_rel r).stay (Grow.refl _ _) (Fm.new hq)⟩⟩
  · cases e
    obtain ⟨a, xs, rfl, n, hH, l, r⟩ := rx
    refine .inr (.inr ⟨a, xs, rfl, .of hH, fun ⟨h1, h2⟩ => ?_, fun _ q hq => k _ _ (same_upd hq) ⟨q, _, rfl, fr q hq, upd_same, Nat.le_trans (cut_len _ _ _) l, (cut_rel r).stay (Grow.refl _ _) (Fm.new hq)⟩⟩)
    refine k _ H (Same.refl H) ⟨a, xs, rfl, n, hH, Nat.le_trans (cut_len _ _ _) l, ?_⟩
    have : cutV xs lo hi = xs := by unfold cutV; rw [h1, h2]; simp
    have q := cut_rel (lo := lo) (hi := hi) r
    rwa [this] at q
  · cases e
    rename_i zz
    obtain ⟨h1, h2, h3⟩ := rx
    exact .inr (.inl ⟨zz, h1, h2, k _ H (Same.refl H) ⟨rfl, Nat.le_trans (cutS_len _ _ _) h2, strOk_cut h3⟩⟩)
  · cases e
theorem me_slice {lo hi : Option Expr} {fa : FE} {fl fh : Env → VH → Res (Option Int)} (hc : X.K = c.K) (ha : PE X a (tM c U fa)) (hl : PO X lo (tMO c U fl)) (hu : PO X hi (tMO c U fh)) : PE X (.Subscript a (.Slice lo hi none p2) pos) (tM c U (mSl fa fl fh)) := by
  have hx := pe_slice (pos := pos) (p2 := p2) sl_M ha hl hu
  rw [hc] at hx
  exact pe_imp hx fun σ H Q ⟨e, ρ, vh, he, hh, h⟩ =>
    (use he hh h).mono fun v1 H1 ⟨w1, vh1, ρ1, r1, A, g1, f1⟩ => (useO A.re A.rh A.out).mono fun lo H2 ⟨vh2, ρ2, B, g2, f2⟩ => (useO B.re B.rh B.out).mono fun hi H3 ⟨vh3, ρ3, C, g3, f3⟩ => by
      obtain ⟨x, e1, o⟩ := opt_out C.out
      obtain ⟨z, e2, o⟩ := opt_out o
      exact sl_spec C.rh.fr (see_ok C.rh ((r1.stay g2 f2).stay g3 f3) e1) e2 (pure_out C.rh o)

/-! ### builtins -/
theorem call_use {r : List V → Hp → VK → Prop} {g : List D → Option D} {fa : FA} (hd : CallD c r g) {σ : L2.St} {H : Hp} {Q : VK} (h : tM c U (mBlt g fa) σ H Q) : tMA c U fa σ H fun vs H1 => r vs H1 Q := by
  obtain ⟨e, ρ, vh, he, hh, h⟩ := h
  exact (useA he hh h).mono fun vs H1 ⟨ws, vh1, ρ1, rs, A, _, _⟩ => by
    obtain ⟨xs, e1, o⟩ := opt_out A.out
    obtain ⟨z, e2, o⟩ := opt_out o
    exact hd H1 ρ1 xs vs z Q A.rh.fr (sees_ok A.rh rs e1) e2 (pure_out A.rh o)
theorem me_callB {id : String} {x : Str} {r : List V → Hp → VK → Prop} {g : List D → Option D} {fa : FA} {e : Expr} (hc : CallR X (.builtin id) r) (hd : CallD c r g) (hg : Gl X x) (hm : X.mg x = none) (hv : bootBuiltins x = some (.builtin id)) (ha : PA X (e :: es) (tMA c U fa))
    (hn : x ≠ "__name__" := by decide) (hdb : (x == ("__debug__" : Str)) = false := by decide)
    (he : starEach (e :: es) X.env = (false, eval e X.env) :: starEach es X.env := by rfl) (hpl : (backTo pos (starEach es X.env)).any (·.1) = false := by rfl) : PE X (.Call (.Name x p) (e :: es) [] pos) (tM c U (mBlt g fa)) :=
  pe_imp (pe_callB hc hg hm hv ha hn hdb he hpl) fun σ H Q h => call_use hd h
theorem me_callTy {T : String} {x : Str} {r : List V → Hp → VK → Prop} {g : List D → Option D} {fa : FA} {e : Expr} (hc : CallR X (.type T) r) (hd : CallD c r g) (hg : Gl X x) (hm : X.mg x = none) (hv : bootBuiltins x = some (.type T)) (ha : PA X (e :: es) (tMA c U fa))
    (hn : x ≠ "__name__" := by decide) (hdb : (x == ("__debug__" : Str)) = false := by decide)
    (he : starEach (e :: es) X.env = (false, eval e X.env) :: starEach es X.env := by rfl) (hpl : (backTo pos (starEach es X.env)).any (·.1) = false := by rfl) : PE X (.Call (.Name x p) (e :: es) [] pos) (tM c U (mBlt g fa)) :=
  pe_imp (pe_callTy hc hg hm hv ha hn hdb he hpl) fun σ H Q h => call_use hd h
/-- a built-in class as a value -/
theorem me_ty {x : Str} {T : String} (hg : Gl X x) (hm : X.mg x = none) (hv : bootBuiltins x = some (.type T)) (hn : x ≠ "__name__" := by decide) (hdb : (x == ("__debug__" : Str)) = false := by decide) : PE X (.Name x pos) (tM c U (mC (.ty T))) := me_const (pe_bltn hg hm hv (v := .ty T) rfl hn hdb) fun _ _ => rfl

theorem RelRs.one {H : Hp} {ρ : Rho} {x : D} {vs : List V} (h : RelRs c H ρ [x] vs) : ∃ v, vs = [v] ∧ RelR c H ρ x v := by
  match vs, h with
  | [v], ⟨r, _⟩ => exact ⟨v, rfl, r⟩
theorem RelRs.two {H : Hp} {ρ : Rho} {x y : D} {vs : List V} (h : RelRs c H ρ [x, y] vs) : ∃ v w, vs = [v, w] ∧ RelR c H ρ x v ∧ RelR c H ρ y w := by
  match vs, h with
  | [v, w], ⟨r, s, _⟩ => exact ⟨v, w, rfl, r, s⟩

def cLen : List D → Option D
  | [.str z] => some (.int z.length)
  | [.lst ds] => some (.int ds.length)
  | [.frz ds] => some (.int ds.length)
  | [.tup ds] => some (.int ds.length)
  | [.ctp ds] => some (.int ds.length)
  | [.dic _ kvs] => some (.int kvs.length)
  | _ => none
def rLenM (K : PySem.W.Frag) : List V → Hp → VK → Prop := fun xs H Q => (∃ x n, xs = [x] ∧ LenV K x H n ∧ Q (.int n) H) ∨ (∃ a kvs, xs = [V.ref a] ∧ H a = some (.dK kvs) ∧ Q (.int kvs.length) H) ∨ (∃ (p : Addr) (kvs : List (List Key × V)), xs = [.ref p] ∧ H p = some (.dT kvs) ∧ Q (.int ((kvs.length : Nat) : Int)) H)
theorem call_lenM : CallR X (.builtin "len") (rLenM X.K) := call_len.or (call_lenD.or call_len_dT)
theorem HDic.len {H : Hp} {ρ : Rho} {a : Addr} {t : Bool} {kvs : List (D × D)} {xs : List V} (h : HDic H a t kvs xs) (r : RelDv c H ρ kvs xs) : (∃ ks, H a = some (.dK ks) ∧ ks.length = kvs.length) ∨ (∃ ks, H a = some (.dT ks) ∧ ks.length = kvs.length) := by
  cases t with
  | false =>
    obtain ⟨ks, h1, h2⟩ := h
    exact .inl ⟨_, h2, by rw [List.length_zip, keysK_len h1, ← r.length]; exact Nat.min_self _⟩
  | true =>
    obtain ⟨ks, h1, h2⟩ := h
    exact .inr ⟨_, h2, by rw [List.length_zip, keysT_len h1, ← r.length]; exact Nat.min_self _⟩
theorem cd_len : CallD c (rLenM c.K) cLen := fun H ρ xs vs z Q fr rs e k => by
  unfold cLen at e
  split at e
  · cases e
    obtain ⟨v, rfl, h1, h2, _⟩ := rs.one
    subst h1
    exact .inl ⟨_, _, rfl, ⟨h2, rfl⟩, k _ H (Same.refl H) rfl⟩
  · cases e
    obtain ⟨v, rfl, a, xs, rfl, hH, l, r⟩ := rs.one
    exact .inl ⟨_, _, rfl, .inl ⟨xs, .of hH, r.length⟩, k _ H (Same.refl H) rfl⟩
  · cases e
    obtain ⟨v, rfl, a, xs, rfl, t, l, r⟩ := rs.one
    exact .inl ⟨_, _, rfl, .inl ⟨xs, t.sq, r.length⟩, k _ H (Same.refl H) rfl⟩
  · cases e
    obtain ⟨v, rfl, a, xs, rfl, n, hH, l, r⟩ := rs.one
    exact .inl ⟨_, _, rfl, .inr ⟨xs, .of hH, r.length⟩, k _ H (Same.refl H) rfl⟩
  · cases e
    obtain ⟨v, rfl, a, xs, rfl, t, l, r⟩ := rs.one
    exact .inl ⟨_, _, rfl, .inr ⟨xs, t.sq, r.length⟩, k _ H (Same.refl H) rfl⟩
  · cases e
    obtain ⟨v, rfl, a, xs, rfl, hd, r⟩ := rs.one
    rcases hd.len r with ⟨ks, h1, h2⟩ | ⟨ks, h1, h2⟩
    · exact .inr (.inl ⟨a, ks, rfl, h1, by rw [h2]; exact k _ H (Same.refl H) rfl⟩)
    · exact .inr (.inr ⟨a, ks, rfl, h1, by rw [h2]; exact k _ H (Same.refl H) rfl⟩)
  · cases e
def asBools : List D → Option (List Bool)
  | [] => some []
  | .bl b :: r => (asBools r).map (b :: ·)
  | _ => none
theorem asBools_ok {H : Hp} {ρ : Rho} : ∀ {ds : List D} {vs : List V} {bs : List Bool}, RelDs c H ρ ds vs → asBools ds = some bs → vs = bs.map V.bl
  | [], [], _, _, e => by cases e; rfl
  | .bl b :: ds, v :: vs, bs, ⟨r, t⟩, e => by
    obtain ⟨bs', h, rfl⟩ := Option.map_eq_some_iff.mp e
    cases r
    rw [asBools_ok t h]; rfl
def cAll : List D → Option D
  | [.lst ds] => (asBools ds).map fun bs => .bl (bs.all id)
  | _ => none
def cAny : List D → Option D
  | [.lst ds] => (asBools ds).map fun bs => .bl (bs.any id)
  | _ => none
theorem cd_all : CallD c (rAll c.K) cAll := fun H ρ xs vs z Q fr rs e k => by
  unfold cAll at e
  split at e
  · obtain ⟨bs, h, rfl⟩ := Option.map_eq_some_iff.mp e
    obtain ⟨v, rfl, a, xs, rfl, hH, l, r⟩ := rs.one
    refine ⟨a, bs, rfl, ?_, k _ H (Same.refl H) rfl⟩
    rw [← asBools_ok r h]; exact .of hH
  · cases e
theorem cd_any : CallD c (rAny c.K) cAny := fun H ρ xs vs z Q fr rs e k => by
  unfold cAny at e
  split at e
  · obtain ⟨bs, h, rfl⟩ := Option.map_eq_some_iff.mp e
    obtain ⟨v, rfl, a, xs, rfl, hH, l, r⟩ := rs.one
    refine ⟨a, bs, rfl, ?_, k _ H (Same.refl H) rfl⟩
    rw [← asBools_ok r h]; exact .of hH
  · cases e
/-- the items of a list or a tuple -/
def asSeq : D → Option (List D)
  | .lst ds => some ds
  | .tup ds => some ds
  | .ctp ds => some ds
  | _ => none
theorem asSeq_ok {H : Hp} {ρ : Rho} {x : D} {v : V} {ds : List D} (h : RelR c H ρ x v) (e : asSeq x = some ds) : ∃ a xs, v = .ref a ∧ (SqL c.K H a xs ∨ SqT c.K H a xs) ∧ ds.length ≤ sizeLine ∧ RelDs c H ρ ds xs := by
  cases x with
  | lst _ => cases e; obtain ⟨a, xs, rfl, hH, l, r⟩ := h; exact ⟨a, xs, rfl, .inl (.of hH), l, r⟩
  | tup _ => cases e; obtain ⟨a, xs, rfl, n, hH, l, r⟩ := h; exact ⟨a, xs, rfl, .inr (.of hH), l, r⟩
  | ctp _ => cases e; obtain ⟨a, xs, rfl, t, l, r⟩ := h; exact ⟨a, xs, rfl, .inr t.sq, l, r⟩
  | _ => cases e
def cList : List D → Option D
  | [x] => (asSeq x).map .lst
  | _ => none
theorem cd_list : CallD c (fun xs H Q => ∃ p ys, xs = [.ref p] ∧ (SqL c.K H p ys ∨ SqT c.K H p ys) ∧ ∀ l, H l = none → Q (.ref l) (upd H l (.lst ys))) cList := fun H ρ xs vs z Q fr rs e k => by
  unfold cList at e
  split at e
  · obtain ⟨ds, h, rfl⟩ := Option.map_eq_some_iff.mp e
    obtain ⟨v, rfl, r⟩ := rs.one
    obtain ⟨a, xs, rfl, hs, l, rr⟩ := asSeq_ok r h
    exact ⟨a, xs, rfl, hs, fun q hq => k _ _ (same_upd hq) ⟨q, xs, rfl, fr q hq, upd_same, l, rr.stay (Grow.refl _ _) (Fm.new hq)⟩⟩
  · cases e
def cTuple : List D → Option D
  | [.lst ds] => some (.tup ds)
  | [.tup ds] => some (.tup ds)
  | [.ctp ds] => some (.ctp ds)
  | _ => none
theorem cd_tuple : CallD c (fun xs H Q => ∃ p ys, xs = [.ref p] ∧ ((SqL c.K H p ys ∧ ∀ l, H l = none → Q (.ref l) (upd H l (.tup ys))) ∨ (SqT c.K H p ys ∧ Q (.ref p) H))) cTuple := fun H ρ xs vs z Q fr rs e k => by
  unfold cTuple at e
  split at e
  · cases e
    obtain ⟨v, rfl, a, xs, rfl, hH, l, r⟩ := rs.one
    exact ⟨a, xs, rfl, .inl ⟨.of hH, fun q hq => k _ _ (same_upd hq) ⟨q, xs, rfl, fr q hq, upd_same, l, r.stay (Grow.refl _ _) (Fm.new hq)⟩⟩⟩
  · cases e
    obtain ⟨v, rfl, a, xs, rfl, n, hH, l, r⟩ := rs.one
    exact ⟨a, xs, rfl, .inr ⟨.of hH, k _ H (Same.refl H) ⟨a, xs, rfl, n, hH, l, r⟩⟩⟩
  · cases e
    obtain ⟨v, rfl, a, xs, rfl, t, l, r⟩ := rs.one
    exact ⟨a, xs, rfl, .inr ⟨t.sq, k _ H (Same.refl H) ⟨a, xs, rfl, t, l, r⟩⟩⟩
  · cases e
def cInt : List D → Option D
  | [.int i] => some (.int i)
  | _ => none
theorem cd_int : CallD c (fun xs H Q => (∃ i, xs = [.int i] ∧ Q (.int i) H) ∨ ∃ k, xs = [.bl k] ∧ Q (.int (if k then 1 else 0)) H) cInt := fun H ρ xs vs z Q fr rs e k => by
  unfold cInt at e
  split at e
  · cases e
    obtain ⟨v, rfl, r⟩ := rs.one
    exact .inl ⟨_, by rw [show v = .int _ from r], k _ H (Same.refl H) rfl⟩
  · cases e
/-- a built-in type's name -/
def tyName : D → Option String
  | .non => some "NoneType"
  | .bl _ => some "bool"
  | .int _ => some "int"
  | .str _ => some "str"
  | .tup _ => some "tuple"
  | .ctp _ => some "tuple"
  | .lst _ => some "list"
  | .dic _ _ => some "dict"
  | _ => none
theorem tyx_of {H : Hp} {ρ : Rho} {x : D} {v : V} {T : String} (h : RelR c H ρ x v) (e : tyName x = some T) : TyX c.K H v (.type T) := by
  cases x with
  | non => cases e; cases h; exact .base .non
  | bl _ => cases e; cases h; exact .base (.bl _)
  | int _ => cases e; cases h; exact .base (.int _)
  | str _ => cases e; obtain ⟨rfl, _⟩ := h; exact .base (.str _)
  | tup _ => cases e; obtain ⟨a, xs, rfl, n, hH, l, r⟩ := h; exact .base (.tup hH)
  | ctp _ => cases e; obtain ⟨a, xs, rfl, ⟨o, its, n, h1, h2, _⟩, l, r⟩ := h; exact .kTuple h1 h2
  | lst _ => cases e; obtain ⟨a, xs, rfl, hH, l, r⟩ := h; exact .base (.lst hH)
  | dic t kvs =>
    cases e
    obtain ⟨a, xs, rfl, hd, r⟩ := h
    cases t with
    | false => obtain ⟨ks, h1, h2⟩ := hd; exact .base (.dK h2)
    | true => obtain ⟨ks, h1, h2⟩ := hd; exact .base (.dT h2)
  | _ => cases e
def cIsi : List D → Option D
  | [x, .ty T] => match tyName x with
    | some S => (kitB S T).map .bl
    | none => none
  | _ => none
theorem cd_isi : CallD c (rIsi c.K) cIsi := fun H ρ xs vs z Q fr rs e k => by
  unfold cIsi at e
  split at e
  · split at e
    · rename_i S hS
      obtain ⟨b, hb, rfl⟩ := Option.map_eq_some_iff.mp e
      obtain ⟨v, w, rfl, r1, r2⟩ := rs.two
      cases r2
      exact ⟨v, _, _, _, b, rfl, .ty _, tyx_of r1 hS, kit_ty hb, k _ H (Same.refl H) rfl⟩
    · cases e
  · cases e
end
end Mn

namespace Mn
open PySem PySem.Spec PyProof.Rows L2

section
variable {X : Cx} {c : Cn} {U : WX} {a b : Expr} {es : List Expr} {pos p p2 : Pos}
/-! ### a built-in type's methods that change nothing -/
def MtD (c : Cn) (T : String) (r : V → List V → Hp → VK → Prop) (g : D → List D → Option D) : Prop :=
  ∀ H ρ x xs v vs z Q, Fresh c H ρ → RelR c H ρ x v → RelRs c H ρ xs vs → g x xs = some z → DK c H ρ z Q → r v vs H Q
theorem tyV_of {H : Hp} {ρ : Rho} {x : D} {v : V} {T : String} (h : RelR c H ρ x v) (e : tyName x = some T) (ht : T = "str" ∨ T = "list" ∨ T = "dict") : tyV c.K T v H := by
  cases x with
  | str _ => cases e; obtain ⟨rfl, _⟩ := h; rfl
  | lst _ => cases e; obtain ⟨a, xs, rfl, hH, l, r⟩ := h; exact .inl ⟨rfl, xs, .of hH⟩
  | dic t kvs =>
    cases e
    obtain ⟨a, xs, rfl, hd, r⟩ := h
    cases t with
    | false => obtain ⟨ks, h1, h2⟩ := hd; exact .inr (.inr (.inl ⟨rfl, .inl ⟨_, h2⟩⟩))
    | true => obtain ⟨ks, h1, h2⟩ := hd; exact .inr (.inr (.inl ⟨rfl, .inr ⟨_, h2⟩⟩))
  | non => cases e; exact absurd ht (by decide)
  | bl _ => cases e; exact absurd ht (by decide)
  | int _ => cases e; exact absurd ht (by decide)
  | tup _ => cases e; exact absurd ht (by decide)
  | ctp _ => cases e; exact absurd ht (by decide)
  | _ => cases e
def mMt (T : String) (g : D → List D → Option D) (fo : FE) (fa : FA) : FE := fun e vh => bnd (fo e vh) fun w vh1 => opt (see vh1 w) fun x0 => if tyName x0 = some T ∧ (T = "str" ∨ T = "list" ∨ T = "dict") then
  bnd (fa e vh1) fun ws vh2 => opt (see vh2 w) fun x => opt (sees vh2 ws) fun xs => opt (g x xs) fun z => .ok (.d z) vh2 else .stuck
theorem me_mt {o : Expr} {e : Expr} {name : Str} {apos cpos : Pos} {T id : String} {r : V → List V → Hp → VK → Prop} {g : D → List D → Option D} {fo : FE} {fa : FA} (hc : X.K = c.K) (pa : PlainAttrs T) (slot : Slot T name id) (hty : typeOf (.builtin id) = pure (.type "method_descriptor")) (hm : MtR X id r) (hd : MtD c T r g) (ho : PE X o (tM c U fo)) (ha : PA X (e :: es) (tMA c U fa))
    (hbase : attributeBase o name X.env (eval o X.env) = eval o X.env := by rfl)
    (hfew : ((backTo cpos (starEach (e :: es) X.env)).all (fun x => !x.1) && (backToKw cpos (keywordEach [] X.env)).all (fun x => x.1.isSome)
      && decide ((e :: es).length + ([] : List Keyword).length + (if ([] : List Keyword).isEmpty then 0 else 1) < 30)) = true := by rfl)
    (hline : (apos.endLine == cpos.line) = true := by rfl) (hs : starEach (e :: es) X.env = (false, eval e X.env) :: starEach es X.env := by rfl) (hplain : (backTo cpos (starEach es X.env)).any (·.1) = false := by rfl) :
    PE X (.Call (.Attribute o name apos) (e :: es) [] cpos) (tM c U (mMt T g fo fa)) := by
  have hx := pe_bm pa slot hty hm ho ha hbase hfew hline hs hplain
  rw [hc] at hx
  exact pe_imp hx fun σ H Q ⟨e, ρ, vh, he, hh, h⟩ => (use he hh h).mono fun v H1 ⟨w, vh1, ρ1, r1, A, g1, f1⟩ => by
    obtain ⟨x0, e0, o⟩ := opt_out A.out
    split at o
    · rename_i ht
      refine ⟨tyV_of (see_ok A.rh r1 e0) ht.1 ht.2, ?_⟩
      refine (useA A.re A.rh o).mono fun vs H2 ⟨ws, vh2, ρ2, rs, B, g2, f2⟩ => ?_
      obtain ⟨x, e1, o⟩ := opt_out B.out
      obtain ⟨xs, e2, o⟩ := opt_out o
      obtain ⟨z, e3, o⟩ := opt_out o
      exact hd H2 ρ2 x xs v vs z Q B.rh.fr (see_ok B.rh (r1.stay g2 f2) e1) (sees_ok B.rh rs e2) e3 (pure_out B.rh o)
    · exact o.elim
theorem me_mt0 {o : Expr} {name : Str} {apos cpos : Pos} {T id : String} {r : V → List V → Hp → VK → Prop} {g : D → List D → Option D} {fo : FE} (hc : X.K = c.K) (pa : PlainAttrs T) (slot : Slot T name id) (hty : typeOf (.builtin id) = pure (.type "method_descriptor")) (hm : MtR X id r) (hd : MtD c T r g) (ho : PE X o (tM c U fo))
    (hbase : attributeBase o name X.env (eval o X.env) = eval o X.env := by rfl) (hline : (apos.endLine == cpos.line) = true := by rfl) : PE X (.Call (.Attribute o name apos) [] [] cpos) (tM c U (mMt T g fo mNil)) := by
  have hx := pe_bm0 pa slot hty hm ho hbase hline
  rw [hc] at hx
  exact pe_imp hx fun σ H Q ⟨e, ρ, vh, he, hh, h⟩ => (use he hh h).mono fun v H1 ⟨w, vh1, ρ1, r1, A, g1, f1⟩ => by
    obtain ⟨x0, e0, o⟩ := opt_out A.out
    split at o
    · rename_i ht
      refine ⟨tyV_of (see_ok A.rh r1 e0) ht.1 ht.2, ?_⟩
      obtain ⟨x, e1, o1⟩ := opt_out (show Out _ _ _ _ _ (opt (see vh1 w) _) _ from o)
      obtain ⟨xs, e2, o2⟩ := opt_out o1
      obtain ⟨z, e3, o3⟩ := opt_out o2
      have e4 : xs = [] := (Option.some.inj e2).symm
      rw [e4] at e3
      exact hd H1 ρ1 x [] v [] z Q A.rh.fr (see_ok A.rh r1 e1) trivial e3 (pure_out A.rh o3)
    · exact o.elim
/-- all are texts -/
def asStrs : List D → Option (List Str)
  | [] => some []
  | .str b :: r => (asStrs r).map (b :: ·)
  | _ => none
theorem asStrs_ok {H : Hp} {ρ : Rho} : ∀ {ds : List D} {vs : List V} {bs : List Str}, RelDs c H ρ ds vs → asStrs ds = some bs → vs = bs.map V.str ∧ ∀ b ∈ bs, PyData.strOk b = true
  | [], [], _, _, e => by cases e; exact ⟨rfl, fun _ h => nomatch h⟩
  | .str b :: ds, v :: vs, bs, ⟨⟨r, _, hs⟩, t⟩, e => by
    obtain ⟨bs', h, rfl⟩ := Option.map_eq_some_iff.mp e
    subst r
    obtain ⟨h1, h2⟩ := asStrs_ok t h
    exact ⟨by rw [h1]; rfl, fun x hx => by
      rcases List.mem_cons.mp hx with e | hx
      · rw [e]; exact hs
      · exact h2 x hx⟩
def gJoin (x : D) (xs : List D) : Option D := match x, xs with
  | .str a, [y] => match asSeq y with
    | some ds => match asStrs ds with
      | some ys => if (ys.map (·.length)).sum + ys.length * a.length ≤ 16777216 ∧ (Txt.join a ys).length ≤ sizeLine ∧ PyData.strOk (Txt.join a ys) = true then some (.str (Txt.join a ys)) else none
      | none => none
    | none => none
  | _, _ => none
theorem md_join : MtD c "str" (fun x xs H Q => ∃ a p, ∃ ys : List Str, x = .str a ∧ xs = [.ref p] ∧ (SqL c.K H p (ys.map V.str) ∨ SqT c.K H p (ys.map V.str)) ∧
    (ys.map (·.length)).sum + ys.length * a.length ≤ 16777216 ∧ Q (.str (Txt.join a ys)) H) gJoin := fun H ρ x xs v vs z Q fr rx rs e k => by
  unfold gJoin at e
  split at e
  · split at e
    · rename_i ds hds
      split at e
      · rename_i ys hys
        split at e
        · rename_i hl
          cases e
          obtain ⟨w, rfl, rw'⟩ := rs.one
          obtain ⟨q, us, rfl, hq, l, r⟩ := asSeq_ok rw' hds
          obtain ⟨h1, h2⟩ := asStrs_ok r hys
          rw [h1] at hq
          exact ⟨_, q, ys, rx.1, rfl, hq, hl.1, k _ H (Same.refl H) ⟨rfl, hl.2.1, hl.2.2⟩⟩
        · cases e
      · cases e
    · cases e
  · cases e

/-! ### methods that change a list -/
/-- what a changing method does: the result, the new items -/
def MutD (c : Cn) (r : V → List V → Hp → VK → Prop) (g : List D → List D → Option (D × List D)) : Prop :=
  ∀ H ρ a ds us xs vs z ds' Q, H a = some (.lst us) → ds.length ≤ sizeLine → RelDs c H ρ ds us → RelDs c H ρ xs vs → g ds xs = some (z, ds') →
    (∀ v' us', RelDs c H ρ ds' us' → ds'.length ≤ sizeLine → (∀ ρ', Grow ρ H ρ' → RelD c (upd H a (.lst us')) ρ' z v' ∨ RelD c H ρ z v') → Q v' (upd H a (.lst us'))) → r (.ref a) vs H Q
def mMut (g : List D → List D → Option (D × List D)) (fo : FE) (fa : FA) : FE := fun e vh => bnd (fo e vh) fun w vh1 => match w with
  | .ref k => match vh1[k]? with
    | some (.lst _) => bnd (fa e vh1) fun ws vh2 => opt (datas ws) fun xs => match vh2[k]? with
      | some (.lst ds) => opt (g ds xs) fun z => .ok (.d z.1) (vh2.set k (.lst z.2))
      | _ => .stuck
    | _ => .stuck
  | _ => .stuck
/-- the object at k is replaced -/
theorem RelH.put {H : Hp} {ρ : Rho} {vh : VH} {k : Nat} {a : Addr} {o : HO} {vo : VO} (hh : RelH c H ρ vh) (ha : ρ[k]? = some (some a)) (r : RelO c (upd H a o) ρ vo (some a)) : RelH c (upd H a o) ρ (vh.set k vo) := by
  have hm : some a ∈ ρ := List.mem_of_getElem? ha
  have fm : Fm H (upd H a o) ρ := fun b u hb e => by rw [upd_ne (fun (z : b = a) => hb (by rw [z]; exact hm))]; exact e
  refine ⟨by rw [List.length_set]; exact hh.len, hh.inj, fun i w e => ?_, fun b hb => ?_⟩
  rotate_left
  · obtain ⟨⟨u, e⟩, n⟩ := hh.hid b hb
    exact ⟨⟨u, by rw [upd_ne (fun z => n (by rw [z]; exact hm))]; exact e⟩, n⟩
  by_cases hi : i = k
  · subst hi
    rw [List.getElem?_set] at e
    rw [if_pos rfl] at e
    split at e
    · cases e; exact ⟨some a, ha, r⟩
    · cases e
  · rw [List.getElem?_set_ne (fun z => hi z.symm)] at e
    obtain ⟨q, hq, rq⟩ := hh.at' i w e
    refine ⟨q, hq, rq.stay (Grow.refl _ _) fm fun b u eb hb => ?_⟩
    rw [upd_ne]
    · exact hb
    · intro z
      subst z
      subst eb
      exact hi (hh.inj i k b hq ha)
theorem Fm.put {H : Hp} {ρ : Rho} {k : Nat} {a : Addr} {o : HO} (ha : ρ[k]? = some (some a)) : Fm H (upd H a o) ρ := fun b u hb e => by rw [upd_ne (fun (z : b = a) => hb (by rw [z]; exact List.mem_of_getElem? ha))]; exact e
theorem mut_use {K : PySem.W.Frag} {r : V → List V → Hp → VK → Prop} {g : List D → List D → Option (D × List D)} {fo : FE} {fa : FA} (hk : c.K = K) (hd : MutD c r g) {σ : L2.St} {H : Hp} {Q : VK} (h : tM c U (mMut g fo fa) σ H Q) :
    tM c U fo σ H fun x H1 => tyV K "list" x H1 ∧ tMA c U fa σ H1 fun xs H2 => r x xs H2 Q := by
  subst hk
  obtain ⟨e, ρ, vh, he, hh, h⟩ := h
  refine (use he hh h).mono fun v H1 ⟨w, vh1, ρ1, r1, A, g1, f1⟩ => ?_
  have o := A.out
  split at o
  · rename_i k
    split at o
    · rename_i ds0 hk0
      obtain ⟨q, hq, a, xs0, rfl, hH0, l0, r0⟩ := A.rh.at' k _ hk0
      obtain rfl := r1.2 a hq
      refine ⟨.inl ⟨rfl, xs0, .of hH0⟩, ?_⟩
      refine (useA A.re A.rh o).mono fun vs H2 ⟨ws, vh2, ρ2, rs, B, g2, f2⟩ => ?_
      obtain ⟨xs, e1, o⟩ := opt_out B.out
      split at o
      · rename_i ds hk
        obtain ⟨z, e2, o⟩ := opt_out o
        obtain ⟨q, hq2, a2, us, rfl, hH, l, rr⟩ := B.rh.at' k _ hk
        have r1' := r1.stay g2 f2
        obtain rfl : a = a2 := V.ref.inj (r1'.2 a2 hq2)
        refine hd H2 ρ2 a ds us xs vs z.1 z.2 Q hH l rr (datas_ok rs e1) e2 fun v' us' ru lu hz => ?_
        have fm := Fm.put (H := H2) (o := .lst us') hq2
        refine o _ _ (Grow.refl _ _) fm (B.rh.put (o := .lst us') (vo := .lst z.2) hq2 ⟨a, us', rfl, upd_same, lu, ru.stay (Grow.refl _ _) fm⟩) v' ?_
        rcases hz ρ2 (Grow.refl _ _) with h | h
        · exact h
        · exact RelD.stay (Grow.refl _ _) fm h
      · exact o.elim
    · exact o.elim
  · exact o.elim
theorem me_mut {o : Expr} {e : Expr} {name : Str} {apos cpos : Pos} {id : String} {r : V → List V → Hp → VK → Prop} {g : List D → List D → Option (D × List D)} {fo : FE} {fa : FA} (hc : X.K = c.K) (slot : Slot "list" name id) (hty : typeOf (.builtin id) = pure (.type "method_descriptor")) (hm : MtM X id r) (hd : MutD c r g) (ho : PE X o (tM c U fo)) (ha : PA X (e :: es) (tMA c U fa))
    (hbase : attributeBase o name X.env (eval o X.env) = eval o X.env := by rfl)
    (hfew : ((backTo cpos (starEach (e :: es) X.env)).all (fun x => !x.1) && (backToKw cpos (keywordEach [] X.env)).all (fun x => x.1.isSome)
      && decide ((e :: es).length + ([] : List Keyword).length + (if ([] : List Keyword).isEmpty then 0 else 1) < 30)) = true := by rfl)
    (hline : (apos.endLine == cpos.line) = true := by rfl) (hs : starEach (e :: es) X.env = (false, eval e X.env) :: starEach es X.env := by rfl) (hplain : (backTo cpos (starEach es X.env)).any (·.1) = false := by rfl) :
    PE X (.Call (.Attribute o name apos) (e :: es) [] cpos) (tM c U (mMut g fo fa)) :=
  pe_imp (pe_bm PySem.F.plainAttrs_list slot hty hm ho ha hbase hfew hline hs hplain) fun σ H Q h => mut_use (by rw [hc]) hd h
theorem me_mut0 {o : Expr} {name : Str} {apos cpos : Pos} {id : String} {r : V → List V → Hp → VK → Prop} {g : List D → List D → Option (D × List D)} {fo : FE} (hc : X.K = c.K) (slot : Slot "list" name id) (hty : typeOf (.builtin id) = pure (.type "method_descriptor")) (hm : MtM X id r) (hd : MutD c r g) (ho : PE X o (tM c U fo))
    (hbase : attributeBase o name X.env (eval o X.env) = eval o X.env := by rfl) (hline : (apos.endLine == cpos.line) = true := by rfl) : PE X (.Call (.Attribute o name apos) [] [] cpos) (tM c U (mMut g fo mNil)) :=
  pe_imp (pe_bm0 PySem.F.plainAttrs_list slot hty hm ho hbase hline) fun σ H Q h => (mut_use (K := X.K) (by rw [hc]) hd h).mono fun v H1 ⟨h1, e, ρ, vh, he, hh, h2⟩ => ⟨h1, h2.here hh [] trivial⟩
def gAppend (ds xs : List D) : Option (D × List D) := match xs with
  | [x] => if ds.length < sizeLine then some (.non, ds ++ [x]) else none
  | _ => none
theorem mu_append : MutD c rAppend gAppend := fun H ρ a ds us xs vs z ds' Q hH l r rx e k => by
  unfold gAppend at e
  split at e
  · split at e
    · rename_i x hl
      cases e
      match vs, rx with
      | [v], ⟨r1, _⟩ =>
        refine ⟨a, us, v, rfl, rfl, hH, by rw [← r.length]; exact hl, k .non _ (r.append ⟨r1, trivial⟩) ?_ fun ρ' _ => .inr rfl⟩
        rw [List.length_append]; exact hl
    · cases e
  · cases e
def gInsert (ds xs : List D) : Option (D × List D) := match xs with
  | [.int i, x] => if ds.length < sizeLine ∧ 0 ≤ i ∧ i < 2 ^ 63 then some (.non, ds.take i.toNat ++ [x] ++ ds.drop i.toNat) else none
  | _ => none
abbrev rInsert : V → List V → Hp → VK → Prop := fun x vs H Q => ∃ (l : Addr) (xs : List V) (i : Int) (y : V), x = .ref l ∧ vs = [.int i, y] ∧ H l = some (.lst xs) ∧ xs.length < sizeLine ∧ 0 ≤ i ∧ i < 2 ^ 63 ∧ Q .non (upd H l (.lst (xs.take i.toNat ++ [y] ++ xs.drop i.toNat)))
theorem mu_insert : MutD c rInsert gInsert := fun H ρ a ds us xs vs z ds' Q hH l r rx e k => by
  unfold gInsert at e
  split at e
  · split at e
    · rename_i i x hl
      cases e
      match vs, rx with
      | [v0, v], ⟨r0, r1, _⟩ =>
        cases r0
        refine ⟨a, us, i, v, rfl, rfl, hH, by rw [← r.length]; exact hl.1, hl.2.1, hl.2.2, k .non _ (((r.take i.toNat).append (show RelDs c H ρ [x] [v] from ⟨r1, trivial⟩)).append (r.drop i.toNat)) ?_ fun ρ' _ => .inr rfl⟩
        have h1 := hl.1
        simp only [List.length_append, List.length_take, List.length_drop, List.length_singleton]
        omega
    · cases e
  · cases e
def gClear (ds xs : List D) : Option (D × List D) := match xs with
  | [] => some (.non, [])
  | _ => none
theorem mu_clear : MutD c rClear gClear := fun H ρ a ds us xs vs z ds' Q hH l r rx e k => by
  unfold gClear at e
  split at e
  · cases e
    match vs, rx with
    | [], _ => exact ⟨a, us, rfl, rfl, hH, k .non [] trivial (Nat.zero_le _) fun ρ' _ => .inr rfl⟩
  · cases e
end
end Mn

namespace Mn
open PySem PySem.Spec PyProof.Rows L2

/-! ### targets -/
abbrev FTg := D → Env → Option Env
def SameBut (vs : List Nat) (σ σ' : L2.St) : Prop := σ'.length = σ.length ∧ ∀ i, i ∉ vs → σ'[i]? = σ[i]?
def tMG (c : Cn) (A : FTg) (vs : List Nat) : TG := fun v σ H Q => ∃ e ρ d e', RelE c H ρ e σ ∧ RelD c H ρ d v ∧ A d e = some e' ∧ ∀ σ', RelE c H ρ e' σ' → SameBut vs σ σ' → Q σ' H
def aName (i : Nat) : FTg := fun d e => some (e.set i (some (.d d)))
abbrev FTgs := List D → Env → Option Env
def aNil : FTgs := fun ds e => match ds with
  | [] => some e
  | _ => none
def aCons (A : FTg) (B : FTgs) : FTgs := fun ds e => match ds with
  | d :: r => match A d e with
    | some e' => B r e'
    | none => none
  | [] => none
def aTup (n : Nat) (B : FTgs) : FTg := fun d e => match asTup d with
  | some ds => if ds.length = n then B ds e else none
  | none => none
def tMGs (c : Cn) (A : FTgs) (vs : List Nat) : TGs := fun us σ H Q => ∃ e ρ ds e', RelE c H ρ e σ ∧ RelDs c H ρ ds us ∧ A ds e = some e' ∧ ∀ σ', RelE c H ρ e' σ' → SameBut vs σ σ' → Q σ' H
section
variable {X : Cx} {c : Cn} {U : WX} {pos : Pos}
theorem SameBut.refl (vs : List Nat) (σ : L2.St) : SameBut vs σ σ := ⟨rfl, fun _ _ => rfl⟩
theorem SameBut.trans {vs : List Nat} {σ σ1 σ2 : L2.St} (a : SameBut vs σ σ1) (b : SameBut vs σ1 σ2) : SameBut vs σ σ2 := ⟨b.1.trans a.1, fun i hi => (b.2 i hi).trans (a.2 i hi)⟩
theorem SameBut.mono {vs ws : List Nat} {σ σ1 : L2.St} (a : SameBut vs σ σ1) (h : ∀ i ∈ vs, i ∈ ws) : SameBut ws σ σ1 := ⟨a.1, fun i hi => a.2 i fun z => hi (h i z)⟩
theorem pg_imp {tg : Expr} {t t' : TG} (h : PG X tg t) (i : ∀ v σ H Q, t' v σ H Q → t v σ H Q) : PG X tg t' := ⟨fun pins s σ H v u Q I r q => h.run pins s σ H v u Q I r (i v σ H Q q)⟩
theorem pgs_imp {ts : List Expr} {t t' : TGs} (h : PGs X ts t) (i : ∀ v σ H Q, t' v σ H Q → t v σ H Q) : PGs X ts t' := ⟨fun pins s σ H v u Q I r q => h.run pins s σ H v u Q I r (i v σ H Q q)⟩
theorem mg_name (i : Nat) {x : Str} (hN : X.N.Nodup) (hi : X.N[i]? = some x := by rfl) (hx : Loc X.env.scope x := by first | exact Or.inl rfl | exact Or.inr rfl) (hf : X.fn x = true ∨ X.env.scope.names.lookup x = some .local := by first | exact .inl rfl | exact .inr rfl) : PG X (.Name x pos) (tMG c (aName i) [i]) :=
  pg_imp (pg_name hN hi hx hf) fun v σ H Q ⟨e, ρ, d, e', he, hd, ha, k⟩ => by
    cases ha
    exact k _ (he.set (show RelW c H ρ (.d d) v from hd)) ⟨by rw [List.length_set], fun j hj => by rw [List.getElem?_set_ne (fun z => hj (by simp [z]))]⟩
theorem mgs_nil : PGs X [] (tMGs c aNil []) := pgs_imp pgs_nil fun v σ H Q ⟨e, ρ, ds, e', he, hd, ha, k⟩ => by
  cases ds with
  | nil => cases ha; cases v with
    | nil => exact ⟨rfl, k σ he (SameBut.refl _ _)⟩
    | cons _ _ => exact hd.elim
  | cons _ _ => cases ha
theorem mgs_cons {t : Expr} {ts : List Expr} {A : FTg} {B : FTgs} {vs ws : List Nat} (h1 : PG X t (tMG c A vs)) (h2 : PGs X ts (tMGs c B ws)) (hs : (assignEach (t :: ts) X.env).map (·.2) = assign t X.env :: (assignEach ts X.env).map (·.2) := by rfl) : PGs X (t :: ts) (tMGs c (aCons A B) (vs ++ ws)) :=
  pgs_imp (pgs_cons h1 h2 hs) fun us σ H Q ⟨e, ρ, ds, e', he, hd, ha, k⟩ => by
    match ds, us, hd with
    | [], _, _ => cases ha
    | d :: ds, u :: us, ⟨r, t⟩ =>
      simp only [aCons] at ha
      split at ha
      · rename_i e1 h1
        exact ⟨u, us, rfl, e, ρ, d, e1, he, r, h1, fun σ1 he1 s1 => ⟨e1, ρ, ds, e', he1, t, ha, fun σ2 he2 s2 => k σ2 he2 ((s1.mono fun i hi => List.mem_append_left _ hi).trans (s2.mono fun i hi => List.mem_append_right _ hi))⟩⟩
      · cases ha
theorem mg_tup {ts : List Expr} {k : Nat} {B : FTgs} {vs : List Nat} {n : Nat} (hk : X.K = c.K) (hc : X.calm = true) (h : PGs X ts (tMGs c B vs)) (hn : (assignEach ts X.env).length = n := by rfl) (hst : (assignEach ts X.env).findIdx? (·.1) = none := by rfl) : PG X (.Tuple ts k pos) (tMG c (aTup n B) vs) :=
  pg_imp (pg_tup hc h hn hst) fun v σ H Q ⟨e, ρ, d, e', he, hd, ha, k⟩ => by
    unfold aTup at ha
    split at ha
    · rename_i ds hds
      split at ha
      · rename_i hl
        obtain ⟨a, xs, rfl, hs, _, r⟩ := asTup_ok hd.r hds
        exact ⟨a, xs, rfl, by rw [hk]; exact hs, by rw [← r.length]; exact hl, e, ρ, ds, e', he, r, ha, k⟩
      · cases ha
    · cases ha
end

/-! ### a[i] = v -/
def mSetItem (fo fi fv : FE) : FS := fun e vh => lft (fv e vh) e fun wv vh1 => lft (fo e vh1) e fun wo vh2 => lft (fi e vh2) e fun wi vh3 => match wo with
  | .d _ => .stuck
  | .ref k => match wv with
  | .ref _ => .stuck
  | .d x => match see vh3 wi with
  | none => .stuck
  | some i => match vh3[k]? with
    | some (.lst ds) => match i with
      | .int n => match ixN ds.length n with
        | some j => .nx e (vh3.set k (.lst (ds.set j x)))
        | none => .stuck
      | _ => .stuck
    | some (.dic t kvs) => match dPut t kvs i x with
      | some kvs' => if kvs.length < sizeLine then .nx e (vh3.set k (.dic t kvs')) else .stuck
      | none => .stuck
    | _ => .stuck
section
variable {X : Cx} {c : Cn} {U : WX} {pos : Pos}
theorem PSet.or {t t' : TSet} (h : PSet X t) (h' : PSet X t') : PSet X (fun o i v H Q => t o i v H Q ∨ t' o i v H Q) := by
  intro pins s σ H o i v ov iv u Q I ro ri rv q
  rcases q with q | q
  · exact h pins s σ H o i v ov iv u Q I ro ri rv q
  · exact h' pins s σ H o i v ov iv u Q I ro ri rv q
theorem ms_setItem {o i v : Expr} {fo fi fv : FE} {pos' : Pos} (hu : X.A.units + 1 < cLine) (ho : PE X o (tM c U fo)) (hi : PE X i (tM c U fi)) (hv : PE X v (tM c U fv)) (hs : swapsWithSole [.Subscript o i pos'] v pos.line X.env = pure false := by rfl) (hw : swappedStores [.Subscript o i pos'] v X.env = pure none := by rfl)
    (h1 : (assignEach [.Subscript o i pos'] X.env).map (·.2) = [assign (.Subscript o i pos') X.env] := by rfl)
    (ha : ∀ v, assign (.Subscript o i pos') X.env v = (do
      let ov ← holding [v] (eval o X.env)
      let iv ← holding [v, ov] (eval i X.env)
      standAt pos'
      holding [v, ov, iv] (setItem ov iv v)
      release [v, ov, iv] []) := by intro _; rfl) : PS X (.Assign [.Subscript o i pos'] v pos) (tMS c U (mSetItem fo fi fv)) :=
  ps_imp (ps_asg hv (pg_sub ho hi (PSet.or set_list (set_dict hu)) ha) hs hw h1) fun D σ H ⟨e, ρ, vh, he, hh, h⟩ =>
    (useS he hh h).mono fun v1 H1 ⟨w1, vh1, ρ1, r1, A, g1, f1⟩ => (useS A.re A.rh A.out).mono fun v2 H2 ⟨w2, vh2, ρ2, r2, B, g2, f2⟩ => (useS B.re B.rh B.out).mono fun v3 H3 ⟨w3, vh3, ρ3, r3, C, g3, f3⟩ => by
      have o := C.out
      have r1' := (r1.stay g2 f2).stay g3 f3
      have r2' := r2.stay g3 f3
      cases w2 with
      | d _ => exact o.elim
      | ref k => cases w1 with
      | ref _ => exact o.elim
      | d x =>
      dsimp only at o
      cases hs3 : see vh3 w3 with
      | none => rw [hs3] at o; exact o.elim
      | some i =>
        rw [hs3] at o
        dsimp only at o
        have r3' := see_ok C.rh r3 hs3
        split at o
        · rename_i ds hk
          split at o
          · rename_i n
            split at o
            · rename_i j hj
              obtain ⟨q, hq, a, us, rfl, hH, l, rr⟩ := C.rh.at' k _ hk
              obtain rfl := r2'.2 a hq
              refine .inl ⟨a, us, n, j, rfl, r3', hH, by rw [← rr.length]; exact hj, ?_⟩
              have fm := Fm.put (H := H3) (o := .lst (us.set j v1)) hq
              refine o _ _ _ (Grow.refl _ _) fm (C.re.stay (Grow.refl _ _) fm) (C.rh.put (o := .lst (us.set j v1)) (vo := .lst (ds.set j x)) hq ⟨a, _, rfl, upd_same, by rw [List.length_set]; exact l, ?_⟩)
              exact RelDs.stay (Grow.refl _ _) fm (rr.set r1')
            · exact o.elim
          · exact o.elim
        · rename_i t kvs hk
          split at o
          · rename_i kvs' hp
            split at o
            · rename_i hl
              obtain ⟨q, hq, a, us, rfl, hd, rr⟩ := C.rh.at' k _ hk
              obtain rfl := r2'.2 a hq
              have fin : ∀ (ob : HO) (us' : List V), HDic (upd H3 a ob) a t kvs' us' → RelDv c H3 ρ3 kvs' us' → D.nx σ (upd H3 a ob) := fun ob us' hd' rr' => by
                have fm := Fm.put (H := H3) (o := ob) hq
                exact o _ _ _ (Grow.refl _ _) fm (C.re.stay (Grow.refl _ _) fm) (C.rh.put (o := ob) (vo := .dic t kvs') hq ⟨a, us', rfl, hd', RelDv.stay (Grow.refl _ _) fm rr'⟩)
              cases t with
              | false =>
                obtain ⟨ks, h1, h2⟩ := hd
                obtain ⟨key, hk1, rfl⟩ := Option.map_eq_some_iff.mp hp
                obtain ⟨ks', xs', e1, e2, e3⟩ := putK_K (v := v1) (d := x) hk1 r1' h1 rr
                refine .inr ⟨a, _, rfl, .inl ⟨_, key, h2, r3'.d_key hk1, by rw [List.length_zip, keysK_len h1, ← rr.length, Nat.min_self]; exact hl, rfl⟩, ?_⟩
                rw [e2]
                exact fin _ xs' ⟨ks', e1, upd_same⟩ e3
              | true =>
                obtain ⟨ks, h1, h2⟩ := hd
                obtain ⟨key, hk1, rfl⟩ := Option.map_eq_some_iff.mp hp
                obtain ⟨ks', xs', e1, e2, e3⟩ := putK_T (v := v1) (d := x) hk1 r1' h1 rr
                obtain ⟨b, eb, hb⟩ := r3'.d_keyT hk1
                refine .inr ⟨a, _, rfl, .inr ⟨_, key, b, h2, eb, hb, by rw [List.length_zip, keysT_len h1, ← rr.length, Nat.min_self]; exact hl, rfl⟩, ?_⟩
                rw [e2]
                exact fin _ xs' ⟨ks', e1, upd_same⟩ e3
            · exact o.elim
          · exact o.elim
        · exact o.elim
end

/-! ### other hidden lists, other places -/
structure Cn.Ext (c c' : Cn) (H : Hp) : Prop where
  k : c'.K = c.K
  m : c'.mg = c.mg
  h : ∀ a, a ∈ c'.hid → a ∈ c.hid ∨ ∀ o, H a ≠ some o
structure Mv (c : Cn) (ρ : Rho) (c' : Cn) (ρ' : Rho) (H : Hp) : Prop where
  k : c'.K = c.K
  m : c'.mg = c.mg
  off : ∀ a o, Off c ρ a → H a = some o → Off c' ρ' a
section
variable {c c' : Cn} {H : Hp} {ρ ρ' : Rho}
mutual
theorem RelD.mv (x : Mv c ρ c' ρ' H) : ∀ {d : D} {v : V}, RelD c H ρ d v → RelD c' H ρ' d v
  | .non, _, h => h
  | .bl _, _, h => h
  | .int _, _, h => h
  | .str _, _, h => h
  | .tup _, _, ⟨b, xs, e, n, hH, l, r⟩ => ⟨b, xs, e, x.off _ _ n hH, hH, l, RelDs.mv x r⟩
  | .ctp _, _, ⟨b, xs, e, ⟨o, its, m, h1, h2⟩, l, r⟩ => ⟨b, xs, e, ⟨o, its, m, by rw [x.k]; exact h1, h2⟩, l, RelDs.mv x r⟩
  | .lst _, _, ⟨b, xs, e, n, hH, l, r⟩ => ⟨b, xs, e, x.off _ _ n hH, hH, l, RelDs.mv x r⟩
  | .frz _, _, ⟨b, xs, e, t, l, r⟩ => ⟨b, xs, e, t.elim (fun ⟨n, hr⟩ => .inl ⟨hr.elim (fun hr => x.off _ _ n hr) fun ⟨_, hr⟩ => x.off _ _ n hr, hr⟩) (fun ⟨o, its, m, h1, h2⟩ => .inr ⟨o, its, m, by rw [x.k]; exact h1, h2⟩), l, RelDs.mv x r⟩
  | .dic _ _, _, ⟨b, xs, e, n, hH, r⟩ => ⟨b, xs, e, let ⟨_, ho⟩ := hH.ex; x.off _ _ n ho, hH, RelDv.mv x r⟩
  | .ins _ _, _, ⟨b, C, dx, xs, e, n, hm, hH, r⟩ => ⟨b, C, dx, xs, e, x.off _ _ n hH, by rw [x.m]; exact hm, hH, RelDf.mv x r⟩
  | .ty _, _, h => h
  | .cls _, _, ⟨C, e, hm⟩ => ⟨C, e, by rw [x.m]; exact hm⟩
theorem RelDs.mv (x : Mv c ρ c' ρ' H) : ∀ {xs : List D} {vs : List V}, RelDs c H ρ xs vs → RelDs c' H ρ' xs vs
  | [], [], h => trivial
  | _ :: _, _ :: _, ⟨h, t⟩ => ⟨RelD.mv x h, RelDs.mv x t⟩
theorem RelDv.mv (x : Mv c ρ c' ρ' H) : ∀ {xs : List (D × D)} {vs : List V}, RelDv c H ρ xs vs → RelDv c' H ρ' xs vs
  | [], [], h => trivial
  | (_, _) :: _, _ :: _, ⟨h, t⟩ => ⟨RelD.mv x h, RelDv.mv x t⟩
theorem RelDf.mv (x : Mv c ρ c' ρ' H) : ∀ {xs : List (Str × D)} {vs : List V}, RelDf c H ρ xs vs → RelDf c' H ρ' xs vs
  | [], [], h => trivial
  | (_, _) :: _, _ :: _, ⟨h, t⟩ => ⟨RelD.mv x h, RelDf.mv x t⟩
end
theorem Cn.Ext.mv (x : c.Ext c' H) : Mv c ρ c' ρ H := ⟨x.k, x.m, fun a o h e => ⟨h.1, fun z => (x.h a z).elim h.2 fun w => w o e⟩⟩
theorem RelD.re (x : c.Ext c' H) {d : D} {v : V} (h : RelD c H ρ d v) : RelD c' H ρ d v := RelD.mv x.mv h
theorem RelDs.re (x : c.Ext c' H) {d : List D} {v : List V} (h : RelDs c H ρ d v) : RelDs c' H ρ d v := RelDs.mv x.mv h
theorem Cn.Ext.refl : c.Ext c H := ⟨rfl, rfl, fun _ h => .inl h⟩
end
/-! ### what is walked -/
def Feeds (c : Cn) (ds : List D) (H0 : Hp) (ρ0 : Rho) (J : It) : Prop := ∀ c' H ρ i, c.Ext c' H0 → Grow ρ0 H0 ρ → Fw c' H0 H ρ0 → Fresh c' H ρ →
  (i < ds.length → J.go i H ∧ ∀ x H', J.yld i H x H' → Same H H' ∧ ∃ d, ds[i]? = some d ∧ RelD c' H' ρ d x) ∧ (ds.length ≤ i → J.stop i H)
abbrev FI := Env → VH → Res (List D)
def tMI (c : Cn) (U : WX) (f : FI) : TI := fun σ H R => ∃ e ρ vh, RelE c H ρ e σ ∧ RelH c H ρ vh ∧ Out c σ H ρ U (f e vh) fun ds _ H' ρ' => ∀ J, Feeds c ds H' ρ' J → R J H'
def mSeqI (f : FE) : FI := fun e vh => bnd (f e vh) fun w vh1 => match w with
  | .d x => match x with
    | .str z => .ok (z.cps.toList.map fun ch => .str ⟨#[ch]⟩) vh1
    | x => opt (asSeq x) fun ds => .ok ds vh1
  | _ => .stuck
def mRange1 (f : FE) : FI := fun e vh => bnd (f e vh) fun w vh1 => match see vh1 w with
  | some (.int j) => if -(2 ^ 62) ≤ j ∧ j < 2 ^ 62 then .ok ((List.range j.toNat).map fun (i : Nat) => .int (i : Int)) vh1 else .stuck
  | _ => .stuck
section
variable {X : Cx} {c : Cn} {U : WX} {pos p : Pos} {tg iter e : Expr}
theorem useI {β : Type} {f : FI} {k : List D → VH → RS} {D : Ends} {σ : L2.St} {H : Hp} {ρ : Rho} {e : Env} {vh : VH} (he : RelE c H ρ e σ) (hh : RelH c H ρ vh) (h : OutS c H ρ U (lft (f e vh) e k) D) :
    tMI c U f σ H fun J H1 => ∃ ds vh1 ρ1, Feeds c ds H1 ρ1 J ∧ AftS c U σ e H1 ρ1 vh1 (k ds vh1) D ∧ Grow ρ H ρ1 ∧ Fm H H1 ρ := by
  refine ⟨e, ρ, vh, he, hh, ?_⟩
  cases q : f e vh with
  | ok ds vh' =>
    rw [q] at h
    exact fun H' ρ' g fm rh J fd => ⟨ds, vh', ρ', fd, ⟨he.stay g fm, rh, h.later g fm⟩, g, fm⟩
  | exn x vh' => rw [q] at h; exact fun cls d H' ρ' g fm rx rh => h cls d σ H' ρ' g fm rx (he.stay g fm) rh
  | stuck => rw [q] at h; exact h
theorem useIE {β : Type} {f : FI} {k : List D → VH → Res β} {K : β → VH → Hp → Rho → Prop} {σ : L2.St} {H : Hp} {ρ : Rho} {e : Env} {vh : VH} (he : RelE c H ρ e σ) (hh : RelH c H ρ vh) (h : Out c σ H ρ U (bnd (f e vh) k) K) :
    tMI c U f σ H fun J H1 => ∃ ds vh1 ρ1, Feeds c ds H1 ρ1 J ∧ Aft c U σ e H1 ρ1 vh1 (k ds vh1) K ∧ Grow ρ H ρ1 ∧ Fm H H1 ρ := by
  refine ⟨e, ρ, vh, he, hh, ?_⟩
  cases q : f e vh with
  | ok ds vh' =>
    rw [q] at h
    exact fun H' ρ' g fm rh J fd => ⟨ds, vh', ρ', fd, ⟨he.stay g fm, rh, h.later g fm⟩, g, fm⟩
  | exn x vh' => rw [q] at h; exact h
  | stuck => rw [q] at h; exact h
theorem tMI.mono {f : FI} {σ : L2.St} {H : Hp} {Q Q' : It → Hp → Prop} (h : tMI c U f σ H Q) (q : ∀ v H, Q v H → Q' v H) : tMI c U f σ H Q' := by
  obtain ⟨e, ρ, vh, he, hh, o⟩ := h
  exact ⟨e, ρ, vh, he, hh, o.mono fun _ _ _ _ k J fd => q _ _ (k J fd)⟩
theorem pi_imp {t t' : TI} (h : PI X tg iter t) (i : ∀ σ H R, t' σ H R → t σ H R) : PI X tg iter t' := ⟨fun pins s σ H R I q => h.run pins s σ H R I (i σ H R q)⟩
theorem pi_or {t t' u : TI} (h : PI X tg iter t) (h' : PI X tg iter t') (k : ∀ σ H R, u σ H R → t σ H R ∨ t' σ H R) : PI X tg iter u := ⟨fun pins s σ H R I q => (k σ H R q).elim (h.run pins s σ H R I) (h'.run pins s σ H R I)⟩
theorem range_it' : True := trivial
/-- a list, a tuple or a text -/
theorem mi_seq {f : FE} (hk : X.K = c.K) (he : PE X iter (tM c U f)) : PI X tg iter (tMI c U (mSeqI f)) := by
  refine ⟨fun pins s σ H R I hw => ?_⟩
  obtain ⟨en, ρ, vh, he0, hh, h⟩ := hw
  have h2 : tM c U f σ H fun v H1 => (∃ a xs ds ρ1 vh1, v = .ref a ∧ H1 a = some (.lst xs) ∧ RelD c H1 ρ1 (.lst ds) v ∧ RelH c H1 ρ1 vh1 ∧ ∀ J, Feeds c ds H1 ρ1 J → R J H1) ∨ (∃ a xs ds ρ1 vh1, v = .ref a ∧ SqT c.K H1 a xs ∧ (RelD c H1 ρ1 (.tup ds) v ∨ RelD c H1 ρ1 (.ctp ds) v) ∧ RelH c H1 ρ1 vh1 ∧ ∀ J, Feeds c ds H1 ρ1 J → R J H1) ∨
      (∃ z, v = .str z ∧ ∃ ρ1, PyData.strOk z = true ∧ ∀ J, Feeds c (z.cps.toList.map fun ch => .str ⟨#[ch]⟩) H1 ρ1 J → R J H1) := by
    refine (use he0 hh h).mono fun v H1 ⟨w, vh1, ρ1, r, A, g1, f1⟩ => ?_
    have o := A.out
    split at o
    · rename_i x
      split at o
      · rename_i z
        exact .inr (.inr ⟨z, r.1, ρ1, r.2.2, o.here A.rh⟩)
      · obtain ⟨ds, hd, o⟩ := opt_out o
        have k := o.here A.rh
        cases x with
        | lst _ => cases hd; obtain ⟨a, xs, e1, n, hH, l, rr⟩ := id r; exact .inl ⟨a, xs, ds, ρ1, vh1, e1, hH, r, A.rh, k⟩
        | tup _ => cases hd; obtain ⟨a, xs, e1, n, hH, l, rr⟩ := id r; exact .inr (.inl ⟨a, xs, ds, ρ1, vh1, e1, .of hH, .inl r, A.rh, k⟩)
        | ctp _ => cases hd; obtain ⟨a, xs, e1, t, l, rr⟩ := id r; exact .inr (.inl ⟨a, xs, ds, ρ1, vh1, e1, t.sq, .inr r, A.rh, k⟩)
        | _ => cases hd
    · exact o.elim
  refine thn (he.run pins s σ H _ I h2) fun v s1 ⟨x, H1, I1, r1, q1⟩ => ?_
  rcases q1 with ⟨a, xs, ds, ρ1, vh1, rfl, hH, hr, rh, k⟩ | ⟨a, xs, ds, ρ1, vh1, rfl, hs, hr, rh, k⟩ | ⟨z, rfl, ρ1, hs, k⟩
  · cases r1
    obtain ⟨its, rv, p, hz⟩ := I1.list (.of hH)
    refine wpAny_pyIter_list p.isList ?_
    refine ⟨s1.heap.objs.size, [s1.heap.objs.size], _, _, H1, rfl, I1.kept (t' := s1.toks) fun b o e => Heap.get?_push_of_some _ e, turn_list a _, ⟨_, Heap.get?_push_size _ rfl, rfl, rfl⟩, fun b hb => ?_, k _ ?_⟩
    · have e : b = s1.heap.objs.size := by simpa using hb
      subst e
      exact I1.fpOk (Nat.le_refl _) (I1.hok.fresh (Nat.le_refl _))
    · intro c' H' ρ' i ce g f fr
      obtain ⟨a', xs', e1, n', hH', l', rr'⟩ := RelD.stayw g f (RelD.re ce hr)
      cases e1
      refine ⟨fun hi => ⟨⟨xs', xs'[i]'(by rw [← rr'.length]; exact hi), .of hH', by simp [← rr'.length, hi]⟩, fun x H2 hy => ?_⟩, fun hi => ⟨xs', .of hH', by rw [← rr'.length]; exact hi⟩⟩
      obtain ⟨rfl, hx⟩ := hy
      have hx' := hx xs' (.of hH')
      obtain ⟨d, h1, h2⟩ := rr'.get' hx'
      exact ⟨Same.refl _, d, h1, h2⟩
  · cases r1
    obtain ⟨its, rv, p, hz⟩ := I1.tuple (show SqT X.K H1 a xs by rw [hk]; exact hs)
    refine wpAny_pyIter_tuple (show s1.heap.IsTuple a its.toArray from p) ?_
    refine ⟨s1.heap.objs.size, [s1.heap.objs.size], _, _, H1, rfl, I1.kept (t' := s1.toks) fun b o e => Heap.get?_push_of_some _ e, turn_tuple a _, ⟨_, Heap.get?_push_size _ rfl, rfl, rfl⟩, fun b hb => ?_, k _ ?_⟩
    · have e : b = s1.heap.objs.size := by simpa using hb
      subst e
      exact I1.fpOk (Nat.le_refl _) (I1.hok.fresh (Nat.le_refl _))
    · intro c' H' ρ' i ce g f fr
      obtain ⟨xs', hs', rr'⟩ : ∃ xs', SqT X.K H' a xs' ∧ RelDs c' H' ρ' ds xs' := by
        rw [hk, ← ce.k]
        rcases hr with hr | hr
        · obtain ⟨a', xs', e1, n', hH', l', rr'⟩ := RelD.stayw g f (RelD.re ce hr); cases e1; exact ⟨xs', .of hH', rr'⟩
        · obtain ⟨a', xs', e1, t', l', rr'⟩ := RelD.stayw g f (RelD.re ce hr); cases e1; exact ⟨xs', t'.sq, rr'⟩
      refine ⟨fun hi => ⟨⟨xs', xs'[i]'(by rw [← rr'.length]; exact hi), hs', by simp [← rr'.length, hi]⟩, fun x H2 hy => ?_⟩, fun hi => ⟨xs', hs', by rw [← rr'.length]; exact hi⟩⟩
      obtain ⟨rfl, hx⟩ := hy
      have hx' := hx xs' hs'
      obtain ⟨d, h1, h2⟩ := rr'.get' hx'
      exact ⟨Same.refl _, d, h1, h2⟩
  · obtain ⟨t, rfl⟩ := r1
    have fd : Feeds c (z.cps.toList.map fun ch => .str ⟨#[ch]⟩) H1 ρ1 (Its z) := fun c' H' ρ' i ce g f fr => by
      rw [List.length_map, Array.length_toList]
      refine ⟨fun hi => ⟨hi, fun x H2 hy => ?_⟩, fun hi => hi⟩
      obtain ⟨rfl, ch, hc, rfl⟩ := hy
      have hm : ch ∈ z.cps.toList := by simpa using Array.mem_of_getElem? hc
      exact ⟨Same.refl _, .str ⟨#[ch]⟩, by rw [List.getElem?_map, Array.getElem?_toList, hc]; rfl, rfl, by show 1 ≤ sizeLine; decide, strOk_one hs hm⟩
    cases ha : z.cps.all (· < 128)
    · exact wpAny_pyIter_wide ha (pi_one (tk := s1.toks) I1 _ (turn_str _ z t "str_iterator" (.inr rfl)) ⟨_, Heap.get?_push_size _ rfl, rfl, rfl⟩ (k _ fd))
    · exact wpAny_pyIter_ascii ha (pi_one (tk := s1.toks) I1 _ (turn_str _ z t "str_ascii_iterator" (.inl rfl)) ⟨_, Heap.get?_push_size _ rfl, rfl, rfl⟩ (k _ fd))
/-- range(n) -/
theorem mi_range1 {a : Expr} {f : FE} (hg : Gl X "range") (hm : X.mg "range" = none) (ha : PE X a (tM c U f)) (hs : starEach [a] X.env = [(false, eval a X.env)] := by rfl) : PI X tg (.Call (.Name "range" p) [a] [] pos) (tMI c U (mRange1 f)) :=
  pi_imp (pi_range1 hg hm (ma_cons ha ma_nil (by rw [hs]; rfl)) hs) fun σ H R ⟨e, ρ, vh, he, hh, h⟩ => by
    refine ⟨e, ρ, vh, he, hh, ?_⟩
    unfold mRange1 at h
    unfold mCons mNil
    cases q : f e vh with
    | stuck => rw [q] at h; exact h.elim
    | exn x vh' => rw [q] at h; exact h
    | ok w vh' =>
      rw [q, bnd_ok] at h
      rw [bnd_ok, bnd_ok]
      intro H' ρ' g f rh vs hr
      match vs, hr with
      | [v], ⟨r, _⟩ =>
        cases hs : see vh' w with
        | none => simp only [hs] at h; exact h.elim
        | some x =>
          simp only [hs] at h
          split at h
          · rename_i j hj
            cases hj
            split at h
            · rename_i hb
              refine ⟨j, by rw [show v = .int j from see_ok rh r hs], hb.1, hb.2, h H' ρ' g f rh _ fun c' H2 ρ2 i ce g2 f2 fr => ?_⟩
              rw [List.length_map, List.length_range]
              refine ⟨fun hi => ⟨hi, fun x H3 hy => ?_⟩, fun hi => hi⟩
              obtain ⟨rfl, rfl⟩ := hy
              exact ⟨Same.refl _, .int (i : Int), by simp [hi], by show V.int (0 + (i : Int)) = V.int (i : Int); rw [Int.zero_add]⟩
            · exact h.elim
          · exact h.elim
end
end Mn

namespace Mn
open PySem PySem.Spec PyProof.Rows L2

/-! ### for, while -/
def mFor (A : FTg) (f : FS) : List D → Env → VH → RS
  | [], e, vh => .nx e vh
  | d :: ds, e, vh => match A d e with
    | none => .stuck
    | some e' => match f e' vh with
      | .nx e2 vh2 => mFor A f ds e2 vh2
      | .ct e2 vh2 => mFor A f ds e2 vh2
      | .bk e2 vh2 => .nx e2 vh2
      | r => r
def mForS (fi : FI) (A : FTg) (f : FS) : FS := fun e vh => lft (fi e vh) e fun ds vh' => mFor A f ds e vh'
def mWhile (t : FT) (f : FS) : Nat → Env → VH → RS
  | 0, _, _ => .stuck
  | n + 1, e, vh => lft (t e vh) e fun b vh1 => if b = true then match f e vh1 with
      | .nx e2 vh2 => mWhile t f n e2 vh2
      | .ct e2 vh2 => mWhile t f n e2 vh2
      | .bk e2 vh2 => .nx e2 vh2
      | r => r
    else .nx e vh1
section
variable {X : Cx} {c : Cn} {U : WX} {pos : Pos}
theorem ms_for {tg iter : Expr} {body : List Stmt} {fi : FI} {A : FTg} {vs : List Nat} {f : FS} (hp : PassesOwn (model X.prog X.w) X.A X.env X.xe) (hc : X.calm = true) (hi : PI X tg iter (tMI c U fi)) (hg : PG X tg (tMG c A vs)) (hb : PSs X body (tMS c U f))
    (hs : ∀ x, foldedSetIterable iter X.env x = pure x := by intro _; rfl) : PS X (.For tg iter body [] pos) (tMS c U (mForS fi A f)) :=
  ps_imp (ps_for hp hc hi hg hb hs) fun D σ H ⟨e, ρ, vh, he, hh, h⟩ => (useI (β := Unit) he hh h).mono fun J H1 ⟨ds, vh1, ρ1, fd, A0, g1, f1⟩ => by
    refine ⟨fun i m σ2 H2 => m = ds.length - i ∧ i ≤ ds.length ∧ ∃ e2 ρ2 vh2, Grow ρ1 H1 ρ2 ∧ Fm H1 H2 ρ1 ∧ RelE c H2 ρ2 e2 σ2 ∧ RelH c H2 ρ2 vh2 ∧ OutS c H2 ρ2 U (mFor A f (ds.drop i) e2 vh2) D,
      ⟨ds.length, by simp, Nat.zero_le _, e, ρ1, vh1, Grow.refl _ _, Fm.refl _ _, A0.re, A0.rh, A0.out⟩, ?_⟩
    rintro i m σ2 H2 ⟨rfl, hi, e2, ρ2, vh2, g2, f2, re, rh, o⟩
    obtain ⟨k1, k2⟩ := fd c H2 ρ2 i .refl g2 f2.w rh.fr
    by_cases hlt : i < ds.length
    · obtain ⟨go, yl⟩ := k1 hlt
      refine .inr ⟨go, fun σ' H' => ∃ e' ρ' vh', Grow ρ1 H1 ρ' ∧ Fm H1 H' ρ1 ∧ RelE c H' ρ' e' σ' ∧ RelH c H' ρ' vh' ∧ OutS c H' ρ' U (mFor A f (ds.drop (i + 1)) e' vh') D, fun σ' H' ⟨e', ρ', vh', a1, a2, a3, a4, a5⟩ => ⟨ds.length - (i + 1), by omega, rfl, hlt, e', ρ', vh', a1, a2, a3, a4, a5⟩, fun x H' hy => ?_⟩
      obtain ⟨sm, d, hd, rd⟩ := yl x H' hy
      rw [List.drop_eq_getElem_cons hlt] at o
      have ed : ds[i] = d := by rw [List.getElem?_eq_getElem hlt] at hd; exact Option.some.inj hd
      rw [ed] at o
      have re' : RelE c H' ρ2 e2 σ2 := re.stay (Grow.refl _ _) (Fm.same sm)
      have o' := o.later (Grow.refl _ _) (Fm.same sm)
      simp only [mFor] at o'
      cases qa : A d e2 with
      | none => rw [qa] at o'; exact o'.elim
      | some e' =>
        rw [qa] at o'
        dsimp only at o'
        refine ⟨e2, ρ2, d, e', re', rd, qa, fun σ' re2 _ => ⟨e', ρ2, vh2, re2, rh.same sm, ?_⟩⟩
        have f3 : Fm H1 H' ρ1 := Fm.trans g2 f2 (Fm.same sm)
        cases qf : f e' vh2 with
        | nx e3 vh3 => rw [qf] at o'; exact fun σ3 H3 ρ3 g3 f4 a b => ⟨e3, ρ3, vh3, g2.trans f2 (by exact ⟨g3.len, g3.old, fun a ha => (g3.new a ha).imp id fun z => by cases q : H2 a with | none => rfl | some o => rw [sm a o q] at z; cases z⟩), Fm.trans g2 f2 (Fm.trans (Grow.refl ρ2 H2) (Fm.same sm) f4), a, b, o'.later g3 f4⟩
        | ct e3 vh3 => rw [qf] at o'; exact fun σ3 H3 ρ3 g3 f4 a b => ⟨e3, ρ3, vh3, g2.trans f2 (by exact ⟨g3.len, g3.old, fun a ha => (g3.new a ha).imp id fun z => by cases q : H2 a with | none => rfl | some o => rw [sm a o q] at z; cases z⟩), Fm.trans g2 f2 (Fm.trans (Grow.refl ρ2 H2) (Fm.same sm) f4), a, b, o'.later g3 f4⟩
        | bk e3 vh3 => rw [qf] at o'; exact o'
        | rt w vh3 => rw [qf] at o'; exact o'
        | exn x e3 vh3 => rw [qf] at o'; exact o'
        | stuck => rw [qf] at o'; exact o'
    · have ei : i = ds.length := by omega
      subst ei
      rw [List.drop_length] at o
      exact .inl ⟨k2 (Nat.le_refl _), o.here re rh⟩
theorem ms_while {test : Expr} {body : List Stmt} {t : FT} {f : FS} (n : Nat) (hp : PassesOwn (model X.prog X.w) X.A X.env X.xe) (hc : PT X test (tMT c U t)) (hb : PSs X body (tMS c U f)) : PS X (.While test body [] pos) (tMS c U (mWhile t f n)) :=
  ps_imp (ps_while hp hc hb) fun D σ H ⟨e, ρ, vh, he, hh, h⟩ => by
    refine ⟨fun m σ2 H2 => ∃ e2 ρ2 vh2, RelE c H2 ρ2 e2 σ2 ∧ RelH c H2 ρ2 vh2 ∧ OutS c H2 ρ2 U (mWhile t f m e2 vh2) D, ⟨n, e, ρ, vh, he, hh, h⟩, ?_⟩
    rintro m σ2 H2 ⟨e2, ρ2, vh2, re, rh, o⟩
    cases m with
    | zero => exact o.elim
    | succ m =>
      simp only [mWhile] at o
      refine (useST re rh o).mono fun b H3 ⟨vh3, ρ3, B, _, _⟩ => ?_
      have o' := B.out
      cases b with
      | false => exact iteF (o'.here B.re B.rh)
      | true =>
        refine iteT ⟨fun σ' H' => ∃ e' ρ' vh', RelE c H' ρ' e' σ' ∧ RelH c H' ρ' vh' ∧ OutS c H' ρ' U (mWhile t f m e' vh') D, fun σ' H' ⟨e', ρ', vh', a3, a4, a5⟩ => ⟨m, Nat.lt_succ_self m, e', ρ', vh', a3, a4, a5⟩, ⟨e2, ρ3, vh3, B.re, B.rh, ?_⟩⟩
        rw [if_pos rfl] at o'
        cases qf : f e2 vh3 with
        | nx e3 vh4 => rw [qf] at o'; exact fun σ3 H3 ρ3 g3 f4 a b => ⟨e3, ρ3, vh4, a, b, o'.later g3 f4⟩
        | ct e3 vh4 => rw [qf] at o'; exact fun σ3 H3 ρ3 g3 f4 a b => ⟨e3, ρ3, vh4, a, b, o'.later g3 f4⟩
        | bk e3 vh4 => rw [qf] at o'; exact o'
        | rt w vh4 => rw [qf] at o'; exact o'
        | exn x e3 vh4 => rw [qf] at o'; exact o'
        | stuck => rw [qf] at o'; exact o'
end

/-! ### comprehensions -/
def wipeE (e : Env) : List Nat → Env
  | [] => e
  | v :: vs => (wipeE e vs).set v none
def mTests : List FT → FT
  | [] => fun _ vh => .ok true vh
  | t :: ts => fun e vh => bnd (t e vh) fun b vh1 => if b = true then mTests ts e vh1 else .ok false vh1
def mComp (A : FTg) (t : FT) (f : FE) (e : Env) : List D → VH → Res (List D)
  | [], vh => .ok [] vh
  | d :: ds, vh => match A d e with
    | none => .stuck
    | some e' => match t e' vh with
      | .ok false vh1 => mComp A t f e ds vh1
      | .ok true vh1 => match f e' vh1 with
        | .ok (.d x) vh2 => match mComp A t f e ds vh2 with
          | .ok xs vh3 => .ok (x :: xs) vh3
          | _ => .stuck
        | _ => .stuck
      | _ => .stuck
/-- a list comprehension; m: it will change -/
def mLc (m : Bool) (fi : FI) (A : FTg) (t : FT) (f : FE) (vs : List Nat) : FE := fun e vh => bnd (fi e vh) fun ds vh1 => match mComp A t f (wipeE e vs) ds vh1 with
  | .ok xs vh2 => if xs.length ≤ sizeLine then (if m then .ok (.ref vh2.length) (vh2 ++ [.lst xs]) else .ok (.d (.lst xs)) vh2) else .stuck
  | _ => .stuck
abbrev Cn.hide (c : Cn) (a : Addr) : Cn := { c with hid := a :: c.hid }
section
variable {c : Cn} {H : Hp} {ρ : Rho} {vh : VH}
theorem RelE.wipe {e : Env} {σ : L2.St} (h : RelE c H ρ e σ) : ∀ vs : List Nat, RelE c H ρ (wipeE e vs) (L2.wipe σ vs)
  | [] => h
  | v :: vs => by
    have go : ∀ {e : Env} {σ : L2.St} {i : Nat}, RelE c H ρ e σ → RelE c H ρ (e.set i none) (σ.set i none) := by
      intro e
      induction e with
      | nil => intro σ i h; cases σ with
        | nil => trivial
        | cons _ _ => exact h.elim
      | cons o e ih => intro σ i h; cases σ with
        | nil => cases o <;> exact h.elim
        | cons s σ =>
          cases i with
          | zero => cases o with
            | none => exact h
            | some w => cases s with
              | none => exact h.elim
              | some v => exact h.2
          | succ i => cases o with
            | none => exact ih (σ := σ) (i := i) h
            | some w => cases s with
              | none => exact h.elim
              | some v => exact ⟨h.1, ih (σ := σ) (i := i) h.2⟩
    exact go (RelE.wipe h vs)
theorem Cn.ext_hide {a : Addr} (ha : H a = none) : c.Ext (c.hide a) H := ⟨rfl, rfl, fun b hb => (List.mem_cons.mp hb).elim (fun e => .inr fun o z => by rw [e, ha] at z; cases z) .inl⟩
theorem Cn.ext_bare {a : Addr} : (c.hide a).Ext c H := ⟨rfl, rfl, fun b hb => .inl (List.mem_cons_of_mem _ hb)⟩
/-- the places of ρ stand in ρ' -/
def Pre (ρ ρ' : Rho) : Prop := ρ.length ≤ ρ'.length ∧ ∀ i, i < ρ.length → ρ'[i]? = ρ[i]?
theorem Pre.refl (ρ : Rho) : Pre ρ ρ := ⟨Nat.le_refl _, fun _ _ => rfl⟩
theorem RelW.conv {c' : Cn} {H' : Hp} {ρ' : Rho} (p : Pre ρ ρ') (k : ∀ x v, RelD c H ρ x v → RelD c' H' ρ' x v) : ∀ {w : W} {v : V}, RelW c H ρ w v → RelW c' H' ρ' w v
  | .d _, _, h => k _ _ h
  | .ref _, _, ⟨h1, h2⟩ => ⟨Nat.lt_of_lt_of_le h1 p.1, fun a ha => h2 a (by rw [← p.2 _ h1]; exact ha)⟩
theorem RelE.conv {c' : Cn} {H' : Hp} {ρ' : Rho} (p : Pre ρ ρ') (k : ∀ x v, RelD c H ρ x v → RelD c' H' ρ' x v) : ∀ {e : Env} {σ : L2.St}, RelE c H ρ e σ → RelE c' H' ρ' e σ
  | [], [], h => trivial
  | some _ :: _, some _ :: _, ⟨h, t⟩ => ⟨RelW.conv p k h, RelE.conv p k t⟩
  | none :: e, _ :: σ, t => RelE.conv (e := e) (σ := σ) p k t
theorem RelDs.conv {c' : Cn} {H' : Hp} {ρ' : Rho} (k : ∀ x v, RelD c H ρ x v → RelD c' H' ρ' x v) : ∀ {xs : List D} {vs : List V}, RelDs c H ρ xs vs → RelDs c' H' ρ' xs vs
  | [], [], h => trivial
  | _ :: _, _ :: _, ⟨h, t⟩ => ⟨k _ _ h, RelDs.conv k t⟩
theorem RelDv.conv {c' : Cn} {H' : Hp} {ρ' : Rho} (k : ∀ x v, RelD c H ρ x v → RelD c' H' ρ' x v) : ∀ {xs : List (D × D)} {vs : List V}, RelDv c H ρ xs vs → RelDv c' H' ρ' xs vs
  | [], [], h => trivial
  | (_, _) :: _, _ :: _, ⟨h, t⟩ => ⟨k _ _ h, RelDv.conv k t⟩
theorem RelWf.conv {c' : Cn} {H' : Hp} {ρ' : Rho} (p : Pre ρ ρ') (k : ∀ x v, RelD c H ρ x v → RelD c' H' ρ' x v) : ∀ {xs : List (Str × W)} {vs : List V}, RelWf c H ρ xs vs → RelWf c' H' ρ' xs vs
  | [], [], h => trivial
  | (_, _) :: _, _ :: _, ⟨h, t⟩ => ⟨RelW.conv p k h, RelWf.conv p k t⟩
theorem RelO.conv {c' : Cn} {H' : Hp} {ρ' : Rho} (p : Pre ρ ρ') (km : c'.mg = c.mg) (k : ∀ x v, RelD c H ρ x v → RelD c' H' ρ' x v) {vo : VO} {o : Option Addr} (s : ∀ a u, o = some a → H a = some u → H' a = some u) (h : RelO c H ρ vo o) : RelO c' H' ρ' vo o := by
  cases vo with
  | dead => exact h
  | lst ds => obtain ⟨a, xs, e, hH, l, r⟩ := h; exact ⟨a, xs, e, s a _ e hH, l, r.conv k⟩
  | dic t kvs => obtain ⟨a, xs, e, hH, r⟩ := h; exact ⟨a, xs, e, hH.to fun u q => s a u e q, r.conv k⟩
  | ins n fs => obtain ⟨a, C, dx, xs, e, hm, hH, r⟩ := h; exact ⟨a, C, dx, xs, e, by rw [km]; exact hm, s a _ e hH, r.conv p k⟩
/-- the hidden list comes to light as a changeable one -/
theorem Mv.show {a : Addr} : Mv (c.hide a) ρ c (ρ ++ [some a]) H := ⟨rfl, rfl, fun b o h e => ⟨fun z => by
  rcases List.mem_append.mp z with z | z
  · exact h.1 z
  · simp at z; subst z; exact h.2 List.mem_cons_self, fun z => h.2 (List.mem_cons_of_mem _ z)⟩⟩
theorem Pre.snoc {o : Option Addr} : Pre ρ (ρ ++ [o]) := ⟨by simp, fun i hi => List.getElem?_append_left hi⟩
theorem RelH.show {a : Addr} {vo : VO} (h : RelH (c.hide a) H ρ vh) (hc : a ∉ c.hid) (r : RelO c H (ρ ++ [some a]) vo (some a)) : RelH c H (ρ ++ [some a]) (vh ++ [vo]) where
  len := by simp [h.len]
  inj := fun i j b hi hj => by
    have na := (h.hid a List.mem_cons_self).2
    have at_ : ∀ i b, (ρ ++ [some a])[i]? = some (some b) → (i < ρ.length ∧ ρ[i]? = some (some b)) ∨ (i = ρ.length ∧ b = a) := fun i b e => by
      by_cases li : i < ρ.length
      · rw [List.getElem?_append_left li] at e; exact .inl ⟨li, e⟩
      · rw [List.getElem?_append_right (by omega)] at e
        cases q : i - ρ.length with
        | zero => rw [q] at e; exact .inr ⟨by omega, by simpa using e.symm⟩
        | succ n => rw [q] at e; simp at e
    rcases at_ i b hi with ⟨l1, e1⟩ | ⟨e1, z1⟩
    · rcases at_ j b hj with ⟨l2, e2⟩ | ⟨e2, z2⟩
      · exact h.inj i j b e1 e2
      · subst z2; exact absurd (List.mem_of_getElem? e1) na
    · rcases at_ j b hj with ⟨l2, e2⟩ | ⟨e2, z2⟩
      · subst z1; exact absurd (List.mem_of_getElem? e2) na
      · omega
  at' := fun i vo' e => by
    by_cases li : i < vh.length
    · rw [List.getElem?_append_left li] at e
      obtain ⟨u, hu, r'⟩ := h.at' i vo' e
      exact ⟨u, by rw [List.getElem?_append_left (by rw [h.len]; exact li)]; exact hu, RelO.conv (c := c.hide a) (c' := c) (H := H) (H' := H) Pre.snoc rfl (fun x v hx => RelD.mv Mv.show hx) (fun _ _ _ z => z) r'⟩
    · rw [List.getElem?_append_right (by omega)] at e
      cases q : i - vh.length with
      | zero =>
        rw [q] at e
        simp at e; subst e
        refine ⟨some a, ?_, r⟩
        rw [List.getElem?_append_right (by rw [h.len]; omega), h.len, q]; rfl
      | succ n => rw [q] at e; simp at e
  hid := fun b hb => by
    obtain ⟨e, n⟩ := h.hid b (List.mem_cons_of_mem _ hb)
    refine ⟨e, fun z => ?_⟩
    rcases List.mem_append.mp z with z | z
    · exact n z
    · simp at z; subst z; exact hc hb
theorem RelH.hide {a : Addr} {o : HO} (h : RelH c H ρ vh) (ha : H a = none) : RelH (c.hide a) (upd H a o) ρ vh where
  len := h.len
  inj := h.inj
  at' := fun i vo e => by
    obtain ⟨q, hq, r⟩ := h.at' i vo e
    have r2 : RelO (c.hide a) H ρ vo q := RelO.conv (c := c) (c' := c.hide a) (H := H) (H' := H) (.refl _) rfl (fun x v hx => RelD.re (Cn.ext_hide ha) hx) (fun _ _ _ z => z) r
    exact ⟨q, hq, RelO.stay (Grow.refl _ _) (Fm.new ha) (fun b u _ z => same_upd ha b u z) r2⟩
  hid := fun b hb => by
    rcases List.mem_cons.mp hb with e | hb
    · subst e
      exact ⟨⟨o, upd_same⟩, (h.fresh ha).1⟩
    · obtain ⟨⟨u, e⟩, n⟩ := h.hid b hb
      exact ⟨⟨u, same_upd ha b u e⟩, n⟩
theorem RelH.bare {a : Addr} (h : RelH (c.hide a) H ρ vh) : RelH c H ρ vh where
  len := h.len
  inj := h.inj
  at' := fun i vo e => by
    obtain ⟨q, hq, r⟩ := h.at' i vo e
    have r2 : RelO c H ρ vo q := RelO.conv (c := c.hide a) (c' := c) (H := H) (H' := H) (.refl _) rfl (fun x v hx => RelD.re Cn.ext_bare hx) (fun _ _ _ z => z) r
    exact ⟨q, hq, r2⟩
  hid := fun b hb => h.hid b (List.mem_cons_of_mem _ hb)
/-- the hidden list is written -/
theorem Fw.hid {a : Addr} {o : HO} : Fw (c.hide a) H (upd H a o) ρ := fun b u hb e => by
  rw [upd_ne fun z => hb.2 (by rw [z]; exact List.mem_cons_self)]; exact e
theorem RelH.wr {a : Addr} {o : HO} (h : RelH (c.hide a) H ρ vh) : RelH (c.hide a) (upd H a o) ρ vh where
  len := h.len
  inj := h.inj
  at' := fun i vo e => by
    obtain ⟨q, hq, r⟩ := h.at' i vo e
    refine ⟨q, hq, RelO.conv (c := c.hide a) (c' := c.hide a) (H := H) (H' := upd H a o) (.refl _) rfl (fun x v hx => RelD.stayw (Grow.refl _ _) Fw.hid hx) (fun b u eb z => ?_) r⟩
    rw [upd_ne]
    · exact z
    · intro w
      subst w; subst eb
      exact (h.hid b List.mem_cons_self).2 (List.mem_of_getElem? hq)
  hid := fun b hb => by
    obtain ⟨⟨u, e⟩, n⟩ := h.hid b hb
    refine ⟨?_, n⟩
    by_cases z : b = a
    · subst z; exact ⟨o, upd_same⟩
    · exact ⟨u, by rw [upd_ne z]; exact e⟩
theorem wipe_same {vs : List Nat} {σ σ' : L2.St} (h : SameBut vs (L2.wipe σ vs) σ') : L2.wipe σ' vs = L2.wipe σ vs := by
  have at_ : ∀ (vs : List Nat) (σ : L2.St) (i : Nat), (L2.wipe σ vs)[i]? = if i ∈ vs then (if i < σ.length then some none else none) else σ[i]? := by
    intro vs
    induction vs with
    | nil => intro σ i; simp [L2.wipe]
    | cons v vs ih =>
      intro σ i
      unfold L2.wipe
      by_cases hi : v = i
      · subst hi
        rw [List.getElem?_set_self', if_pos List.mem_cons_self]
        rw [ih]
        by_cases hl : v < σ.length
        · by_cases hm : v ∈ vs <;> simp [hl, hm]
        · by_cases hm : v ∈ vs <;> simp [hl, hm]
      · rw [List.getElem?_set_ne hi, ih]
        have : (i ∈ v :: vs) ↔ i ∈ vs := by
          rw [List.mem_cons]
          exact ⟨fun z => z.elim (fun w => absurd w.symm hi) id, .inr⟩
        simp only [this]
  refine List.ext_getElem? fun i => ?_
  rw [at_, at_]
  have hl : σ'.length = σ.length := by rw [h.1, L2.wipe_length]
  by_cases hi : i ∈ vs
  · rw [if_pos hi, if_pos hi, hl]
  · rw [if_neg hi, if_neg hi, h.2 i hi, at_, if_neg hi]
end
section
variable {X : Cx} {c : Cn} {U : WX} {pos : Pos}
abbrev U0 : WX := fun _ _ _ _ => False
theorem lc_use {fi : FI} {A : FTg} {t : FT} {f : FE} {vs ws : List Nat} {mm : Bool} (hvw : ∀ i ∈ ws, i ∈ vs) {σ : L2.St} {H : Hp} {Q : VK} (h : tM c U (mLc mm fi A t f vs) σ H Q) : tMI c U fi σ H fun J H1 => ∀ Dd, H1 Dd = none → ∃ W : Nat → Nat → Hp → Prop, (∃ m, W 0 m (upd H1 Dd (.lst []))) ∧ ∀ i m H, W i m H →
    (J.stop i H ∧ Q (.ref Dd) H) ∨ (J.go i H ∧ ∃ Nx : Hp → Prop, (∀ H', Nx H' → ∃ m', m' < m ∧ W (i + 1) m' H') ∧ ∀ x H', J.yld i H x H' → (∃ hid, tMG ⟨c.K, c.mg, hid⟩ A ws x (L2.wipe σ vs) H' fun σ2 H2 => L2.wipe σ2 vs = L2.wipe σ vs ∧ (∃ hid, tMT ⟨c.K, c.mg, hid⟩ U0 t σ2 H2 fun b H3 =>
      if b = true then (∃ hid, tM ⟨c.K, c.mg, hid⟩ U0 f σ2 H3 fun y H4 => ∃ acc, H4 Dd = some (.lst acc) ∧ acc.length < sizeLine ∧ Nx (upd H4 Dd (.lst (acc ++ [y])))) else Nx H3))) := by
  obtain ⟨e, ρ, vh, he, hh, h⟩ := h
  refine (useIE he hh h).mono fun J H1 ⟨ds, vh1, ρ1, fd, A0, g1, f1⟩ Dd hD => ?_
  have o := A0.out
  cases q0 : mComp A t f (wipeE e vs) ds vh1 with
  | exn x h => rw [q0] at o; exact o.elim
  | stuck => rw [q0] at o; exact o.elim
  | ok xs0 vh0 =>
  rw [q0] at o
  by_cases hl0 : xs0.length ≤ sizeLine
  rotate_left
  · simp only [hl0, if_false] at o
    exact o.elim
  have o : Out c σ H1 ρ1 U (if mm = true then .ok (.ref vh0.length) (vh0 ++ [.lst xs0]) else .ok (.d (.lst xs0)) vh0) (KW c Q) := by simpa only [hl0, if_true] using o
  let St : Nat → Hp → Prop := fun i H2 => ∃ ρ2 vh2 acc us xs, Grow ρ1 H1 ρ2 ∧ Fm H1 H2 ρ1 ∧ RelE (c.hide Dd) H2 ρ2 (wipeE e vs) (L2.wipe σ vs) ∧ RelH (c.hide Dd) H2 ρ2 vh2 ∧ H2 Dd = some (.lst us) ∧ RelDs (c.hide Dd) H2 ρ2 acc us ∧
    mComp A t f (wipeE e vs) (ds.drop i) vh2 = .ok xs vh0 ∧ acc ++ xs = xs0
  refine ⟨fun i m H2 => m = ds.length - i ∧ i ≤ ds.length ∧ St i H2, ⟨ds.length, by simp, Nat.zero_le _, ρ1, vh1, [], [], xs0, Grow.refl _ _, Fm.new hD, ?_, A0.rh.hide hD, upd_same, trivial, q0, rfl⟩, ?_⟩
  · exact RelE.stay (Grow.refl _ _) (Fm.new hD) ((A0.re.wipe vs).conv (c' := c.hide Dd) (H' := H1) (.refl _) fun x v hx => RelD.re (Cn.ext_hide hD) hx)
  rintro i m H2 ⟨rfl, hi, ρ2, vh2, acc, us, xs, g2, f2, re, rh, hDd, ra, hq, hx⟩
  obtain ⟨k1, k2⟩ := fd (c.hide Dd) H2 ρ2 i (Cn.ext_hide hD) g2 f2.w rh.fr
  have hDρ : some Dd ∉ ρ2 := (rh.hid Dd List.mem_cons_self).2
  by_cases hlt : i < ds.length
  · obtain ⟨go, yl⟩ := k1 hlt
    refine .inr ⟨go, St (i + 1), fun H' a => ⟨ds.length - (i + 1), by omega, rfl, hlt, a⟩, fun x H' hy => ?_⟩
    obtain ⟨sm, d, hd, rd⟩ := yl x H' hy
    rw [List.drop_eq_getElem_cons hlt] at hq
    have ed : ds[i] = d := by rw [List.getElem?_eq_getElem hlt] at hd; exact Option.some.inj hd
    rw [ed] at hq
    have fs : Fm H2 H' ρ2 := Fm.same sm
    have g0 : Grow ρ2 H2 ρ2 := Grow.refl _ _
    have re' := re.stay g0 fs
    have rh' := rh.same sm
    simp only [mComp] at hq
    cases qa : A d (wipeE e vs) with
    | none => rw [qa] at hq; cases hq
    | some e' =>
    rw [qa] at hq
    try dsimp only at hq
    refine ⟨Dd :: c.hid, wipeE e vs, ρ2, d, e', re', rd, qa, fun σ2 re2 sb => ⟨wipe_same (sb.mono hvw), Dd :: c.hid, e', ρ2, vh2, re2, rh', ?_⟩⟩
    cases qt : t e' vh2 with
    | stuck => rw [qt] at hq; cases hq
    | exn x h => rw [qt] at hq; cases hq
    | ok b vh3 =>
    rw [qt] at hq
    try dsimp only at hq
    intro H3 ρ3 g3 f3 rh3
    have g23 : Grow ρ2 H2 ρ3 := g0.trans fs g3
    have f23 : Fm H2 H3 ρ2 := Fm.trans g0 fs f3
    have fD3 : H3 Dd = some (.lst us) := f23 Dd _ hDρ hDd
    have re3 : RelE (c.hide Dd) H3 ρ3 (wipeE e vs) (L2.wipe σ vs) := re.stay g23 f23
    cases b with
    | false =>
      refine iteF ⟨ρ3, vh3, acc, us, xs, g2.trans f2 g23, Fm.trans g2 f2 f23, re3, rh3, fD3, ra.stay g23 f23, hq, hx⟩
    | true =>
      dsimp only at hq
      refine iteT ⟨Dd :: c.hid, e', ρ3, vh3, re2.stay g3 f3, rh3, ?_⟩
      cases qf : f e' vh3 with
      | stuck => rw [qf] at hq; cases hq
      | exn x h => rw [qf] at hq; cases hq
      | ok w vh4 =>
      rw [qf] at hq
      cases w with
      | ref k => cases hq
      | d y0 =>
      try dsimp only at hq
      cases qc : mComp A t f (wipeE e vs) (ds.drop (i + 1)) vh4 with
      | stuck => rw [qc] at hq; cases hq
      | exn x h => rw [qc] at hq; cases hq
      | ok ys vh5 =>
      rw [qc] at hq
      cases hq
      intro H4 ρ4 g4 f4 rh4 y ry
      have g24 : Grow ρ2 H2 ρ4 := g23.trans f23 g4
      have f24 : Fm H2 H4 ρ2 := Fm.trans g23 f23 f4
      have hD4 : some Dd ∉ ρ4 := (rh4.hid Dd List.mem_cons_self).2
      have fD4 : H4 Dd = some (.lst us) := f24 Dd _ hDρ hDd
      have ra4 : RelDs (c.hide Dd) H4 ρ4 acc us := ra.stay g24 f24
      refine ⟨us, fD4, ?_, ρ4, vh4, acc ++ [y0], us ++ [y], ys, g2.trans f2 g24, ?_, RelE.stayw (Grow.refl _ _) Fw.hid (re.stay g24 f24), rh4.wr, upd_same, RelDs.stayw (Grow.refl _ _) Fw.hid (ra4.append ⟨ry, trivial⟩), qc, by rw [← hx, List.append_assoc]; rfl⟩
      · rw [← ra4.length]
        have : (acc ++ y0 :: ys).length ≤ sizeLine := by rw [hx]; exact hl0
        rw [List.length_append, List.length_cons] at this
        omega
      · intro b u hb hu
        by_cases z : b = Dd
        · subst z; rw [hD] at hu; cases hu
        · rw [upd_ne z]; exact Fm.trans g2 f2 f24 b u hb hu
  · have ei : i = ds.length := by omega
    subst ei
    rw [List.drop_length] at hq
    cases hq
    rw [List.append_nil] at hx
    subst hx
    refine .inl ⟨k2 (Nat.le_refl _), ?_⟩
    have ra' : RelDs c H2 ρ2 acc us := RelDs.re Cn.ext_bare ra
    have rh' : RelH c H2 ρ2 vh0 := RelH.bare rh
    have hDh : Dd ∉ c.hid := (A0.rh.fresh hD).2
    cases mm with
    | false =>
      rw [if_neg Bool.false_ne_true] at o
      exact o H2 ρ2 g2 f2 rh' (.ref Dd) ⟨Dd, us, rfl, ⟨hDρ, hDh⟩, hDd, hl0, ra'⟩
    | true =>
      rw [if_pos rfl] at o
      refine o H2 (ρ2 ++ [some Dd]) ⟨by have := g2.len; simp; omega, fun i hi => ?_, fun a ha => ?_⟩ f2 (rh.show hDh ⟨Dd, us, rfl, hDd, hl0, RelDs.mv Mv.show ra⟩) (.ref Dd) ⟨by simp [rh.len], fun a ha => ?_⟩
      · rw [List.getElem?_append_left (Nat.lt_of_lt_of_le hi g2.len)]; exact g2.old i hi
      · rcases List.mem_append.mp ha with z | z
        · exact g2.new a z
        · simp at z; subst z; exact .inr hD
      · rw [← rh.len, List.getElem?_append_right (Nat.le_refl _)] at ha
        simp at ha; rw [ha]
theorem pg_ex {tg : Expr} {t : List Addr → TG} (h : ∀ hid, PG X tg (t hid)) : PG X tg (fun v σ H Q => ∃ hid, t hid v σ H Q) := ⟨fun pins s σ H v u Q I r ⟨hid, q⟩ => (h hid).run pins s σ H v u Q I r q⟩
theorem pe_ex {e : Expr} {t : List Addr → TE} (h : ∀ hid, PE X e (t hid)) : PE X e (fun σ H Q => ∃ hid, t hid σ H Q) := ⟨fun pins s σ H Q I ⟨hid, q⟩ => (h hid).run pins s σ H Q I q⟩
theorem pts_ex {ifs : List Expr} {t : List Addr → TT} (h : ∀ hid, PTs X ifs (t hid)) : PTs X ifs (fun σ H Q => ∃ hid, t hid σ H Q) := ⟨fun pins s σ H Q I ⟨hid, q⟩ => (h hid).run pins s σ H Q I q⟩
theorem mts_nil : PTs X [] (tMT c U fun _ vh => .ok true vh) := ⟨fun pins s σ H Q I ⟨e, ρ, vh, he, hh, h⟩ => pts_nil.run pins s σ H Q I (h.here hh)⟩
theorem mts_one {a : Expr} {t : FT} (h : PT X a (tMT c U t)) : PTs X [a] (tMT c U t) := pts_one h
theorem me_lc {elt tg iter : Expr} {ifs : List Expr} {scope : Scope} {own : List (Str × Nat)} {fi : FI} {A : FTg} {t : FT} {f : FE} {ws : List Nat} {vs : List Nat} (mm : Bool) (hc : X.calm = true) (hN : X.N.Nodup) (hi : PI X tg iter (tMI c U fi)) (ok : BlkOk X.N X.env.scope scope own)
    (hg : ∀ (s : Shared) (H : Hp) (C : Addr) (cl : List (Str × Addr)) (fp : List Addr) (hid : List Addr), PG (X.blk s H scope (compEnvC scope cl C X.env) fp) tg (tMG ⟨c.K, c.mg, hid⟩ A ws))
    (ht : ∀ (s : Shared) (H : Hp) (C : Addr) (cl : List (Str × Addr)) (fp : List Addr) (hid : List Addr), PTs (X.blk s H scope (compEnvC scope cl C X.env) fp) ifs (tMT ⟨c.K, c.mg, hid⟩ U0 t))
    (he : ∀ (s : Shared) (H : Hp) (C : Addr) (cl : List (Str × Addr)) (fp : List Addr) (hid : List Addr), PE (X.blk s H scope (compEnvC scope cl C X.env) fp) elt (tM ⟨c.K, c.mg, hid⟩ U0 f))
    (hvs : own.map (·.2) = vs := by rfl) (hvw : ∀ i ∈ ws, i ∈ vs := by decide) (hs : ∀ x, foldedSetIterable iter X.env x = pure x := by intro _; rfl) :
    PE X (.ListComp elt [⟨tg, iter, ifs, 0⟩] scope pos) (tM c U (mLc mm fi A t f vs)) := by
  subst hvs
  exact pe_imp (pe_lc hc hN hi ok (fun s H C cl fp => pg_ex (hg s H C cl fp)) (fun s H C cl fp => pts_ex (ht s H C cl fp)) (fun s H C cl fp => pe_ex (he s H C cl fp)) hs) fun σ H Q h => lc_use hvw h
end
end Mn

namespace Mn
open PySem PySem.Spec PyProof.Rows L2

/-! ### defs where no repr runs around -/
def NoGuard (A : Around) : Prop := A.guards = some []
theorem NoGuard.deeper {A : Around} (h : NoGuard A) (env : PySem.Env) : NoGuard (A.deeper env) := h
theorem NoGuard.in1 {A : Around} (h : NoGuard A) : NoGuard A.in1 := h
theorem NoGuard.make {A : Around} (h : NoGuard A) (C : Addr) (us : List Value) (kw : List (Str × Value)) : NoGuard (A.under (.builtin "type.__call__" ⟨.ref C :: us, kw⟩)) := by
  unfold NoGuard at *
  simp [Around.under, Code.guards, Code.isGuard, guardIds, pushGuards, h]
/-- as FnOk, but run only where no guard stands around -/
structure FnG (P : Program) (w : World) (K : PySem.W.Frag) (mg : Str → Option Value) (base : Heap) (k : Nat) (f : Addr) (fd : FuncData) (ps : List Str) (F : FN) : Prop where
  ar : ∀ ws vh, ws.length ≠ ps.length → F ws vh = .stuck
  go : ∀ (A : Around) (outer : List PySem.Env) (s : Shared) (H : Hp) (args : Args) (us : List Value) (vs : List V) (Q : VK) (E : XK), Room k A → NoGuard A → Env0 P w K mg base A outer s H → BindsTo s fd args (ps.zip us) → Vals vs us →
    spM K mg F vs H Q E → codeAny (model P w) A (.call (.ref f) args) (CR (L2.CX P w) outer P w H s Q E) s
section
variable {P : Program} {w : World} {K : PySem.W.Frag} {mg : Str → Option Value} {base : Heap}
theorem FnG.mono {j k : Nat} {f : Addr} {fd : FuncData} {ps : List Str} {F : FN} (G : FnG P w K mg base j f fd ps F) (h : j ≤ k) : FnG P w K mg base k f fd ps F :=
  ⟨G.ar, fun A outer s H args us vs Q E hr => G.go A outer s H args us vs Q E (hr.mono h)⟩
theorem mFn_ar {np nn : Nat} {g : FS} (ws : List W) (vh : VH) (h : ws.length ≠ np) : mFn np nn g ws vh = .stuck := by unfold mFn; rw [if_neg h]
theorem spM_len {F : FN} {np : Nat} (ar : ∀ ws vh, ws.length ≠ np → F ws vh = .stuck) {vs : List V} {H : Hp} {Q : VK} {E : XK} (h : spM K mg F vs H Q E) : vs.length = np := by
  obtain ⟨c, _, _, ws, ρ, vh, rs, hh, o⟩ := h
  by_cases e : ws.length = np
  · rw [← rs.length, e]
  · rw [ar ws vh e] at o; exact o.elim
theorem FnG.shut {k : Nat} {f : Addr} {fd : FuncData} {ps : List Str} {F : FN} (G : FnG P w K mg base k f fd ps F) : FnG P w K mg base k f fd ps (mShut F) where
  ar := fun ws vh e => by unfold mShut; rw [G.ar ws vh e]
  go := fun A outer s H args us vs Q E hr hg e0 hb rv h => G.go A outer s H args us vs Q E hr hg e0 hb rv (spM.shut _ _ _ _ h)
theorem FnG.eqM {k : Nat} {f : Addr} {fd : FuncData} {ps : List Str} {F G : FN} (g : FnG P w K mg base k f fd ps F) (e : F = G) : FnG P w K mg base k f fd ps G := e ▸ g
/-- a def of the text keeps its meaning -/
theorem FnG.of {x qual : Str} {st : Stmt} {f : Addr} {fd : FuncData} {N ps : List Str} {k : Nat} {g : FS} (F : Fun K x qual st f fd) (S : FnScope N ps (defScope st))
    (body : ∀ (cdv : Value) (A : Around) (outer : List PySem.Env) (s : Shared) (H : Hp) (E : XK) (hid : List Addr), Room k (A.deeper (envOfC qual (defScope st) s.heap.objs.size f cdv)) → NoGuard (A.deeper (envOfC qual (defScope st) s.heap.objs.size f cdv)) →
      Takes (cxOf (L2.CX P w) P w K mg base N qual (defScope st) f cdv A outer s H E) (fun cls d _ H => E cls d H) →
      PSs (cxOf (L2.CX P w) P w K mg base N qual (defScope st) f cdv A outer s H E) (defBody st) (tMS ⟨K, mg, hid⟩ (fun cls d _ H => E cls d H) g)) :
    FnG P w K mg base (k + 1) f fd ps (mFn ps.length N.length g) := by
  refine ⟨mFn_ar, fun A outer s H args us vs Q E hr ng e0 hb rv hsp => ?_⟩
  have hl : vs.length = ps.length := spM_len mFn_ar hsp
  obtain ⟨oc, od, kV, doc, pm, an, cdv, ct, osl, rfl, lk, hcd⟩ := F.ex
  have inH : K.In s.heap := e0.mod.kin.keeps fun b o e => (e0.bs b o e).1
  have noLim : s.heap.NoLimit := e0.mod.nolimit.keeps fun b o e => (e0.bs b o e).1
  refine codeAny_call_function hr.depth (inH _ _ lk) rfl S.co S.gen rfl (PySem.W.codeRec_of inH hcd) (hb _ _ _ _ ?_)
  refine wpAny_newFunctionEnv_cells S.kind (fun y hy => (S.par y.1 (List.of_mem_zip (a := y.1) (b := y.2) hy).1).imp id fun q => ⟨q, PySem.W.cellsFrom_some _ _ _ (.inl q)⟩) fun env he s1 x => ?_
  cases he
  refine ⟨noLim.keeps x.toInCall.keep, codeAny_func ?_⟩
  obtain ⟨⟨K', mg', hid⟩, rfl, rfl, ws, ρ, vh, rs, hh, h⟩ := hsp
  have D := body cdv A outer s H E hid (hr.deeper _) (ng.deeper _) (takes_of rfl rfl rfl rfl)
  have I := inv_start (CX := L2.CX P w) (E := E) S hr.hd e0 hl rv x
  have rd : tMS ⟨K', mg', hid⟩ (fun cls d _ H => E cls d H) g { nx := fun _ H' => Q .non H', rt := Q } (L2.start N vs) H := by
    unfold mFn at h
    split at h
    · rename_i e
      refine ⟨_, ρ, vh, entry_rel (np := ps.length) rs, hh, ?_⟩
      have e2 : entry ps.length N.length ws = ws.map some ++ List.replicate (N.length - vs.length) none := by unfold entry; rw [← rs.length, e]
      rw [← e2]
      cases q : g (entry ps.length N.length ws) vh with
      | nx e' vh' => rw [q] at h; exact fun σ' H' ρ' g' f' x y => h H' ρ' g' f' y .non rfl
      | bk e' vh' => rw [q] at h; exact h.elim
      | ct e' vh' => rw [q] at h; exact h.elim
      | rt w vh' => rw [q] at h; exact fun v H' ρ' g' f' x y => h H' ρ' g' f' y v x
      | exn x e' vh' => rw [q] at h; exact fun cls d σ' H' ρ' g' f' x y z => h cls d H' ρ' g' f' x z
      | stuck => rw [q] at h; exact h.elim
    · exact h.elim
  refine wpAny_mono (D.run [] s1 _ H _ I rd) (fun fl s' hs => ?_) fun _ _ z => z
  cases fl with
  | ret u => obtain ⟨v, σ', H', J, r1, q⟩ := hs; exact ⟨v, H', J.os, J.bare, J.base, J.hok, r1, q⟩
  | next => obtain ⟨σ', H', J, q⟩ := hs; exact ⟨.non, H', J.os, J.bare, J.base, J.hok, rfl, q⟩
  | brk => obtain ⟨_, _, _, q⟩ := hs; exact q.elim
  | cont => obtain ⟨_, _, _, q⟩ := hs; exact q.elim
end

/-! ### calls of such -/
section
variable {X : Cx} {U : WX} {k : Nat} {f : Addr} {fd : FuncData} {ps : List Str} {F : FN} {c : Cn} {e : Expr} {es : List Expr} {pos p : Pos} {x : Str} {ds : List Value} {dvs : List V} {dws : List W} {fa : FA}
theorem run_g {pins : List (Addr × Obj)} {σ : L2.St} {H : Hp} {s : Shared} {Q : VK} {us : List Value} {vs : List V} {args : Args} (G : FnG X.prog X.w X.K X.mg X.base k f fd ps F) (hr : Room k X.A) (ng : NoGuard X.A) (hb : BindsTo s fd args (ps.zip us)) (tk : Takes X U)
    (I : L2.Inv X pins σ H s) (r : Vals vs us) (h : spM X.K X.mg F vs H Q (WE U σ)) : wpAny (model X.prog X.w) X.A (call (.ref f) args.pos args.kw) (EP X pins σ Q) X.xe s := by
  refine wpAny_call (codeAny_mono (G.go X.A X.stack s H args us vs Q (WE U σ) hr ng I.env0 hb r h) fun r s' hq => ?_)
  cases r with
  | error e => exact passAt tk σ pins H s e s' I hq
  | ok fl => cases fl with
    | ret u => exact I.after hq
    | next => exact hq.elim
    | brk => exact hq.elim
    | cont => exact hq.elim
theorem spM_use {σ : L2.St} {H : Hp} {ρ : Rho} {vh : VH} {ws : List W} {vs : List V} {Q : VK} (hc : c.K = X.K) (hcm : c.mg = X.mg) (rs : RelWs c H ρ ws vs) (rh : RelH c H ρ vh) (o : Out c σ H ρ U (F ws vh) (KW c Q)) : spM X.K X.mg F vs H Q (WE U σ) :=
  ⟨c, hc, hcm, ws, ρ, vh, rs, rh, o.sigma (τ := []) fun _ _ _ h => h⟩
/-- f(e, ..): the defaults fill up -/
theorem mg_call (hc : c.K = X.K) (hcm : c.mg = X.mg) (G : FnG X.prog X.w X.K X.mg X.base k f fd ps F) (hr : Room k X.A) (ng : NoGuard X.A) (tk : Takes X U) (hg : Gl X x) (hm : X.mg x = some (.ref f)) (hk : PySem.W.keepIn X.K (.ref f) = true) (hb : Binds X.K fd ps ds) (hd : Vals dvs ds) (hdw : ∀ H ρ, RelWs c H ρ dws dvs)
    (ha : PA X (e :: es) (tMA c U fa)) (hdb : (x == ("__debug__" : Str)) = false := by decide) (he : starEach (e :: es) X.env = (false, eval e X.env) :: starEach es X.env := by rfl) (hpl : (backTo pos (starEach es X.env)).any (·.1) = false := by rfl) :
    PE X (.Call (.Name x p) (e :: es) [] pos) (tM c U (mCall F dws fa)) := by
  refine ⟨fun pins s σ H Q I ⟨en, ρ, vh, hE, hh, h⟩ => wpAny_Call_Name_kw (ld_glob I hg hm ?_ hdb)⟩
  refine PySem.W.callWith_K (h₀ := X.base) I.ok.mod.kin hk (thn (ha.run pos pins s σ H _ I (useA hE hh h)) fun us s1 ⟨vs, H1, I1, r, ws, vh1, ρ1, rs, A, g1, f1⟩ => ⟨I1.kIn, ?_⟩) he hpl
  have q : spM X.K X.mg F (vs ++ dvs) H1 Q (WE U σ) := spM_use hc hcm (rs.append (hdw _ _)) A.rh A.out
  have r2 := r.append hd
  exact run_g (args := ⟨us, []⟩) G hr ng (hb s1 us I1.kIn (by rw [← r2.length]; exact spM_len G.ar q)) tk I1 r2 q
/-- f(): nothing but defaults -/
theorem mg_call0 (hc : c.K = X.K) (hcm : c.mg = X.mg) (G : FnG X.prog X.w X.K X.mg X.base k f fd ps F) (hr : Room k X.A) (ng : NoGuard X.A) (tk : Takes X U) (hg : Gl X x) (hm : X.mg x = some (.ref f)) (hk : PySem.W.keepIn X.K (.ref f) = true) (hb : Binds X.K fd ps ds) (hd : Vals dvs ds) (hdw : ∀ H ρ, RelWs c H ρ dws dvs)
    (hdb : (x == ("__debug__" : Str)) = false := by decide) : PE X (.Call (.Name x p) [] [] pos) (tM c U (mCall F dws mNil)) := by
  refine ⟨fun pins s σ H Q I ⟨en, ρ, vh, hE, hh, h⟩ => wpAny_Call_Name_kw (ld_glob I hg hm (PySem.W.callWith_K0 I.kIn hk ?_) hdb)⟩
  have q : spM X.K X.mg F dvs H Q (WE U σ) := spM_use hc hcm (ws := [] ++ dws) (hdw _ _) hh h
  exact run_g (args := ⟨[], []⟩) G hr ng (hb s [] I.kIn (by rw [List.nil_append, ← hd.length]; exact spM_len G.ar q)) tk I hd q
end

/-! ### repr -/
def cRepr : List D → Option D
  | [x] => match toPy x with
    | some p => if p.showable = true ∧ p.depth ≤ 60 ∧ p.shown.length ≤ sizeLine then some (.str p.shown) else none
    | none => none
  | _ => none
def rRepr (K : PySem.W.Frag) : List V → Hp → VK → Prop := fun xs H Q => ∃ x d, xs = [x] ∧ Dp K H x d ∧ d.showable = true ∧ d.depth ≤ 60 ∧ d.shown.length ≤ sizeLine ∧ (∃ a, x = .ref a) ∧ d.hasDict = false ∧ Q (.str d.shown) H
theorem call_reprM {X : Cx} (hr : X.A.units + 64 < cLine) (ng : NoGuard X.A) : CallR X (.builtin "repr") (rRepr X.K) := by
  intro pins s σ H xs us Q I r h
  obtain ⟨x, d, rfl, hd, h1, h2, h3, ⟨a, rfl⟩, h5, q⟩ := h
  obtain ⟨u, rfl, rx⟩ := vals1 r
  cases rx
  obtain ⟨as, rd⟩ := Dp.reads I d _ _ hd rfl
  refine repr_of_reads' rd h1 (fun z => by rw [h5] at z; cases z) ng (by omega) (fun _ _ e => e) (fun h' t tk hk => ?_) h3
  exact ⟨.str d.shown, H, I.kept (h' := h') (t' := tk) hk, ⟨t, rfl⟩, q⟩
end Mn

namespace Mn
open PySem PySem.Spec PyProof.Rows L2

/-! ### repr of data, as data -/
theorem strOk_ofString (s : String) : PyData.strOk (Str.ofString s) = true := by
  rw [Str.ofString_eq_toList]
  unfold PyData.strOk
  rw [Array.all_eq_true_iff_forall_mem]
  intro x hx
  simp only [List.mem_toArray, List.mem_map] at hx
  obtain ⟨ch, _, rfl⟩ := hx
  have h := ch.valid
  simp only [UInt32.isValidChar, Nat.isValidChar] at h
  have : ch.toNat = ch.val.toNat := rfl
  rw [this]
  exact decide_eq_true (by omega)
theorem strOk_iff {x : Str} : PyData.strOk x = true ↔ ∀ ch ∈ x.cps.toList, ch < 1114112 := by
  unfold PyData.strOk
  rw [Array.all_eq_true_iff_forall_mem]
  exact ⟨fun h ch hc => of_decide_eq_true (h ch (by simpa using hc)), fun h ch hc => decide_eq_true (h ch (by simpa using hc))⟩
theorem digits_small : ∀ ch ∈ (Nat.toDigits 16 n).map Char.toNat, ch < 1114112 := fun ch h => by
  obtain ⟨a, _, rfl⟩ := List.mem_map.mp h
  have h := a.valid
  simp only [UInt32.isValidChar, Nat.isValidChar] at h
  have : a.toNat = a.val.toNat := rfl
  omega
theorem reprChar_small {q ch : Nat} (hq : q < 128) (hc : ch < 1114112) : ∀ y ∈ Builtin.Str.reprChar q ch, y < 1114112 := by
  intro y hy
  have hex : ∀ k, y ∈ List.replicate (k - ((Nat.toDigits 16 ch).map Char.toNat).length) 48 ++ (Nat.toDigits 16 ch).map Char.toNat → y < 1114112 := fun k h => by
    rcases List.mem_append.mp h with h | h
    · have := (List.mem_replicate.mp h).2; omega
    · exact digits_small _ h
  unfold Builtin.Str.reprChar at hy
  simp only at hy
  split at hy
  · simp at hy; omega
  split at hy
  · simp at hy; omega
  split at hy
  · simp at hy; omega
  split at hy
  · simp at hy; omega
  split at hy
  · simp at hy; omega
  split at hy
  · rcases List.mem_append.mp hy with h | h
    · simp at h; omega
    · exact hex 2 h
  split at hy
  · rcases List.mem_append.mp hy with h | h
    · simp at h; omega
    · exact hex 4 h
  · rcases List.mem_append.mp hy with h | h
    · simp at h; omega
    · exact hex 8 h
theorem strOk_repr {x : Str} (h : PyData.strOk x = true) : PyData.strOk (reprText x) = true := by
  rw [strOk_iff] at *
  have hq : reprQuote x < 128 := by unfold reprQuote; split <;> omega
  have go : ∀ (l : List Nat) (acc : Array Nat), (∀ ch ∈ l, ch < 1114112) → (∀ ch ∈ acc.toList, ch < 1114112) → ∀ ch ∈ (l.foldl (fun out c => out ++ (Builtin.Str.reprChar (reprQuote x) c).toArray) acc).toList, ch < 1114112 := by
    intro l
    induction l with
    | nil => intro acc _ h2; exact h2
    | cons a l ih =>
      intro acc h1 h2
      refine ih _ (fun ch hc => h1 ch (List.mem_cons_of_mem _ hc)) fun ch hc => ?_
      rw [Array.toList_append] at hc
      rcases List.mem_append.mp hc with hc | hc
      · exact h2 ch hc
      · exact reprChar_small hq (h1 a List.mem_cons_self) ch (by simpa using hc)
  intro ch hc
  unfold reprText at hc
  rw [Array.toList_push] at hc
  rcases List.mem_append.mp hc with hc | hc
  · rw [← Array.foldl_toList] at hc
    exact go _ _ h (fun ch hc => by simp at hc; omega) ch hc
  · simp at hc; omega
theorem strOk_join {y : Str} (hy : PyData.strOk y = true) : ∀ {ts : List Str}, (∀ t ∈ ts, PyData.strOk t = true) → PyData.strOk (Str.join y ts) = true
  | [], _ => by show PyData.strOk Str.empty = true; decide +kernel
  | [t], h => h t List.mem_cons_self
  | t :: u :: r, h => by
    show PyData.strOk (t ++ y ++ Str.join y (u :: r)) = true
    exact strOk_append (strOk_append (h t List.mem_cons_self) hy) (strOk_join hy fun z hz => h z (List.mem_cons_of_mem _ hz))
mutual
theorem strOk_shown : ∀ {p : PyData}, p.canLay0 = true → PyData.strOk p.shown = true
  | .none, _ => by rw [PyData.shown_none]; decide +kernel
  | .bool b, _ => by cases b <;> (rw [PyData.shown_bool]; decide +kernel)
  | .int i, _ => by rw [PyData.shown_int]; exact strOk_ofString _
  | .str x, h => by rw [PyData.shown_str]; exact strOk_repr (by simpa [PyData.canLay0] using h)
  | .list xs, h => by
    rw [PyData.shown_list]
    exact strOk_append (strOk_append (by decide +kernel) (strOk_join (by decide +kernel) (strOk_shownAll (by simpa [PyData.canLay0] using h)))) (by decide +kernel)
  | .tuple xs, h => by
    rw [PyData.shown_tuple]
    exact strOk_append (strOk_append (by decide +kernel) (strOk_join (by decide +kernel) (strOk_shownAll (by simpa [PyData.canLay0] using h)))) (by split <;> decide +kernel)
  | .dict _, h => by simp [PyData.canLay0] at h
theorem strOk_shownAll : ∀ {xs : List PyData}, PyData.canLayAll0 xs = true → ∀ t ∈ PyData.shownAll xs, PyData.strOk t = true
  | [], _ => fun t h => by simp [PyData.shownAll] at h
  | x :: xs, h => fun t ht => by
    simp only [PyData.canLayAll0, Bool.and_eq_true] at h
    rw [PyData.shownAll_cons] at ht
    rcases List.mem_cons.mp ht with e | ht
    · rw [e]; exact strOk_shown h.1
    · exact strOk_shownAll h.2 t ht
end
mutual
theorem noDict_of : ∀ {x : D} {p : PyData}, toPy x = some p → p.hasDict = false
  | .non, _, e => by cases e; rfl
  | .bl _, _, e => by cases e; rfl
  | .int _, _, e => by cases e; rfl
  | .str _, _, e => by cases e; rfl
  | .tup ds, _, e => by obtain ⟨ps, h, rfl⟩ := Option.map_eq_some_iff.mp (show (toPys ds).map PyData.tuple = _ by simpa only [toPy] using e); simpa [PyData.hasDict] using noDict_ofs h
  | .ctp ds, _, e => by obtain ⟨ps, h, rfl⟩ := Option.map_eq_some_iff.mp (show (toPys ds).map PyData.tuple = _ by simpa only [toPy] using e); simpa [PyData.hasDict] using noDict_ofs h
  | .lst ds, _, e => by obtain ⟨ps, h, rfl⟩ := Option.map_eq_some_iff.mp (show (toPys ds).map PyData.list = _ by simpa only [toPy] using e); simpa [PyData.hasDict] using noDict_ofs h
  | .frz _, _, e => by cases e
  | .dic _ _, _, e => by cases e
  | .ins _ _, _, e => by cases e
  | .ty _, _, e => by cases e
  | .cls _, _, e => by cases e
theorem noDict_ofs : ∀ {xs : List D} {ps : List PyData}, toPys xs = some ps → PyData.hasDictAll ps = false
  | [], _, e => by cases e; rfl
  | x :: xs, ps, e => by
    simp only [toPys] at e
    split at e
    · rename_i p qs h1 h2
      cases e
      simp [PyData.hasDictAll, noDict_of h1, noDict_ofs h2]
    · cases e
end
/-- repr of a list or a tuple -/
def cRep : List D → Option D
  | [x] => match x with
    | .str _ => none
    | .int _ => none
    | .bl _ => none
    | .non => none
    | x => match toPy x with
      | some p => if p.showable = true ∧ p.depth ≤ 60 ∧ p.weight ≤ 1048576 ∧ p.intsShort 13 = true then some (.str p.shown) else none
      | none => none
  | _ => none
theorem cd_repr {c : Cn} : CallD c (rRepr c.K) cRep := fun H ρ xs vs z Q fr rs e k => by
  match xs, rs, e with
  | [x], rs, e =>
    obtain ⟨v, rfl, r⟩ := rs.one
    have main : ∀ {p : PyData}, toPy x = some p → (∃ a, v = .ref a) → (if p.showable = true ∧ p.depth ≤ 60 ∧ p.weight ≤ 1048576 ∧ p.intsShort 13 = true then some (D.str p.shown) else none) = some z → rRepr c.K [v] H Q := fun {p} hp hr he => by
      split at he
      · rename_i hc
        obtain ⟨h1, h2, h3, h4⟩ := hc
        cases he
        obtain ⟨a1, a2⟩ := dp_r r hp
        have lay : PyData.layable0 p = true := by
          unfold PyData.layable0
          rw [a2, decide_eq_true (show p.depth ≤ 64 by omega), decide_eq_true (show p.weight ≤ 2 ^ 20 from h3)]
          rfl
        have hz := PyData.shown_fits_of_layable0 (B := 13) (by omega) (by omega) lay h4
        exact ⟨v, p, rfl, a1, h1, h2, hz, hr, noDict_of hp, k _ H (Same.refl H) ⟨rfl, hz, strOk_shown a2⟩⟩
      · cases he
    cases x with
    | tup ds =>
      simp only [cRep] at e
      split at e
      · rename_i p hp
        obtain ⟨a, xs, e1, _⟩ := id r
        exact main hp ⟨a, e1⟩ e
      · cases e
    | ctp ds =>
      simp only [cRep] at e
      split at e
      · rename_i p hp
        obtain ⟨a, xs, e1, _⟩ := id r
        exact main hp ⟨a, e1⟩ e
      · cases e
    | lst ds =>
      simp only [cRep] at e
      split at e
      · rename_i p hp
        obtain ⟨a, xs, e1, _⟩ := id r
        exact main hp ⟨a, e1⟩ e
      · cases e
    | _ => cases e
end Mn

namespace Mn
open PySem PySem.Spec PyProof.Rows L2

theorem relDs_ints {c : Cn} {H : Hp} {ρ : Rho} : ∀ ns : List Int, RelDs c H ρ (ns.map D.int) (ns.map V.int)
  | [] => trivial
  | _ :: ns => ⟨rfl, relDs_ints ns⟩
/-- the law, called from outside, where nothing is tracked but the script -/
theorem law_end {P : Program} {w : World} {K : PySem.W.Frag} {mg mb : Str → Option Value} {k : Nat} {fa a : Addr} {fd : FuncData} {x : Str} {F : FN} {s₁ : Shared} {vs : List Value} {ns : List Int}
    (inH : K.In s₁.heap) (nsM : s₁.heap.Ns mainGlobals mg) (nsB : s₁.heap.Ns builtinsNs mb) (mbB : ∀ y : Str, y ≠ "__name__" → mb y = bootBuiltins y) (noLim : s₁.heap.NoLimit) (noGen : s₁.gens = #[])
    (atA : s₁.heap.get? a = some { cls := .type "list", data := .seq vs.toArray }) (are : IntsAre vs ns) (len : ns.length ≤ sizeLine) (room : Room k callerA)
    (G : ∀ base : Heap, K.In base → base.Ns mainGlobals mg → FnG P w K mg base k fa fd [x] F) (bind : ∀ (s : Shared) (u : Value), BindsTo s fd ⟨[u], []⟩ [(x, u)])
    (law : ∃ vh, F [.d (.frz (ns.map D.int))] [] = .ok (.d (.bl true)) vh) :
    codeAny (model P w) callerA (.call (.ref fa) ⟨[.ref a], []⟩) (fun r s' => r = .ok (.ret (.bool true)) ∧ PySem.OldK s₁.heap s'.heap ∧ s'.os = s₁.os ∧ AllBare s'.gens) s₁ := by
  obtain ⟨vhE, law⟩ := law
  have lenV := are.length
  let it : Obj := { cls := .type "list", data := .seq vs.toArray }
  -- over any abstract heap that knows at most the script
  have main : ∀ H : Hp, (∀ b u, H b = some u → b = a ∧ u = .frz it (.lst (ns.map V.int)) ∧ K.lookup a = none) → SqL K H a (ns.map V.int) →
      codeAny (model P w) callerA (.call (.ref fa) ⟨[.ref a], []⟩) (fun r s' => r = .ok (.ret (.bool true)) ∧ PySem.OldK s₁.heap s'.heap ∧ s'.os = s₁.os ∧ AllBare s'.gens) s₁ := by
    intro H known sq
    have free : ∀ {b : Addr} {o : Obj}, s₁.heap.get? b = some o → (∀ us n, o.data ≠ .seq us n) → H b = none := fun {b o} e d => by
      cases q : H b with
      | none => rfl
      | some u =>
        obtain ⟨rfl, _⟩ := known b u q
        rw [atA] at e
        cases e
        exact absurd rfl (d _ _)
    have hok : HOk P w H s₁.heap := fun b u q => by
      obtain ⟨rfl, rfl, _⟩ := known b u q
      exact ⟨atA, by rw [List.length_map]; exact len, vs, _, vals_ints are, atA⟩
    have stay : ∀ {b : Addr} {m : Str → Option Value}, s₁.heap.Ns b m → (hidT s₁.heap H).Ns b m := fun {b m} ⟨o, es, ep, e, d, r⟩ =>
      ⟨o, es, ep, hidT_get e (free e fun us n z => by rw [d] at z; cases z), d, r⟩
    have inB : K.In (hidT s₁.heap H) := fun b o e => hidT_get (inH b o e) (by
      cases q : H b with
      | none => rfl
      | some u =>
        obtain ⟨rfl, _, z⟩ := known b u q
        rw [z] at e; cases e)
    have md : Mod K mg (hidT s₁.heap H) := ⟨inB, stay nsM, ⟨mb, stay nsB, mbB⟩, let ⟨mc, h1, h2⟩ := noLim; ⟨mc, stay h1, h2⟩⟩
    have e0 : Env0 P w K mg (hidT s₁.heap H) callerA [] s₁ H :=
      { frames := rfl, mod := md, bs := fun b o e => of_hidT e, bsz := Nat.le_of_eq (hidT_size _ _), funs := trivial, frf := fun b hb => (nomatch (show b ∈ ([] : List Addr) from hb)), hok := hok, bare := .of_eq noGen }
    have arg : RelWs ⟨K, mg, []⟩ H [] [.d (.frz (ns.map D.int))] [.ref a] := by
      refine ⟨⟨a, ns.map V.int, rfl, sq.imp (fun z => ⟨⟨(fun h => nomatch h), (fun h => nomatch h)⟩, z⟩) id, by rw [List.length_map]; exact len, relDs_ints ns⟩, trivial⟩
    have rh : RelH ⟨K, mg, []⟩ H [] [] := ⟨rfl, fun i j b h => by simp at h, fun i vo h => by simp at h, fun b h => nomatch h⟩
    have pr : spM K mg F [.ref a] H (fun v _ => v = .bl true) (fun _ _ _ => False) := by
      refine ⟨⟨K, mg, []⟩, rfl, rfl, _, [], [], arg, rh, ?_⟩
      rw [law]
      exact fun H' ρ' g f r v rv => rv
    refine codeAny_mono ((G _ inB (stay nsM)).go callerA [] s₁ H ⟨[.ref a], []⟩ [.ref a] [.ref a] _ _ room rfl e0 (bind s₁ (.ref a)) (.cons rfl .nil) pr) fun r s' h => ?_
    cases r with
    | error e => obtain ⟨_, _, _, _, _, _, _, _, _, _, _, _, z⟩ := h; exact z.elim
    | ok fl => cases fl with
      | next => exact h.elim
      | brk => exact h.elim
      | cont => exact h.elim
      | ret u =>
        obtain ⟨v, H', os, bare, un, ok', rv, q⟩ := h
        cases q
        cases rv
        refine ⟨rfl, PySem.OldK.of_keep fun b o e => ?_, os, bare⟩
        cases q : H b with
        | none => exact un.keep b o e q (fun z => nomatch (show b ∈ ([] : List Addr) from z)) (fun z => nomatch z)
        | some u =>
          obtain ⟨rfl, rfl, _⟩ := known b u q
          rw [atA] at e
          cases e
          exact (ok' b _ (un.frzs b _ _ q)).1
  cases hk : K.lookup a with
  | some o =>
    have e := inH a o hk
    rw [atA] at e
    cases e
    exact main (fun _ => none) (fun b u z => by cases (show (none : Option HO) = some u from z)) (.inr ⟨_, vs.toArray, _, hk, rfl, rfl, rfl, by rw [List.size_toArray, lenV]; exact len, by simpa using vals_ints are⟩)
  | none =>
    refine main (fun b => if b = a then some (.frz it (.lst (ns.map V.int))) else none) (fun b u z => ?_) (.inl (.inr ⟨it, if_pos rfl⟩))
    by_cases hb : b = a
    · rw [if_pos hb] at z
      exact ⟨hb, (Option.some.inj z).symm, hk⟩
    · rw [if_neg hb] at z; cases z
theorem walk_end {l : PySem.W.OpenLaw} {n k : Nat} {q : Program} {loose : List Str} {XP : (Str → Option Value) → Heap → Prop} {YP : World → Heap → Prop} {d : DefRec} {K : Params → PySem.W.Frag} {F : FN} {x : Str}
    (most : l.most = some n) (small : n ≤ sizeLine) (noDef : d.params.defaults = []) (room : Room k callerA) (inK : ∀ (w : World) (h : Heap), YP w h → (K w.params).In h)
    (defs : ∀ (w : World) (mg : Str → Option Value) (fa : Addr) (h : Heap), (K w.params).In h → h.Ns mainGlobals mg → mg d.name = some (.ref fa) →
      ∃ fd : FuncData, (∀ (s : Shared) (u : Value), BindsTo s fd ⟨[u], []⟩ [(x, u)]) ∧ ∀ base : Heap, (K w.params).In base → base.Ns mainGlobals mg → FnG l.prog w (K w.params) mg base k fa fd [x] F)
    (law : ∀ ns : List Int, ns.length ≤ n → ∃ vh, F [.d (.frz (ns.map D.int))] [] = .ok (.d (.bl true)) vh) : PySem.W.WalkO q loose XP YP l.row.toRowW d [] (fun f vs => PySem.call f vs) := by
  refine Att.attach_call most noDef fun w s₀ s₁ mg mb fa o pm cd doc a vs ns G Y ho hd hcd hmg hobj hints hlen hg => ?_
  obtain ⟨fd, b, g⟩ := defs w mg fa _ (inK w _ Y) G.T.g hmg
  exact law_end (inK w _ Y) G.T.g G.T.b G.T.builtins G.T.nolimit hg hobj hints (Nat.le_trans hlen small) room g b (law ns hlen)
end Mn

namespace Mn
open PySem PySem.Spec PyProof.Rows L2

theorem bt_all : bootBuiltins "all" = some (.builtin "all") := by decide +kernel
theorem bt_any : bootBuiltins "any" = some (.builtin "any") := by decide +kernel
theorem bt_len : bootBuiltins "len" = some (.builtin "len") := by decide +kernel
theorem bt_repr : bootBuiltins "repr" = some (.builtin "repr") := by decide +kernel
theorem bt_isinstance : bootBuiltins "isinstance" = some (.builtin "isinstance") := by decide +kernel
theorem bt_sorted : bootBuiltins "sorted" = some (.builtin "sorted") := by decide +kernel
theorem bt_int : bootBuiltins "int" = some (.type "int") := by decide +kernel
theorem bt_str : bootBuiltins "str" = some (.type "str") := by decide +kernel
theorem bt_list : bootBuiltins "list" = some (.type "list") := by decide +kernel
theorem bt_tuple : bootBuiltins "tuple" = some (.type "tuple") := by decide +kernel

/-! ### a module's constants -/
def Konst (K : PySem.W.Frag) (mg : Str → Option Value) (x : Str) (d : D) : Prop := ∃ u v, mg x = some u ∧ RelV v u ∧ ∀ hid H ρ, RelD ⟨K, mg, hid⟩ H ρ d v
def valD : Value → Option D
  | .none => some .non
  | .bool b => some (.bl b)
  | .int i _ => some (.int i)
  | .str x _ => if (decide (x.length ≤ sizeLine) && PyData.strOk x) = true then some (.str x) else none
  | _ => none
def valsD : List Value → Option (List D)
  | [] => some []
  | u :: us => match valD u, valsD us with
    | some x, some xs => some (x :: xs)
    | _, _ => none
theorem valD_ok {c : Cn} {H : Hp} {ρ : Rho} {u : Value} {x : D} (h : valD u = some x) : ∃ v, RelV v u ∧ absV u = some v ∧ RelD c H ρ x v := by
  cases u with
  | none => cases h; exact ⟨.non, rfl, rfl, rfl⟩
  | bool b => cases h; exact ⟨.bl b, rfl, rfl, rfl⟩
  | int i t => cases h; exact ⟨.int i, ⟨t, rfl⟩, rfl, rfl⟩
  | str y t =>
    simp only [valD] at h
    split at h
    · rename_i hk
      rw [Bool.and_eq_true, decide_eq_true_eq] at hk
      cases h
      exact ⟨.str y, ⟨t, rfl⟩, rfl, rfl, hk⟩
    · cases h
  | _ => cases h
def absVs : List Value → List V
  | [] => []
  | u :: us => (absV u).getD .non :: absVs us
theorem valsD_ok {c : Cn} {H : Hp} {ρ : Rho} : ∀ {us : List Value} {xs : List D}, valsD us = some xs → Vals (absVs us) us ∧ RelDs c H ρ xs (absVs us)
  | [], _, h => by cases h; exact ⟨.nil, trivial⟩
  | u :: us, xs, h => by
    simp only [valsD] at h
    split at h
    · rename_i x ys h1 h2
      cases h
      obtain ⟨v, r, e, d⟩ := valD_ok (c := c) (H := H) (ρ := ρ) h1
      obtain ⟨t1, t2⟩ := valsD_ok (c := c) (H := H) (ρ := ρ) h2
      have e2 : absVs (u :: us) = v :: absVs us := by simp only [absVs, e, Option.getD_some]
      rw [e2]
      exact ⟨.cons r t1, d, t2⟩
    · cases h
section
variable {K : PySem.W.Frag} {mg : Str → Option Value} {h : Heap} {x : Str}
theorem konst_flat {u : Value} {d : D} (X : K.In h) (G : h.Ns mainGlobals mg) (a : PySem.W.nsIn K mainGlobals x = some (some u)) (e : valD u = some d) : Konst K mg x d := by
  have hm := PySem.W.mg_of X G a
  refine ⟨u, (absV u).getD .non, hm, ?_, fun hid H ρ => ?_⟩
  · obtain ⟨v, r, e1, _⟩ := valD_ok (c := ⟨K, mg, []⟩) (H := fun _ => none) (ρ := []) e
    rw [e1]; exact r
  · obtain ⟨v, r, e1, q⟩ := valD_ok (c := ⟨K, mg, hid⟩) (H := H) (ρ := ρ) e
    rw [e1]; exact q
theorem konst_tup {a : Addr} {od : Option Addr} {its : Array Value} {n : Nat} {sl : Array (Option Value)} {ds : List D} (X : K.In h) (G : h.Ns mainGlobals mg) (e1 : PySem.W.nsIn K mainGlobals x = some (some (.ref a))) (e2 : K.lookup a = some ⟨.type "tuple", od, .seq its n, sl⟩)
    (e : valsD its.toList = some ds) (z : decide (its.size ≤ sizeLine) = true) : Konst K mg x (.ctp ds) := by
  have hm := PySem.W.mg_of X G e1
  refine ⟨.ref a, .ref a, hm, rfl, fun hid H ρ => ?_⟩
  obtain ⟨r1, r2⟩ := valsD_ok (c := ⟨K, mg, hid⟩) (H := H) (ρ := ρ) e
  refine ⟨a, absVs its.toList, rfl, ⟨_, its, n, e2, rfl, rfl, of_decide_eq_true z, r1⟩, ?_, r2⟩
  rw [r2.length, r1.length]
  simpa using of_decide_eq_true z
theorem konst_no (X : K.In h) (G : h.Ns mainGlobals mg) (a : PySem.W.nsIn K mainGlobals x = some none) : mg x = none := PySem.W.mg_none_of X G a
/-- a def of the text, by its global name -/
structure GDef (K : PySem.W.Frag) (mg : Str → Option Value) (x : Str) (st : Stmt) (f : Addr) (fd : FuncData) : Prop where
  F : Fun K x x st f fd
  m : mg x = some (.ref f)
theorem gdef_of {st : Stmt} {f : Addr} {oc : Value} {od an : Option Addr} {osl : Array (Option Value)} {kV doc pm cdv ct : Value} (X : K.In h) (G : h.Ns mainGlobals mg) (a : PySem.W.nsIn K mainGlobals x = some (some (.ref f)))
    (l : K.lookup f = some ⟨oc, od, .func (PySem.W.fnOf x x (defArgs st) (defBody st) (defScope st) .none kV doc pm an cdv ct), osl⟩) (c : PySem.W.codeIn K cdv x = true) (k : PySem.W.keepIn K (.ref f) = true) :
    GDef K mg x st f (PySem.W.fnOf x x (defArgs st) (defBody st) (defScope st) .none kV doc pm an cdv ct) := ⟨fun_mk l c k, PySem.W.mg_of X G a⟩
end
section
variable {X : Cx} {c : Cn} {U : WX} {pos p : Pos}
theorem me_k {K : PySem.W.Frag} {mg : Str → Option Value} {hid : List Addr} {x : Str} {d : D} (k : Konst K mg x d) (hK : X.mg = mg) (hg : Gl X x) (hdb : (x == ("__debug__" : Str)) = false := by decide) : PE X (.Name x pos) (tM ⟨K, mg, hid⟩ U (mC d)) := by
  obtain ⟨u, v, h1, h2, h3⟩ := k
  exact me_glob hg (by rw [hK]; exact h1) h2 (fun H ρ => h3 hid H ρ) hdb
theorem ms_setLc (i : Nat) {y : Str} {py : Pos} {elt tg iter : Expr} {ifs : List Expr} {scope : Scope} {own : List (Str × Nat)} {spos : Pos} {fi : FI} {A : FTg} {t : FT} {f : FE} {ws : List Nat} {vs : List Nat} (mm : Bool) (hc : X.calm = true) (hN : X.N.Nodup)
    (hi : PI X tg iter (tMI c U fi)) (ok : BlkOk X.N X.env.scope scope own)
    (hg : ∀ (s : Shared) (H : Hp) (C : Addr) (cl : List (Str × Addr)) (fp : List Addr) (hid : List Addr), PG (X.blk s H scope (compEnvC scope cl C X.env) fp) tg (tMG ⟨c.K, c.mg, hid⟩ A ws))
    (ht : ∀ (s : Shared) (H : Hp) (C : Addr) (cl : List (Str × Addr)) (fp : List Addr) (hid : List Addr), PTs (X.blk s H scope (compEnvC scope cl C X.env) fp) ifs (tMT ⟨c.K, c.mg, hid⟩ U0 t))
    (he : ∀ (s : Shared) (H : Hp) (C : Addr) (cl : List (Str × Addr)) (fp : List Addr) (hid : List Addr), PE (X.blk s H scope (compEnvC scope cl C X.env) fp) elt (tM ⟨c.K, c.mg, hid⟩ U0 f))
    (hy : X.N[i]? = some y := by rfl) (hyl : X.env.scope.names.lookup y = some .local := by rfl)
    (hsw : swapsWith (.ListComp elt [⟨tg, iter, ifs, 0⟩] scope pos) (some (.Name y py)) spos.line X.env = pure true := by exact sw_true rfl rfl rfl (by decide +kernel))
    (hvs : own.map (·.2) = vs := by rfl) (hvw : ∀ i ∈ ws, i ∈ vs := by decide) (hs : ∀ x, foldedSetIterable iter X.env x = pure x := by intro _; rfl) :
    PS X (.Assign [.Name y py] (.ListComp elt [⟨tg, iter, ifs, 0⟩] scope pos) spos) (tMS c U (mSet i (mLc mm fi A t f vs))) := by
  subst hvs
  exact ps_imp (ps_setLc hc hN hy hyl hsw hi ok (fun s H C cl fp => pg_ex (hg s H C cl fp)) (fun s H C cl fp => pts_ex (ht s H C cl fp)) (fun s H C cl fp => pe_ex (he s H C cl fp)) hs) fun D σ H ⟨e, ρ, vh, he, hh, h⟩ => by
    have q : tM c U (mLc mm fi A t f (own.map (·.2))) σ H fun v H1 => D.nx (σ.set i (some v)) H1 := (useS he hh h).mono fun v H1 ⟨w, vh1, ρ1, r, A, _, _⟩ => A.out.here (A.re.set r) A.rh
    exact lc_use (U := U) hvw q
def mPar2 (i j : Nat) (fa : FA) : FS := fun e vh => lft (fa e vh) e fun ws vh1 => match ws with
  | [w1, w2] => .nx ((e.set i (some w1)).set j (some w2)) vh1
  | _ => .stuck
theorem ms_par2 (i j : Nat) {x y : Str} {a b : Expr} {fa : FA} {px py pt : Pos} {kt k2 : Nat} {pt2 : Pos} (hc : X.calm = true) (hN : X.N.Nodup) (ha : PA X [a, b] (tMA c U fa)) (hi : X.N[i]? = some x := by rfl) (hj : X.N[j]? = some y := by rfl) (hij : i ≠ j := by decide)
    (hx : X.env.scope.names.lookup x = some .local := by rfl) (hy : X.env.scope.names.lookup y = some .local := by rfl)
    (hw : swappedStores [.Tuple [.Name x px, .Name y py] kt pt] (.Tuple [a, b] k2 pt2) X.env = pure (some [x, y]) := by rfl)
    (hs : swapsWithSole [.Tuple [.Name x px, .Name y py] kt pt] (.Tuple [a, b] k2 pt2) pos.line X.env = pure false := by rfl) : PS X (.Assign [.Tuple [.Name x px, .Name y py] kt pt] (.Tuple [a, b] k2 pt2) pos) (tMS c U (mPar2 i j fa)) :=
  ps_imp (ps_par hc hN hi hj hij hx hy ha hw hs) fun D σ H ⟨e, ρ, vh, he, hh, h⟩ => (useSA he hh h).mono fun vs H1 ⟨ws, vh1, ρ1, rs, A, _, _⟩ => by
    have o := A.out
    match ws, vs, rs, o with
    | [w1, w2], [v1, v2], ⟨r1, r2, _⟩, o => exact ⟨v1, v2, rfl, o.here ((A.re.set r1).set r2) A.rh⟩
def mPar3 (i j l : Nat) (fa : FA) : FS := fun e vh => lft (fa e vh) e fun ws vh1 => match ws with
  | [w1, w2, w3] => .nx (((e.set i (some w1)).set j (some w2)).set l (some w3)) vh1
  | _ => .stuck
theorem ms_par3 (i j l : Nat) {x y z : Str} {a b d : Expr} {fa : FA} {px py pz pt : Pos} {kt k2 : Nat} {pt2 : Pos} (hc : X.calm = true) (hN : X.N.Nodup) (ha : PA X [a, b, d] (tMA c U fa)) (hi : X.N[i]? = some x := by rfl) (hj : X.N[j]? = some y := by rfl) (hl : X.N[l]? = some z := by rfl)
    (hij : i ≠ j := by decide) (hil : i ≠ l := by decide) (hjl : j ≠ l := by decide) (hx : X.env.scope.names.lookup x = some .local := by rfl) (hy : X.env.scope.names.lookup y = some .local := by rfl) (hz : X.env.scope.names.lookup z = some .local := by rfl)
    (hw : swappedStores [.Tuple [.Name x px, .Name y py, .Name z pz] kt pt] (.Tuple [a, b, d] k2 pt2) X.env = pure (some [x, y, z]) := by rfl)
    (hs : swapsWithSole [.Tuple [.Name x px, .Name y py, .Name z pz] kt pt] (.Tuple [a, b, d] k2 pt2) pos.line X.env = pure false := by rfl) : PS X (.Assign [.Tuple [.Name x px, .Name y py, .Name z pz] kt pt] (.Tuple [a, b, d] k2 pt2) pos) (tMS c U (mPar3 i j l fa)) :=
  ps_imp (ps_par3 hc hN hi hj hl hij hil hjl hx hy hz ha hw hs) fun D σ H ⟨e, ρ, vh, he, hh, h⟩ => (useSA he hh h).mono fun vs H1 ⟨ws, vh1, ρ1, rs, A, _, _⟩ => by
    have o := A.out
    match ws, vs, rs, o with
    | [w1, w2, w3], [v1, v2, v3], ⟨r1, r2, r3, _⟩, o => exact ⟨v1, v2, v3, rfl, o.here (((A.re.set r1).set r2).set r3) A.rh⟩
/-- targets = value, the targets a tuple -/
def mAsg (f : FE) (A : FTg) : FS := fun e vh => lft (f e vh) e fun w vh1 => match w with
  | .d x => match A x e with
    | some e' => .nx e' vh1
    | none => .stuck
  | .ref _ => .stuck
theorem ms_tup {tg a : Expr} {f : FE} {A : FTg} {vs : List Nat} (ha : PE X a (tM c U f)) (hg : PG X tg (tMG c A vs)) (hs : swapsWithSole [tg] a pos.line X.env = pure false := by rfl) (hw : swappedStores [tg] a X.env = pure none := by rfl)
    (h1 : (assignEach [tg] X.env).map (·.2) = [assign tg X.env] := by rfl) : PS X (.Assign [tg] a pos) (tMS c U (mAsg f A)) :=
  ps_imp (ps_asg ha hg hs hw h1) fun D σ H ⟨e, ρ, vh, he, hh, h⟩ => (useS he hh h).mono fun v H1 ⟨w, vh1, ρ1, r, A0, _, _⟩ => by
    have o := A0.out
    cases w with
    | ref k => exact o.elim
    | d x =>
      dsimp only at o
      cases q : A x e with
      | none => rw [q] at o; exact o.elim
      | some e' => rw [q] at o; exact ⟨e, ρ1, x, e', A0.re, r, q, fun σ' re' _ => o.here re' A0.rh⟩
theorem mt_insertM : MtM X "list.insert" rInsert := mt_insert
end
end Mn

namespace Mn
open PySem PySem.Spec PyProof.Rows L2

/-! ### how the meanings are reckoned -/
section
variable {e : Env} {vh : VH} {f g : FE} {s t : FS} {fa : FA} {ft gt : FT}
def seqR (r : RS) (g : FS) : RS := match r with
  | .nx e' vh' => g e' vh'
  | r => r
@[simp] theorem seqR_nx : seqR (.nx e vh) t = t e vh := rfl
@[simp] theorem seqR_rt {w : W} : seqR (.rt w vh) t = .rt w vh := rfl
@[simp] theorem seqR_bk : seqR (.bk e vh) t = .bk e vh := rfl
@[simp] theorem seqR_ct : seqR (.ct e vh) t = .ct e vh := rfl
@[simp] theorem seqR_exn {x : Exn} : seqR (.exn x e vh) t = .exn x e vh := rfl
@[simp] theorem seqR_stuck : seqR .stuck t = .stuck := rfl
@[simp] theorem ev_seq : mSeq s t e vh = seqR (s e vh) t := by unfold mSeq seqR; cases s e vh <;> rfl
@[simp] theorem ev_skip : mSkip e vh = .nx e vh := rfl
@[simp] theorem ev_set {i : Nat} : mSet i f e vh = lft (f e vh) e fun w vh' => .nx (e.set i (some w)) vh' := rfl
@[simp] theorem ev_do : mDo f e vh = lft (f e vh) e fun _ vh' => .nx e vh' := rfl
@[simp] theorem ev_ret : mRet f e vh = lft (f e vh) e fun w vh' => .rt w vh' := rfl
@[simp] theorem ev_retN : mRetN e vh = .rt (.d .non) vh := rfl
@[simp] theorem ev_ifS : mIfS ft s t e vh = lft (ft e vh) e fun b vh' => if b = true then s e vh' else t e vh' := rfl
@[simp] theorem ev_break : mBreak e vh = .bk e vh := rfl
@[simp] theorem ev_cont : mCont e vh = .ct e vh := rfl
def getW (o : Option (Option W)) (vh : VH) : Res W := match o with
  | some (some w) => .ok w vh
  | _ => .stuck
@[simp] theorem getW_some {w : W} : getW (some (some w)) vh = .ok w vh := rfl
@[simp] theorem ev_var {i : Nat} : mVar i e vh = getW (e[i]?) vh := by unfold mVar getW; rfl
@[simp] theorem ev_c {d : D} : mC d e vh = .ok (.d d) vh := rfl
@[simp] theorem ev_op {k : D → D → Option D} : mOp k f g e vh = bnd (f e vh) fun w1 vh1 => bnd (g e vh1) fun w2 vh2 => opt (see vh2 w1) fun x => opt (see vh2 w2) fun y => opt (k x y) fun z => .ok (.d z) vh2 := rfl
@[simp] theorem ev_un {k : D → Option D} : mUn k f e vh = bnd (f e vh) fun w1 vh1 => opt (see vh1 w1) fun x => opt (k x) fun z => .ok (.d z) vh1 := rfl
def chainR (z : D) (vh : VH) (k : VH → Res W) : Res W := match z with
  | .bl true => k vh
  | .bl false => .ok (.d (.bl false)) vh
  | _ => .stuck
@[simp] theorem chainR_bl {b : Bool} {k : VH → Res W} : chainR (.bl b) vh k = if b = true then k vh else .ok (.d (.bl false)) vh := by cases b <;> rfl
@[simp] theorem ev_chain {h : FE} {k k' : D → D → Option D} : mChain k k' f g h e vh = bnd (f e vh) fun w1 vh1 => bnd (g e vh1) fun w2 vh2 => opt (see vh2 w1) fun x => opt (see vh2 w2) fun y => opt (k x y) fun z =>
    chainR z vh2 fun vh2 => bnd (h e vh2) fun w3 vh3 => opt (see vh3 w2) fun y => opt (see vh3 w3) fun x3 => opt (k' y x3) fun z' => .ok (.d z') vh3 := by
  unfold mChain chainR; rfl
@[simp] theorem ev_isB {b : Bool} : isB (.d (.bl b)) vh = .ok b vh := rfl
@[simp] theorem ev_test : mTest f e vh = bnd (f e vh) isB := rfl
@[simp] theorem ev_notT : mNotT ft e vh = bnd (ft e vh) fun b vh1 => .ok (!b) vh1 := rfl
@[simp] theorem ev_andT : mAndT ft gt e vh = bnd (ft e vh) fun b vh1 => if b = true then gt e vh1 else .ok false vh1 := rfl
@[simp] theorem ev_orT : mOrT ft gt e vh = bnd (ft e vh) fun b vh1 => if b = true then .ok true vh1 else gt e vh1 := rfl
@[simp] theorem ev_if : mIf ft f g e vh = bnd (ft e vh) fun b vh1 => if b = true then f e vh1 else g e vh1 := rfl
@[simp] theorem ev_and : mAnd f g e vh = bnd (f e vh) fun w vh1 => bnd (isB w vh1) fun b vh1 => if b = true then g e vh1 else .ok (.d (.bl false)) vh1 := rfl
@[simp] theorem ev_or : mOr f g e vh = bnd (f e vh) fun w vh1 => bnd (isB w vh1) fun b vh1 => if b = true then .ok (.d (.bl true)) vh1 else g e vh1 := rfl
@[simp] theorem ev_not : mNot f e vh = bnd (f e vh) fun w vh1 => bnd (isB w vh1) fun b vh1 => .ok (.d (.bl !b)) vh1 := rfl
@[simp] theorem ev_nil : mNil e vh = .ok [] vh := rfl
@[simp] theorem ev_cons : mCons f fa e vh = bnd (f e vh) fun w vh1 => bnd (fa e vh1) fun ws vh2 => .ok (w :: ws) vh2 := rfl
@[simp] theorem datas_nil : datas [] = some [] := rfl
@[simp] theorem datas_cons {x : D} {r : List W} : datas (.d x :: r) = (datas r).map (x :: ·) := by simp only [datas]; cases datas r <;> rfl
@[simp] theorem sees_nil : sees vh [] = some [] := rfl
@[simp] theorem sees_cons {w : W} {r : List W} : sees vh (w :: r) = (see vh w).bind fun x => (sees vh r).map (x :: ·) := by
  simp only [sees]
  cases see vh w <;> cases sees vh r <;> rfl
def sizeOk (n : Nat) (r : Res W) : Res W := if n ≤ sizeLine then r else .stuck
theorem sizeOk_ok {n : Nat} {r : Res W} (h : n ≤ 16777216) : sizeOk n r = r := if_pos h
@[simp] theorem ev_tup : mTup fa e vh = bnd (fa e vh) fun ws vh1 => opt (datas ws) fun ds => sizeOk ds.length (.ok (.d (.tup ds)) vh1) := rfl
@[simp] theorem ev_lst : mLst fa e vh = bnd (fa e vh) fun ws vh1 => opt (datas ws) fun ds => sizeOk ds.length (.ok (.d (.lst ds)) vh1) := rfl
@[simp] theorem ev_lstM : mLstM fa e vh = bnd (fa e vh) fun ws vh1 => opt (datas ws) fun ds => sizeOk ds.length (.ok (.ref vh1.length) (vh1 ++ [.lst ds])) := rfl
@[simp] theorem ev_blt {k : List D → Option D} : mBlt k fa e vh = bnd (fa e vh) fun ws vh1 => opt (sees vh1 ws) fun ds => opt (k ds) fun z => .ok (.d z) vh1 := rfl
@[simp] theorem ev_call {F : FN} {dws : List W} : mCall F dws fa e vh = bnd (fa e vh) fun ws vh1 => F (ws ++ dws) vh1 := rfl
def endFn (r : RS) : Res W := match r with
  | .nx _ vh' => .ok (.d .non) vh'
  | .rt w vh' => .ok w vh'
  | .exn x _ vh' => .exn x vh'
  | _ => .stuck
@[simp] theorem endFn_nx : endFn (.nx e vh) = .ok (.d .non) vh := rfl
@[simp] theorem endFn_rt {w : W} : endFn (.rt w vh) = .ok w vh := rfl
theorem ev_fn {np nn : Nat} {ws : List W} (h : ws.length = np) : mFn np nn s ws vh = endFn (s (entry np nn ws) vh) := by
  unfold mFn endFn
  exact (if_pos h).trans rfl
@[simp] theorem ev_noPart : mNoPart e vh = .ok none vh := rfl
def partR (o : Option D) (vh : VH) : Res (Option Int) := match o with
  | some (.int i) => .ok (some i) vh
  | _ => .stuck
@[simp] theorem partR_int {i : Int} : partR (some (.int i)) vh = .ok (some i) vh := rfl
@[simp] theorem ev_part : mPart f e vh = bnd (f e vh) fun w vh1 => partR (see vh1 w) vh1 := by unfold mPart partR; rfl
@[simp] theorem ev_sl {fl fh : Env → VH → Res (Option Int)} : mSl f fl fh e vh = bnd (f e vh) fun w vh1 => bnd (fl e vh1) fun lo vh2 => bnd (fh e vh2) fun hi vh3 => opt (see vh3 w) fun x => opt (dSl x lo hi) fun z => .ok (.d z) vh3 := rfl
def storeL (k : Nat) (ds : List D) (n : Int) (x : D) (e : Env) (vh : VH) : RS := match ixN ds.length n with
  | some j => .nx e (vh.set k (.lst (ds.set j x)))
  | none => .stuck
def storeD (k : Nat) (t : Bool) (kvs : List (D × D)) (i x : D) (e : Env) (vh : VH) : RS := match dPut t kvs i x with
  | some kvs' => if kvs.length < sizeLine then .nx e (vh.set k (.dic t kvs')) else .stuck
  | none => .stuck
def storeAt (k : Nat) (o : Option VO) (i x : D) (e : Env) (vh : VH) : RS := match o with
  | some (.lst ds) => match i with
    | .int n => storeL k ds n x e vh
    | _ => .stuck
  | some (.dic t kvs) => storeD k t kvs i x e vh
  | _ => .stuck
def storeW (wo wv : W) (oi : Option D) (e : Env) (vh : VH) : RS := match wo with
  | .d _ => .stuck
  | .ref k => match wv with
    | .ref _ => .stuck
    | .d x => match oi with
      | none => .stuck
      | some i => storeAt k (vh[k]?) i x e vh
@[simp] theorem storeW_d {k : Nat} {x i : D} : storeW (.ref k) (.d x) (some i) e vh = storeAt k (vh[k]?) i x e vh := rfl
@[simp] theorem storeAt_lst {k : Nat} {ds : List D} {n : Int} {x : D} : storeAt k (some (.lst ds)) (.int n) x e vh = storeL k ds n x e vh := rfl
@[simp] theorem storeAt_dic {k : Nat} {t : Bool} {kvs : List (D × D)} {i x : D} : storeAt k (some (.dic t kvs)) i x e vh = storeD k t kvs i x e vh := rfl
@[simp] theorem ev_setItem {h : FE} : mSetItem f g h e vh = lft (h e vh) e fun wv vh1 => lft (f e vh1) e fun wo vh2 => lft (g e vh2) e fun wi vh3 => storeW wo wv (see vh3 wi) e vh3 := by
  unfold mSetItem storeW storeAt storeL storeD; rfl
def seqI (w : W) (vh : VH) : Res (List D) := match w with
  | .d x => match x with
    | .str z => .ok (z.cps.toList.map fun ch => .str ⟨#[ch]⟩) vh
    | x => opt (asSeq x) fun ds => .ok ds vh
  | _ => .stuck
@[simp] theorem seqI_str {z : Str} : seqI (.d (.str z)) vh = .ok (z.cps.toList.map fun ch => .str ⟨#[ch]⟩) vh := rfl
@[simp] theorem seqI_lst {ds : List D} : seqI (.d (.lst ds)) vh = .ok ds vh := rfl
@[simp] theorem seqI_tup {ds : List D} : seqI (.d (.tup ds)) vh = .ok ds vh := rfl
@[simp] theorem seqI_ctp {ds : List D} : seqI (.d (.ctp ds)) vh = .ok ds vh := rfl
@[simp] theorem ev_seqI : mSeqI f e vh = bnd (f e vh) seqI := by unfold mSeqI seqI; rfl
def rangeI (o : Option D) (vh : VH) : Res (List D) := match o with
  | some (.int j) => if -(2 ^ 62) ≤ j ∧ j < 2 ^ 62 then .ok ((List.range j.toNat).map fun (i : Nat) => .int (i : Int)) vh else .stuck
  | _ => .stuck
theorem rangeI_ok {j : Int} (h : -(2 ^ 62) ≤ j ∧ j < 2 ^ 62) : rangeI (some (.int j)) vh = .ok ((List.range j.toNat).map fun (i : Nat) => .int (i : Int)) vh := if_pos h
@[simp] theorem ev_range1 : mRange1 f e vh = bnd (f e vh) fun w vh1 => rangeI (see vh1 w) vh1 := by unfold mRange1 rangeI; rfl
def lcR (m : Bool) (r : Res (List D)) : Res W := match r with
  | .ok xs vh2 => if xs.length ≤ sizeLine then (if m then .ok (.ref vh2.length) (vh2 ++ [.lst xs]) else .ok (.d (.lst xs)) vh2) else .stuck
  | _ => .stuck
theorem lcR_false {xs : List D} (h : xs.length ≤ 16777216) : lcR false (.ok xs vh) = .ok (.d (.lst xs)) vh := if_pos h
theorem lcR_true {xs : List D} (h : xs.length ≤ 16777216) : lcR true (.ok xs vh) = .ok (.ref vh.length) (vh ++ [.lst xs]) := if_pos h
@[simp] theorem ev_lc {m : Bool} {fi : FI} {A : FTg} {vs : List Nat} : mLc m fi A ft f vs e vh = bnd (fi e vh) fun ds vh1 => lcR m (mComp A ft f (wipeE e vs) ds vh1) := by unfold mLc lcR; rfl
@[simp] theorem ev_forS {fi : FI} {A : FTg} : mForS fi A s e vh = lft (fi e vh) e fun ds vh' => mFor A s ds e vh' := rfl
def forR (r : RS) (k : Env → VH → RS) : RS := match r with
  | .nx e2 vh2 => k e2 vh2
  | .ct e2 vh2 => k e2 vh2
  | .bk e2 vh2 => .nx e2 vh2
  | r => r
@[simp] theorem forR_nx {k : Env → VH → RS} : forR (.nx e vh) k = k e vh := rfl
@[simp] theorem forR_ct {k : Env → VH → RS} : forR (.ct e vh) k = k e vh := rfl
@[simp] theorem forR_bk {k : Env → VH → RS} : forR (.bk e vh) k = .nx e vh := rfl
@[simp] theorem forR_rt {k : Env → VH → RS} {w : W} : forR (.rt w vh) k = .rt w vh := rfl
@[simp] theorem for_nil {A : FTg} : mFor A s [] e vh = .nx e vh := rfl
theorem for_cons {A : FTg} {d : D} {ds : List D} {e' : Env} (h : A d e = some e') : mFor A s (d :: ds) e vh = forR (s e' vh) (mFor A s ds) := by
  simp only [mFor, h]
  unfold forR
  cases s e' vh <;> rfl
@[simp] theorem ev_aName {i : Nat} {d : D} : aName i d e = some (e.set i (some (.d d))) := rfl
@[simp] theorem ev_aNil : aNil [] e = some e := rfl
@[simp] theorem ev_aCons {A : FTg} {B : FTgs} {d : D} {ds : List D} : aCons A B (d :: ds) e = (A d e).bind fun e' => B ds e' := by simp only [aCons]; cases A d e <;> rfl
@[simp] theorem ev_aTup_tup {n : Nat} {B : FTgs} {ds : List D} : aTup n B (.tup ds) e = if ds.length = n then B ds e else none := rfl
@[simp] theorem ev_aTup_ctp {n : Nat} {B : FTgs} {ds : List D} : aTup n B (.ctp ds) e = if ds.length = n then B ds e else none := rfl
def asgR (o : Option Env) (vh : VH) : RS := match o with
  | some e' => .nx e' vh
  | none => .stuck
@[simp] theorem asgR_some : asgR (some e) vh = .nx e vh := rfl
def asgW (w : W) (A : FTg) (e : Env) (vh : VH) : RS := match w with
  | .d x => asgR (A x e) vh
  | .ref _ => .stuck
@[simp] theorem asgW_d {x : D} {A : FTg} : asgW (.d x) A e vh = asgR (A x e) vh := rfl
@[simp] theorem ev_mAsg {A : FTg} : mAsg f A e vh = lft (f e vh) e fun w vh1 => asgW w A e vh1 := by unfold mAsg asgW asgR; rfl
def mutR (k : Nat) (o : Option VO) (g : List D → List D → Option (D × List D)) (ws : List W) (vh : VH) : Res W := opt (datas ws) fun xs => match o with
  | some (.lst ds) => opt (g ds xs) fun z => .ok (.d z.1) (vh.set k (.lst z.2))
  | _ => .stuck
@[simp] theorem mutR_lst {k : Nat} {ds : List D} {g : List D → List D → Option (D × List D)} {ws : List W} : mutR k (some (.lst ds)) g ws vh = opt (datas ws) fun xs => opt (g ds xs) fun z => .ok (.d z.1) (vh.set k (.lst z.2)) := rfl
def mutW (w : W) (g : List D → List D → Option (D × List D)) (fa : FA) (e : Env) (vh : VH) : Res W := match w with
  | .ref k => match vh[k]? with
    | some (.lst _) => bnd (fa e vh) fun ws vh2 => mutR k (vh2[k]?) g ws vh2
    | _ => .stuck
  | _ => .stuck
theorem mutW_ref {k : Nat} {ds : List D} {g : List D → List D → Option (D × List D)} (h : vh[k]? = some (.lst ds)) : mutW (.ref k) g fa e vh = bnd (fa e vh) fun ws vh2 => mutR k (vh2[k]?) g ws vh2 := by
  simp only [mutW, h]
@[simp] theorem ev_mut {g : List D → List D → Option (D × List D)} : mMut g f fa e vh = bnd (f e vh) fun w vh1 => mutW w g fa e vh1 := by unfold mMut mutW mutR; rfl
@[simp] theorem ev_mt {T : String} {k : D → List D → Option D} : mMt T k f fa e vh = bnd (f e vh) fun w vh1 => opt (see vh1 w) fun x0 => if tyName x0 = some T ∧ (T = "str" ∨ T = "list" ∨ T = "dict") then
    bnd (fa e vh1) fun ws vh2 => opt (see vh2 w) fun x => opt (sees vh2 ws) fun xs => opt (k x xs) fun z => .ok (.d z) vh2 else .stuck := rfl
theorem see_ref {k : Nat} {ds : List D} (h : vh[k]? = some (.lst ds)) : see vh (.ref k) = some (.lst ds) := by simp only [see, h]
theorem lc_nil {A : FTg} : mComp A ft f e [] vh = .ok [] vh := rfl
def compR (x : D) (r : Res (List D)) : Res (List D) := match r with
  | .ok xs vh3 => .ok (x :: xs) vh3
  | _ => .stuck
@[simp] theorem compR_ok {x : D} {xs : List D} : compR x (.ok xs vh) = .ok (x :: xs) vh := rfl
theorem lc_cons {A : FTg} {d : D} {ds : List D} {e' : Env} {x : D} {vh1 vh2 : VH} (h : A d e = some e') (h2 : ft e' vh = .ok true vh1) (h3 : f e' vh1 = .ok (.d x) vh2) : mComp A ft f e (d :: ds) vh = compR x (mComp A ft f e ds vh2) := by
  simp only [mComp, h, h2, h3]
  unfold compR; rfl
theorem lc_skip {A : FTg} {d : D} {ds : List D} {e' : Env} {vh1 : VH} (h : A d e = some e') (h2 : ft e' vh = .ok false vh1) : mComp A ft f e (d :: ds) vh = mComp A ft f e ds vh1 := by
  simp only [mComp, h, h2]
/-- a comprehension of pure parts -/
theorem lc_map {A : FTg} {k : D → D} : ∀ {ds : List D}, (∀ d ∈ ds, ∃ e', A d e = some e' ∧ ft e' vh = .ok true vh ∧ f e' vh = .ok (.d (k d)) vh) → mComp A ft f e ds vh = .ok (ds.map k) vh
  | [], _ => rfl
  | d :: ds, h => by
    obtain ⟨e', h1, h2, h3⟩ := h d List.mem_cons_self
    rw [lc_cons h1 h2 h3, lc_map fun x hx => h x (List.mem_cons_of_mem _ hx)]; rfl
theorem lc_filter {A : FTg} {p : D → Bool} {k : D → D} : ∀ {ds : List D}, (∀ d ∈ ds, ∃ e', A d e = some e' ∧ ft e' vh = .ok (p d) vh ∧ (p d = true → f e' vh = .ok (.d (k d)) vh)) → mComp A ft f e ds vh = .ok ((ds.filter p).map k) vh
  | [], _ => rfl
  | d :: ds, h => by
    obtain ⟨e', h1, h2, h3⟩ := h d List.mem_cons_self
    have ih := lc_filter (A := A) (p := p) (k := k) fun x hx => h x (List.mem_cons_of_mem _ hx)
    cases hp : p d with
    | true =>
      rw [hp] at h2
      rw [lc_cons h1 h2 (h3 hp), ih, List.filter_cons_of_pos hp]; rfl
    | false =>
      rw [hp] at h2
      rw [lc_skip h1 h2, ih, List.filter_cons_of_neg (by simp [hp])]
end
end Mn

namespace Mn
open PySem PySem.Spec PyProof.Rows L2

/-! ### evaluation of operations on known shapes -/
section
variable {a b c d e x y : D} {vh : VH} {k : Nat} {i j : Int} {ds : List D} {z : Str} {E : Env} {vo : VO} {w : W}
theorem dEq_int (i j : Int) : dEq (.int i) (.int j) = some (.bl (decide (i = j))) := by
  simp [dEq, toPy, PyData.depth, PyData.eqv]
  exact Bool.beq_eq_decide_eq _ _
@[simp] theorem ix5_0 : dIx (.lst [a, b, c, d, e]) (.int 0) = some a := rfl
@[simp] theorem ix5_1 : dIx (.lst [a, b, c, d, e]) (.int 1) = some b := rfl
@[simp] theorem ix5_2 : dIx (.lst [a, b, c, d, e]) (.int 2) = some c := rfl
@[simp] theorem ix5_3 : dIx (.lst [a, b, c, d, e]) (.int 3) = some d := rfl
@[simp] theorem ix5_4 : dIx (.lst [a, b, c, d, e]) (.int 4) = some e := rfl
@[simp] theorem st5_1 : storeL k [a, b, c, d, e] 1 x E vh = .nx E (vh.set k (.lst [a, x, c, d, e])) := rfl
@[simp] theorem st5_2 : storeL k [a, b, c, d, e] 2 x E vh = .nx E (vh.set k (.lst [a, b, x, d, e])) := rfl
@[simp] theorem st5_3 : storeL k [a, b, c, d, e] 3 x E vh = .nx E (vh.set k (.lst [a, b, c, x, e])) := rfl
@[simp] theorem st5_4 : storeL k [a, b, c, d, e] 4 x E vh = .nx E (vh.set k (.lst [a, b, c, d, x])) := rfl
@[simp] theorem see0 : see (.lst ds :: vh) (.ref 0) = some (.lst ds) := rfl
@[simp] theorem set0 : List.set (vo :: vh) 0 (.lst ds) = .lst ds :: vh := rfl
@[simp] theorem get0 : (vo :: vh)[0]? = some vo := rfl
@[simp] theorem storeW_0 : storeW (.ref 0) (.d x) (some y) E (.lst ds :: vh) = storeAt 0 (some (.lst ds)) y x E (.lst ds :: vh) := rfl
@[simp] theorem add_int : dAdd (.int i) (.int j) = some (.int (i + j)) := rfl
@[simp] theorem cInt_int : cInt [.int i] = some (.int i) := rfl
@[simp] theorem cLen_lst : cLen [.lst ds] = some (.int ds.length) := rfl
@[simp] theorem cLen_str : cLen [.str z] = some (.int z.length) := rfl
theorem dMod_int (h : 0 < j) : dMod (.int i) (.int j) = some (.int (i % j)) := by unfold dMod dInt2; exact if_pos h
theorem dFdiv_int (h : 0 < j ∧ j < 1073741824) : dFdiv (.int i) (.int j) = some (.int (i / j)) := by unfold dFdiv dInt2; exact if_pos h
theorem dMul_int (h : (-(2 ^ 64) < i ∧ i < 2 ^ 64) ∨ (-(2 ^ 64) < j ∧ j < 2 ^ 64)) : dMul (.int i) (.int j) = some (.int (i * j)) := by unfold dMul dInt2; exact if_pos h
@[simp] theorem pow_18 : dPow (.int 10) (.int 18) = some (.int 1000000000000000000) := rfl
@[simp] theorem lt_int : dLt (.int i) (.int j) = some (.bl (decide (i < j))) := rfl
@[simp] theorem le_int : dLe (.int i) (.int j) = some (.bl (decide (i ≤ j))) := rfl
@[simp] theorem gt_int : dGt (.int i) (.int j) = some (.bl (decide (j < i))) := rfl
@[simp] theorem ge_int : dGe (.int i) (.int j) = some (.bl (decide (j ≤ i))) := rfl
theorem atI_of {α : Type} {xs : List α} (h0 : 0 ≤ i) (h1 : i < xs.length) : atI xs i = xs[i.toNat]? := by
  unfold atI ixN
  rw [if_pos h0, if_pos h1]; rfl
theorem dIx_lst : dIx (.lst ds) (.int i) = atI ds i := rfl
theorem dIx_str : dIx (.str z) (.int i) = (atI z.cps.toList i).map fun ch => .str ⟨#[ch]⟩ := rfl
theorem entry22 : entry 2 5 [w, .d x] = [some w, some (.d x), none, none, none] := rfl
end


section
variable {A : FTg} {ft : FT} {f : FE} {s : FS} {e : Env} {vh : VH} {i j : Int}
theorem dEq_str (a b : Str) : dEq (.str a) (.str b) = some (.bl (a == b)) := by simp [dEq, toPy, PyData.depth, PyData.eqv]
theorem dNe_str (a b : Str) : dNe (.str a) (.str b) = some (.bl (!(a == b))) := by simp [dNe, toPy, PyData.depth, PyData.eqv]
theorem dNe_int (i j : Int) : dNe (.int i) (.int j) = some (.bl (!decide (i = j))) := by
  simp [dNe, toPy, PyData.depth, PyData.eqv]
  exact Bool.beq_eq_decide_eq _ _
abbrev sgn (n : Nat) : D := .str ⟨#[n]⟩
theorem toPys_sgn : ∀ cs : List Nat, toPys (cs.map sgn) = some (cs.map fun n => PyData.str ⟨#[n]⟩)
  | [] => rfl
  | c :: cs => by
    have := toPys_sgn cs
    simp [toPys, toPy, this]
theorem dNe_nil (cs : List Nat) : dNe (.lst (cs.map sgn)) (.lst []) = some (.bl (!cs.isEmpty)) := by
  unfold dNe
  rw [show toPy (.lst (cs.map sgn)) = some (.list (cs.map fun n => PyData.str ⟨#[n]⟩)) by simp [toPy, toPys_sgn], show toPy (.lst []) = some (.list []) from rfl]
  simp only
  rw [if_pos (Nat.le_trans (Nat.min_le_right _ _) (by decide))]
  cases cs <;> rfl
theorem dIx_sgn {z : Str} {i : Int} (hz : z.cps.toList.all (fun n => decide (n < 1114112)) = true) (h0 : 0 ≤ i) (h1 : i < z.length) : ∃ n, n < 1114112 ∧ dIx (.str z) (.int i) = some (sgn n) := by
  have hl : i.toNat < z.cps.toList.length := by
    have : z.length = z.cps.toList.length := by simp [Str.length]
    omega
  refine ⟨z.cps.toList[i.toNat], by simpa using List.all_eq_true.mp hz _ (List.getElem_mem hl), ?_⟩
  have hz2 : z.length = z.cps.toList.length := by simp [Str.length]
  rw [dIx_str, atI_of h0 (by omega), List.getElem?_eq_getElem hl]
  rfl
theorem asStrs_sgn : ∀ cs : List Nat, asStrs (cs.map sgn) = some ((cs.map fun n => [n]).map SX.S)
  | [] => rfl
  | c :: cs => by
    have := asStrs_sgn cs
    simp only [List.map_cons, asStrs] at this ⊢
    rw [this]; rfl
theorem joinL_nil : ∀ cs : List Nat, TL.joinL [] (cs.map fun n => [n]) = cs
  | [] => rfl
  | [c] => rfl
  | c :: d :: cs => by
    have := joinL_nil (d :: cs)
    simp only [List.map_cons, TL.joinL] at this ⊢
    simp [this]
theorem join_sgn {cs : List Nat} (hc : ∀ c ∈ cs, c < 1114112) (hl : cs.length ≤ 1000000) : gJoin (.str (SX.S [])) [.lst (cs.map sgn)] = some (.str (SX.S cs)) := by
  have e : Txt.join (SX.S []) ((cs.map fun n => [n]).map SX.S) = SX.S cs := by rw [SX.join_S, joinL_nil]
  have l1 : ∀ cs : List Nat, (((cs.map fun n => [n]).map SX.S).map (·.length)).sum = cs.length := fun cs => by
    rw [SX.lens]
    induction cs with
    | nil => rfl
    | cons a t ih => simp only [List.map_cons, List.sum_cons, List.length_cons, List.length_nil] at ih ⊢; omega
  simp only [gJoin, asSeq, asStrs_sgn, e]
  rw [if_pos]
  refine ⟨?_, by rw [SX.S_len]; show _ ≤ 16777216; omega, strOk_iff.mpr fun c h => hc c (by simpa using h)⟩
  rw [l1]
  have : (SX.S []).length = 0 := rfl
  simp [this]; omega
end

/-! ### loops -/
theorem for_inv {A : FTg} {s : FS} (I : Env → VH → Prop) : ∀ {ds : List D} {e : Env} {vh : VH}, (∀ d ∈ ds, ∀ e vh, I e vh → ∃ e', A d e = some e' ∧ ∃ e2 vh2, s e' vh = .nx e2 vh2 ∧ I e2 vh2) → I e vh → ∃ e2 vh2, mFor A s ds e vh = .nx e2 vh2 ∧ I e2 vh2
  | [], e, vh, _, hi => ⟨e, vh, rfl, hi⟩
  | d :: ds, e, vh, h, hi => by
    obtain ⟨e', h1, e2, vh2, h2, h3⟩ := h d List.mem_cons_self e vh hi
    obtain ⟨e3, vh3, h4, h5⟩ := for_inv I (ds := ds) (fun x hx => h x (List.mem_cons_of_mem _ hx)) h3
    exact ⟨e3, vh3, by rw [for_cons h1, h2, forR_nx, h4], h5⟩
/-- a comprehension that carries a state in the heap -/
theorem comp_inv {A : FTg} {ft : FT} {f : FE} {e : Env} (I : VH → Prop) (Pr : D → Prop) : ∀ {ds : List D} {vh : VH}, (∀ d ∈ ds, ∀ vh, I vh → ∃ e', A d e = some e' ∧ ft e' vh = .ok true vh ∧ ∃ x vh2, f e' vh = .ok (.d x) vh2 ∧ I vh2 ∧ Pr x) → I vh →
    ∃ xs vh2, mComp A ft f e ds vh = .ok xs vh2 ∧ I vh2 ∧ xs.length = ds.length ∧ ∀ x ∈ xs, Pr x
  | [], vh, _, hi => ⟨[], vh, rfl, hi, rfl, fun _ h => nomatch h⟩
  | d :: ds, vh, h, hi => by
    obtain ⟨e', h1, h2, x, vh2, h3, h4, h5⟩ := h d List.mem_cons_self vh hi
    obtain ⟨xs, vh3, h6, h7, h8, h9⟩ := comp_inv I Pr (ds := ds) (fun x hx => h x (List.mem_cons_of_mem _ hx)) h4
    refine ⟨x :: xs, vh3, by rw [lc_cons h1 h2 h3, h6]; rfl, h7, by simp [h8], fun y hy => ?_⟩
    rcases List.mem_cons.mp hy with rfl | hy
    · exact h5
    · exact h9 y hy
end Mn

namespace Mn
open PySem PySem.Spec PyProof.Rows L2

/-! ### upper, list(..) that will change -/
def gUpper (x : D) (xs : List D) : Option D := match x, xs with
  | .str a, [] => if a.length ≤ 5592405 ∧ (Txt.upper a).length ≤ sizeLine ∧ PyData.strOk (Txt.upper a) = true then some (.str (Txt.upper a)) else none
  | _, _ => none
theorem md_upper {c : Cn} : MtD c "str" (fun x xs H Q => ∃ a, x = .str a ∧ xs = [] ∧ a.length ≤ 5592405 ∧ Q (.str (Txt.upper a)) H) gUpper := fun H ρ x xs v vs z Q fr rx rs e k => by
  unfold gUpper at e
  split at e
  · split at e
    · rename_i hl
      cases e
      match vs, rs with
      | [], _ => exact ⟨_, rx.1, rfl, hl.1, k _ H (Same.refl H) ⟨rfl, hl.2.1, hl.2.2⟩⟩
    · cases e
  · cases e
def newL (o : Option (List D)) (vh : VH) : Res W := match o with
  | some ds => .ok (.ref vh.length) (vh ++ [.lst ds])
  | none => .stuck
def seqOf : List D → Option (List D)
  | [x] => asSeq x
  | _ => none
def mListM (fa : FA) : FE := fun e vh => bnd (fa e vh) fun ws vh1 => opt (sees vh1 ws) fun ds => opt (seqOf ds) fun xs => .ok (.ref vh1.length) (vh1 ++ [.lst xs])
section
variable {X : Cx} {c : Cn} {U : WX} {x : Str} {fa : FA} {e : Expr} {es : List Expr} {pos p : Pos}
theorem me_listM (hcK : X.K = c.K) (hg : Gl X x) (hm : X.mg x = none) (hv : bootBuiltins x = some (.type "list")) (ha : PA X (e :: es) (tMA c U fa))
    (hn : x ≠ "__name__" := by decide) (hdb : (x == ("__debug__" : Str)) = false := by decide)
    (he : starEach (e :: es) X.env = (false, eval e X.env) :: starEach es X.env := by rfl) (hpl : (backTo pos (starEach es X.env)).any (·.1) = false := by rfl) : PE X (.Call (.Name x p) (e :: es) [] pos) (tM c U (mListM fa)) :=
  pe_imp (pe_callTy call_list_of hg hm hv ha hn hdb he hpl) fun σ H Q ⟨e, ρ, vh, he, hh, h⟩ => (useA he hh h).mono fun vs H1 ⟨ws, vh1, ρ1, rs, A, _, _⟩ => by
    obtain ⟨ds, e1, o⟩ := opt_out A.out
    obtain ⟨xs, e2, o2⟩ := opt_out o
    have rr := sees_ok A.rh rs e1
    match ds, rr, e2 with
    | [d], rr, e2 =>
      obtain ⟨v, rfl, rd⟩ := rr.one
      obtain ⟨a, ys, rfl, hs, hl, ry⟩ := asSeq_ok rd e2
      refine ⟨a, ys, rfl, by rw [hcK]; exact hs, fun p hp => ?_⟩
      refine o2 _ _ (Grow.push hp) (Fm.new hp) (push_lst A.rh hp hl ry) _ ⟨by simp [A.rh.len], fun a ha => ?_⟩
      rw [List.getElem?_append_right (by rw [A.rh.len]; omega), A.rh.len] at ha
      simp at ha; rw [ha]
end
@[simp] theorem ev_listM {fa : FA} {e : Env} {vh : VH} : mListM fa e vh = bnd (fa e vh) fun ws vh1 => opt (sees vh1 ws) fun ds => opt (seqOf ds) fun xs => .ok (.ref vh1.length) (vh1 ++ [.lst xs]) := rfl

/-! ### defs with defaults -/
theorem relDs_ws {c : Cn} {H : Hp} {ρ : Rho} : ∀ {ds : List D} {vs : List V}, RelDs c H ρ ds vs → RelWs c H ρ (ds.map W.d) vs
  | [], [], _ => trivial
  | _ :: _, _ :: _, ⟨r, t⟩ => ⟨r, relDs_ws t⟩
/-- a def of the text with positional defaults dd and keyword-only ones kd -/
structure GDefX (K : PySem.W.Frag) (mg : Str → Option Value) (x : Str) (st : Stmt) (dd : List D) (kd : List (Str × D)) (f : Addr) (fd : FuncData) : Prop where
  ex : ∃ (dvs : List V) (kws : List (Str × V)), FunD K x x (defArgs st) (defBody st) (defScope st) dvs kws f fd ∧ kws.map (·.1) = kd.map (·.1) ∧ (∀ hid H ρ, RelDs ⟨K, mg, hid⟩ H ρ dd dvs) ∧ ∀ hid H ρ, RelDs ⟨K, mg, hid⟩ H ρ (kd.map (·.2)) (kws.map (·.2))
  m : mg x = some (.ref f)
  kp : PySem.W.keepIn K (.ref f) = true
section
variable {P : Program} {w : World} {K : PySem.W.Frag} {mg : Str → Option Value} {base : Heap} {x : Str} {st : Stmt} {dd : List D} {kd : List (Str × D)} {f : Addr} {fd : FuncData} {ps : List Str}
theorem FnG.ofX {N : List Str} {k : Nat} {g : FS} (F : GDefX K mg x st dd kd f fd) (S : FnScope N ps (defScope st))
    (body : ∀ (cdv : Value) (A : Around) (outer : List PySem.Env) (s : Shared) (H : Hp) (E : XK) (hid : List Addr), Room k (A.deeper (envOfC x (defScope st) s.heap.objs.size f cdv)) → NoGuard (A.deeper (envOfC x (defScope st) s.heap.objs.size f cdv)) →
      Takes (cxOf (L2.CX P w) P w K mg base N x (defScope st) f cdv A outer s H E) (fun cls d _ H => E cls d H) →
      PSs (cxOf (L2.CX P w) P w K mg base N x (defScope st) f cdv A outer s H E) (defBody st) (tMS ⟨K, mg, hid⟩ (fun cls d _ H => E cls d H) g)) :
    FnG P w K mg base (k + 1) f fd ps (mFn ps.length N.length g) := by
  obtain ⟨dvs, kws, G, _⟩ := F.ex
  obtain ⟨oc, od, dV, kV, doc, pm, an, cdv0, ct, osl, rfl, lk, hcd, _, _⟩ := G.ex
  refine ⟨mFn_ar, fun A outer s H args us vs Q E hr ng e0 hb rv hsp => ?_⟩
  have hl : vs.length = ps.length := spM_len mFn_ar hsp
  have inH : K.In s.heap := e0.mod.kin.keeps fun b o e => (e0.bs b o e).1
  have noLim : s.heap.NoLimit := e0.mod.nolimit.keeps fun b o e => (e0.bs b o e).1
  refine codeAny_call_function hr.depth (inH _ _ lk) rfl S.co S.gen rfl (PySem.W.codeRec_of inH hcd) (hb _ _ _ _ ?_)
  refine wpAny_newFunctionEnv_cells S.kind (fun y hy => (S.par y.1 (List.of_mem_zip (a := y.1) (b := y.2) hy).1).imp id fun q => ⟨q, PySem.W.cellsFrom_some _ _ _ (.inl q)⟩) fun env he s1 x => ?_
  cases he
  refine ⟨noLim.keeps x.toInCall.keep, codeAny_func ?_⟩
  obtain ⟨⟨K', mg', hid⟩, rfl, rfl, ws, ρ, vh, rs, hh, h⟩ := hsp
  have D := body cdv0 A outer s H E hid (hr.deeper _) (ng.deeper _) (takes_of rfl rfl rfl rfl)
  have I := inv_start (CX := L2.CX P w) (E := E) S hr.hd e0 hl rv x
  have rd : tMS ⟨K', mg', hid⟩ (fun cls d _ H => E cls d H) g { nx := fun _ H' => Q .non H', rt := Q } (L2.start N vs) H := by
    unfold mFn at h
    split at h
    · rename_i e
      refine ⟨_, ρ, vh, entry_rel (np := ps.length) rs, hh, ?_⟩
      have e2 : entry ps.length N.length ws = ws.map some ++ List.replicate (N.length - vs.length) none := by unfold entry; rw [← rs.length, e]
      rw [← e2]
      cases q : g (entry ps.length N.length ws) vh with
      | nx e' vh' => rw [q] at h; exact fun σ' H' ρ' g' f' x y => h H' ρ' g' f' y .non rfl
      | bk e' vh' => rw [q] at h; exact h.elim
      | ct e' vh' => rw [q] at h; exact h.elim
      | rt w vh' => rw [q] at h; exact fun v H' ρ' g' f' x y => h H' ρ' g' f' y v x
      | exn x e' vh' => rw [q] at h; exact fun cls d σ' H' ρ' g' f' x y z => h cls d H' ρ' g' f' x z
      | stuck => rw [q] at h; exact h.elim
    · exact h.elim
  refine wpAny_mono (D.run [] s1 _ H _ I rd) (fun fl s' hs => ?_) fun _ _ z => z
  cases fl with
  | ret u => obtain ⟨v, σ', H', J, r1, q⟩ := hs; exact ⟨v, H', J.os, J.bare, J.base, J.hok, r1, q⟩
  | next => obtain ⟨σ', H', J, q⟩ := hs; exact ⟨.non, H', J.os, J.bare, J.base, J.hok, rfl, q⟩
  | brk => obtain ⟨_, _, _, q⟩ := hs; exact q.elim
  | cont => obtain ⟨_, _, _, q⟩ := hs; exact q.elim
/-- n positional values, the keyword-only defaults fill up -/
theorem GDefX.b0 (F : GDefX K mg x st [] kd f fd) (n : Nat) (hk : kd ≠ []) (hn : n + kd.length = ps.length)
    (h : ∀ (D : Addr) (doc pm : Value) (an : Option Addr) (cdv ct : Value) (us ks : List Value), us.length = n → ks.length = kd.length →
      KwChain D ((kd.map (·.1)).zip ks) (bindArgs (PySem.W.fnOf x x (defArgs st) (defBody st) (defScope st) .none (.ref D) doc pm an cdv ct) ⟨us, []⟩) (ps.zip (us ++ ks))) :
    ∃ (ds : List Value) (dvs : List V), Vals dvs ds ∧ Binds K fd ps ds ∧ ∀ hid H ρ, RelWs ⟨K, mg, hid⟩ H ρ ((kd.map (·.2)).map W.d) dvs := by
  obtain ⟨dvs, kws, G, e, r0, r⟩ := F.ex
  have hl : kws.length = kd.length := by have := congrArg List.length e; simpa using this
  cases dvs with
  | cons v vs => exact (r0 [] (fun _ => none) []).elim
  | nil =>
    obtain ⟨ds, h1, h2⟩ := FunD.binds0 (ps := ps) G n (fun z => hk (by rw [z] at hl; exact List.length_eq_zero_iff.mp hl.symm)) (by rw [hl]; exact hn) fun D doc pm an cdv ct us ks l1 l2 => by
      rw [e]; exact h D doc pm an cdv ct us ks l1 (l2.trans hl)
    exact ⟨ds, _, h1, h2, fun hid H ρ => relDs_ws (r hid H ρ)⟩
/-- n positional values, keywords named ks, all keyword-only parameters among them: g puts them in order -/
theorem GDefX.k0 (F : GDefX K mg x st [] kd f fd) (n : Nat) (ks : List Str) (g : {α : Type} → List α → List α → List α) (hk : kd ≠ [])
    (hrel : ∀ {vs zs : List V} {us ws : List Value}, Vals vs us → Vals zs ws → Vals (g vs zs) (g us ws))
    (h : ∀ (D : Addr) (doc pm : Value) (an : Option Addr) (cdv ct : Value) (us ws : List Value), us.length = n → ws.length = ks.length →
      bindArgs (PySem.W.fnOf x x (defArgs st) (defBody st) (defScope st) .none (.ref D) doc pm an cdv ct) ⟨us, ks.zip ws⟩ = pure (ps.zip (g us ws))) :
    KBn K fd ps n ks (fun us ws => g us ws) (fun vs zs => g vs zs) := by
  obtain ⟨dvs, kws, G, e, r0, r⟩ := F.ex
  have hl : kws.length = kd.length := by have := congrArg List.length e; simpa using this
  cases dvs with
  | cons v vs => exact (r0 [] (fun _ => none) []).elim
  | nil =>
    obtain ⟨mv, hb⟩ := FunD.kbinds0 (ps := ps) G n ks [] (fun a _ b => g a b) (fun z => hk (by rw [z] at hl; exact List.length_eq_zero_iff.mp hl.symm)) (fun q hq => nomatch hq) (fun h1 _ h3 => hrel h1 h3) fun D doc pm an cdv ct us mv ws l1 l2 l3 => h D doc pm an cdv ct us ws l1 l3
    exact hb
end
/-- f(a, .., k = b, ..): g puts the values in the parameters' order -/
def lenOk (a b n m : Nat) (r : Res W) : Res W := if a = n ∧ b = m then r else .stuck
@[simp] theorem lenOk_ok {n m : Nat} {r : Res W} : lenOk n m n m r = r := if_pos ⟨rfl, rfl⟩
def mCallK (n m : Nat) (F : FN) (g : List W → List W → List W) (fa fk : FA) : FE := fun e vh => bnd (fa e vh) fun ws vh1 => bnd (fk e vh1) fun zs vh2 => lenOk ws.length zs.length n m (F (g ws zs) vh2)
def tMK (c : Cn) (U : WX) (f : FA) : TA := tMA c U f
section
variable {X : Cx} {U : WX} {k n : Nat} {f : Addr} {fd : FuncData} {ps ks : List Str} {F : FN} {c : Cn} {e : Expr} {es : List Expr} {kws : List Keyword} {pos p kpos : Pos} {x : Str} {fa fk : FA} {nm : Option Str} {fe : FE}
theorem mk_nil : PK X [] (tMA c U mNil) := ⟨fun pos pins s σ H Q I h => pk_nil.run pos pins s σ H Q I (by
  obtain ⟨e, ρ, vh, he, hh, h⟩ := h
  exact h H ρ (Grow.refl _ _) (Fm.refl _ _) hh [] trivial)⟩
theorem mk_cons (ha : PE X e (tM c U fe)) (hr : PK X kws (tMA c U fk)) : PK X (⟨nm, e, kpos⟩ :: kws) (tMA c U (mCons fe fk)) := ⟨fun pos pins s σ H Q I ⟨en, ρ, vh, he, hh, h⟩ => by
  refine (pk_cons (nm := nm) (kpos := kpos) ha hr).run pos pins s σ H Q I ?_
  exact (use he hh h).mono fun v H1 ⟨w, vh1, ρ1, r, A, g1, f1⟩ => (useA A.re A.rh A.out).mono fun vs H2 ⟨ws, vh2, ρ2, rs, A2, g2, f2⟩ => A2.out H2 ρ2 (Grow.refl _ _) (Fm.refl _ _) A2.rh (v :: vs) ⟨r.stay g2 f2, rs⟩⟩
theorem run_gk {pins : List (Addr × Obj)} {σ : L2.St} {H : Hp} {s : Shared} {Q : VK} {us uz : List Value} {vs zs : List V} {g : List Value → List Value → List Value} {gV : List V → List V → List V} (G : FnG X.prog X.w X.K X.mg X.base k f fd ps F) (hr : Room k X.A) (ng : NoGuard X.A) (hb : KBn X.K fd ps n ks g gV) (tk : Takes X U)
    (I : L2.Inv X pins σ H s) (r : Vals vs us) (rz : Vals zs uz) (l1 : us.length = n) (l2 : uz.length = ks.length) (h : spM X.K X.mg F (gV vs zs) H Q (WE U σ)) : wpAny (model X.prog X.w) X.A (call (.ref f) us (ks.zip uz)) (EP X pins σ Q) X.xe s := by
  refine wpAny_call (codeAny_mono (G.go X.A X.stack s H ⟨us, ks.zip uz⟩ (g us uz) (gV vs zs) Q (WE U σ) hr ng I.env0 (hb.to s us uz I.kIn l1 l2) (hb.rel r rz) h) fun r s' hq => ?_)
  cases r with
  | error e => exact passAt tk σ pins H s e s' I hq
  | ok fl => cases fl with
    | ret u => exact I.after hq
    | next => exact hq.elim
    | brk => exact hq.elim
    | cont => exact hq.elim
/-- f(e, .., k = v, ..) -/
theorem mg_callK {m : Nat} {g : List Value → List Value → List Value} {gV : List V → List V → List V} {gW : List W → List W → List W} (hc : c.K = X.K) (hcm : c.mg = X.mg) (G : FnG X.prog X.w X.K X.mg X.base k f fd ps F) (hr : Room k X.A) (ng : NoGuard X.A) (tk : Takes X U) (hg : Gl X x) (hm : X.mg x = some (.ref f)) (hk : PySem.W.keepIn X.K (.ref f) = true) (hb : KBn X.K fd ps n ks g gV)
    (hw : ∀ {H ρ ws vs zs us}, ws.length = n → zs.length = ks.length → RelWs c H ρ ws vs → RelWs c H ρ zs us → RelWs c H ρ (gW ws zs) (gV vs us)) (ha : PA X (e :: es) (tMA c U fa)) (hkw : PK X kws (tMA c U fk)) (hml : ks.length = m := by rfl)
    (hall : (backToKw pos (keywordEach kws X.env)).all (·.1.isSome) = true := by rfl) (hks : (backToKw pos (keywordEach kws X.env)).filterMap (·.1) = ks := by rfl)
    (hdb : (x == ("__debug__" : Str)) = false := by decide) (he : starEach (e :: es) X.env = (false, eval e X.env) :: starEach es X.env := by rfl)
    (hpl : ((backTo pos (starEach (e :: es) X.env)).any (·.1) || (backToKw pos (keywordEach kws X.env)).any (·.1.isNone)) = false := by rfl) :
    PE X (.Call (.Name x p) (e :: es) kws pos) (tM c U (mCallK n m F gW fa fk)) := by
  subst hml
  refine ⟨fun pins s σ H Q I ⟨en, ρ, vh, hE, hh, h⟩ => wpAny_Call_Name_kw (ld_glob I hg hm ?_ hdb)⟩
  refine PySem.W.callWith_KW (h₀ := X.base) I.ok.mod.kin hk hall (thn (ha.run pos pins s σ H _ I (useA hE hh h)) fun us s1 ⟨vs, H1, I1, r, ws, vh1, ρ1, rs, A, g1, f1⟩ => ?_) hpl he
  refine thn (hkw.run pos pins s1 σ H1 _ I1 (useA A.re A.rh A.out)) fun uz s2 ⟨zs, H2, I2, rz, wz, vh2, ρ2, rs2, B, g2, f2⟩ => ⟨I2.kIn, ?_⟩
  rw [hks]
  have o := B.out
  unfold lenOk at o
  split at o
  · rename_i hl
    have rs1 := rs.stay g2 f2
    have l1 : us.length = n := by rw [← r.length, ← rs.length]; exact hl.1
    have l2 : uz.length = ks.length := by rw [← rz.length, ← rs2.length]; exact hl.2
    exact run_gk G hr ng hb tk I2 r rz l1 l2 (spM_use hc hcm (hw hl.1 hl.2 rs1 rs2) B.rh o)
  · exact o.elim
end
@[simp] theorem ev_callK {n m : Nat} {F : FN} {g : List W → List W → List W} {fa fk : FA} {e : Env} {vh : VH} : mCallK n m F g fa fk e vh = bnd (fa e vh) fun ws vh1 => bnd (fk e vh1) fun zs vh2 => lenOk ws.length zs.length n m (F (g ws zs) vh2) := rfl

/-! ### facts of such defs, at the end -/
def KwOk (K : PySem.W.Frag) (mg : Str → Option Value) (Z : Addr) : List (Str × D) → Prop
  | [] => True
  | q :: r => (∃ u v, PySem.W.nsIn K Z q.1 = some (some u) ∧ RelV v u ∧ ∀ hid H ρ, RelD ⟨K, mg, hid⟩ H ρ q.2 v) ∧ KwOk K mg Z r
section
variable {K : PySem.W.Frag} {mg : Str → Option Value} {h : Heap} {x : Str} {Z : Addr} {kd : List (Str × D)}
theorem kw_flat {u : Value} {d : D} (a : PySem.W.nsIn K Z x = some (some u)) (e : valD u = some d) : ∃ u v, PySem.W.nsIn K Z x = some (some u) ∧ RelV v u ∧ ∀ hid H ρ, RelD ⟨K, mg, hid⟩ H ρ d v := by
  refine ⟨u, (absV u).getD .non, a, ?_, fun hid H ρ => ?_⟩
  · obtain ⟨v, r, e1, _⟩ := valD_ok (c := ⟨K, mg, []⟩) (H := fun _ => none) (ρ := []) e
    rw [e1]; exact r
  · obtain ⟨v, r, e1, q⟩ := valD_ok (c := ⟨K, mg, hid⟩) (H := H) (ρ := ρ) e
    rw [e1]; exact q
theorem kw_tup {a : Addr} {od : Option Addr} {its : Array Value} {n : Nat} {sl : Array (Option Value)} {ds : List D} (e1 : PySem.W.nsIn K Z x = some (some (.ref a))) (e2 : K.lookup a = some ⟨.type "tuple", od, .seq its n, sl⟩)
    (e : valsD its.toList = some ds) (z : decide (its.size ≤ sizeLine) = true) : ∃ u v, PySem.W.nsIn K Z x = some (some u) ∧ RelV v u ∧ ∀ hid H ρ, RelD ⟨K, mg, hid⟩ H ρ (.ctp ds) v := by
  refine ⟨.ref a, .ref a, e1, rfl, fun hid H ρ => ?_⟩
  obtain ⟨r1, r2⟩ := valsD_ok (c := ⟨K, mg, hid⟩) (H := H) (ρ := ρ) e
  refine ⟨a, absVs its.toList, rfl, ⟨_, its, n, e2, rfl, rfl, of_decide_eq_true z, r1⟩, ?_, r2⟩
  rw [r2.length, r1.length]
  simpa using of_decide_eq_true z
theorem kwOk_ex : ∀ {kd : List (Str × D)}, KwOk K mg Z kd → ∃ kws : List (Str × V), (∀ q ∈ kws, ∃ u, PySem.W.nsIn K Z q.1 = some (some u) ∧ RelV q.2 u) ∧ kws.map (·.1) = kd.map (·.1) ∧ ∀ hid H ρ, RelDs ⟨K, mg, hid⟩ H ρ (kd.map (·.2)) (kws.map (·.2))
  | [], _ => ⟨[], fun _ h => (nomatch h), rfl, fun _ _ _ => trivial⟩
  | q :: r, ⟨⟨u, v, h1, h2, h3⟩, t⟩ => by
    obtain ⟨kws, g1, g2, g3⟩ := kwOk_ex t
    refine ⟨(q.1, v) :: kws, fun p hp => ?_, by simp [g2], fun hid H ρ => ⟨h3 hid H ρ, g3 hid H ρ⟩⟩
    rcases List.mem_cons.mp hp with rfl | hp
    · exact ⟨u, h1, h2⟩
    · exact g1 p hp
theorem gdefx_of {st : Stmt} {f : Addr} {oc : Value} {od an : Option Addr} {osl : Array (Option Value)} {doc pm cdv ct : Value} (X : K.In h) (G : h.Ns mainGlobals mg) (a : PySem.W.nsIn K mainGlobals x = some (some (.ref f)))
    (l : K.lookup f = some ⟨oc, od, .func (PySem.W.fnOf x x (defArgs st) (defBody st) (defScope st) .none (.ref Z) doc pm an cdv ct), osl⟩) (c : PySem.W.codeIn K cdv x = true) (k : PySem.W.keepIn K (.ref f) = true) (kk : KwOk K mg Z kd) :
    GDefX K mg x st [] kd f (PySem.W.fnOf x x (defArgs st) (defBody st) (defScope st) .none (.ref Z) doc pm an cdv ct) := by
  obtain ⟨kws, g1, g2, g3⟩ := kwOk_ex kk
  exact ⟨⟨[], kws, ⟨⟨oc, od, .none, .ref Z, doc, pm, an, cdv, ct, osl, rfl, l, c, .inl ⟨rfl, rfl⟩, .inr ⟨Z, rfl, g1⟩⟩, k⟩, g2, fun _ _ _ => trivial, g3⟩, PySem.W.mg_of X G a, k⟩
end
end Mn

namespace Mn
open PySem PySem.Spec PyProof.Rows L2

/-! ### data that repr can show -/
def Fine (n h : Nat) (d : D) : Prop := ∃ p, toPy d = some p ∧ p.showable = true ∧ p.depth ≤ h ∧ p.weight ≤ n ∧ p.intsShort 13 = true
theorem Fine.mono {n m h k : Nat} {d : D} (f : Fine n h d) (a : n ≤ m) (b : h ≤ k) : Fine m k d := let ⟨p, h1, h2, h3, h4, h5⟩ := f; ⟨p, h1, h2, Nat.le_trans h3 b, Nat.le_trans h4 a, h5⟩
theorem fine_str (z : Str) : Fine z.length 0 (.str z) := ⟨_, rfl, rfl, Nat.le_refl _, Nat.le_refl _, rfl⟩
theorem fine_non : Fine 0 0 .non := ⟨_, rfl, rfl, Nat.le_refl _, Nat.le_refl _, rfl⟩
theorem fine_bl (b : Bool) : Fine 0 0 (.bl b) := ⟨_, rfl, rfl, Nat.le_refl _, Nat.le_refl _, rfl⟩
theorem fine_all {n h : Nat} : ∀ {ds : List D}, (∀ d ∈ ds, Fine n h d) → ∃ ps, toPys ds = some ps ∧ PyData.showableAll ps = true ∧ PyData.depthAll ps ≤ h ∧ PyData.weightAll ps ≤ ds.length * (n + 1) ∧ PyData.intsShortAll 13 ps = true
  | [], _ => ⟨[], rfl, rfl, Nat.zero_le _, Nat.zero_le _, rfl⟩
  | d :: ds, f => by
    obtain ⟨p, h1, h2, h3, h4, h5⟩ := f d List.mem_cons_self
    obtain ⟨ps, g1, g2, g3, g4, g5⟩ := fine_all fun x hx => f x (List.mem_cons_of_mem _ hx)
    refine ⟨p :: ps, by simp only [toPys, h1, g1], by simp [PyData.showableAll, h2, g2], by simp only [PyData.depthAll]; omega, ?_, by simp [PyData.intsShortAll, h5, g5]⟩
    simp only [PyData.weightAll, List.length_cons, Nat.succ_mul]
    omega
theorem fine_lst {n h : Nat} {ds : List D} (f : ∀ d ∈ ds, Fine n h d) : Fine (ds.length * (n + 1)) (h + 1) (.lst ds) := by
  obtain ⟨ps, g1, g2, g3, g4, g5⟩ := fine_all f
  exact ⟨.list ps, by simp only [toPy, g1]; rfl, by simpa [PyData.showable] using g2, by simp only [PyData.depth]; omega, by simpa [PyData.weight] using g4, by simpa [PyData.intsShort] using g5⟩
theorem fine_tup {n h : Nat} {ds : List D} (f : ∀ d ∈ ds, Fine n h d) : Fine (ds.length * (n + 1)) (h + 1) (.tup ds) := by
  obtain ⟨ps, g1, g2, g3, g4, g5⟩ := fine_all f
  exact ⟨.tuple ps, by simp only [toPy, g1]; rfl, by simpa [PyData.showable] using g2, by simp only [PyData.depth]; omega, by simpa [PyData.weight] using g4, by simpa [PyData.intsShort] using g5⟩
theorem fine_ctp {n h : Nat} {ds : List D} (f : ∀ d ∈ ds, Fine n h d) : Fine (ds.length * (n + 1)) (h + 1) (.ctp ds) := by
  obtain ⟨ps, g1, g2, g3, g4, g5⟩ := fine_all f
  exact ⟨.tuple ps, by simp only [toPy, g1]; rfl, by simpa [PyData.showable] using g2, by simp only [PyData.depth]; omega, by simpa [PyData.weight] using g4, by simpa [PyData.intsShort] using g5⟩
theorem rep_fine {n h : Nat} {ds : List D} (f : Fine n h (.lst ds)) (hn : n ≤ 1048576) (hh : h ≤ 60) : ∃ z, cRep [.lst ds] = some (.str z) := by
  obtain ⟨p, h1, h2, h3, h4, h5⟩ := f
  refine ⟨p.shown, ?_⟩
  simp only [cRep, h1]
  exact if_pos ⟨h2, Nat.le_trans h3 hh, Nat.le_trans h4 hn, h5⟩
end Mn

namespace Mn
open PySem PySem.Spec PyProof.Rows L2

/-! ### a static method, called by its class -/
structure SMet (K : PySem.W.Frag) (mg : Str → Option Value) (x m : Str) (g : Addr) : Prop where
  ex : ∃ (C p : Addr) (mc : Value) (rest : List Value), mg x = some (.ref C) ∧ PySem.W.readsIn K C mc = true ∧ PySem.W.specialIn K (.ref C) "__getattribute__" = some (some (.builtin "type.__getattribute__")) ∧
    PySem.W.findCls K (.ref C) mc m = some (.get (.builtin "staticmethod.__get__") (.ref p) .none (.ref C)) ∧ PySem.W.recIn K p "staticmethod" = some (.ref g :: rest)
section
variable {X : Cx} {U : WX} {k : Nat} {f : Addr} {fd : FuncData} {ps : List Str} {F : FN} {c : Cn} {e : Expr} {es : List Expr} {pos p apos : Pos} {x m : Str} {ds : List Value} {dvs : List V} {dws : List W} {fa : FA} {pl : Sem Bool}
theorem me_sm (hc : c.K = X.K) (hcm : c.mg = X.mg) (S : SMet X.K X.mg x m f) (G : FnG X.prog X.w X.K X.mg X.base k f fd ps F) (hr : Room k X.A) (ng : NoGuard X.A) (tk : Takes X U) (hg : Gl X x) (hk : PySem.W.keepIn X.K (.ref f) = true) (hb : Binds X.K fd ps ds) (hd : Vals dvs ds) (hdw : ∀ H ρ, RelWs c H ρ dws dvs)
    (ha : PA X (e :: es) (tMA c U fa)) (hdb : (x == ("__debug__" : Str)) = false := by decide) (he : starEach (e :: es) X.env = (false, eval e X.env) :: starEach es X.env := by rfl) (hpl : (backTo pos (starEach es X.env)).any (·.1) = false := by rfl)
    (ht : eval (.Call (.Attribute (.Name x p) m apos) (e :: es) [] pos) X.env = (eval (.Name x p) X.env >>= fun ov => standAt apos.atName >>= fun _ => holding [ov] (getMethod ov m pl) >>= fun q =>
      callWith pos q.1 q.2 (backTo pos (starEach (e :: es) X.env)) (backToKw pos (keywordEach [] X.env))) := by rfl) :
    PE X (.Call (.Attribute (.Name x p) m apos) (e :: es) [] pos) (tM c U (mCall F dws fa)) := by
  obtain ⟨C, q, mc, rest, hm, h1, h2, h3, h4⟩ := S.ex
  refine ⟨fun pins s σ H Q I ⟨en, ρ, vh, hE, hh, h⟩ => PySem.W.methodCall_KW (pl := pl) (ld_glob I hg hm ?_ hdb) ht⟩
  refine PySem.W.method_cls I.kIn h2 (PySem.W.cls_bind I.kIn h1 h3 (wpAny_call (PySem.W.sm_get (s := { s with toks := s.toks + 1 }) I.kIn h4 (PySem.W.handed_on rfl ?_))))
  have I0 : L2.Inv X pins σ H { s with toks := s.toks + 1 } := I.tok _
  refine PySem.W.callWith_K (h₀ := X.base) I.ok.mod.kin hk (thn (ha.run pos pins _ σ H _ I0 (useA hE hh h)) fun us s1 ⟨vs, H1, I1, r, ws, vh1, ρ1, rs, A, g1, f1⟩ => ⟨I1.kIn, ?_⟩) he hpl
  have q : spM X.K X.mg F (vs ++ dvs) H1 Q (WE U σ) := spM_use hc hcm (rs.append (hdw _ _)) A.rh A.out
  have r2 := r.append hd
  exact run_g (args := ⟨us, []⟩) G hr ng (hb s1 us I1.kIn (by rw [← r2.length]; exact spM_len G.ar q)) tk I1 r2 q
end
structure GSm (K : PySem.W.Frag) (mg : Str → Option Value) (x m qual : Str) (st : Stmt) (f : Addr) (fd : FuncData) : Prop where
  F : Fun K m qual st f fd
  S : SMet K mg x m f
theorem gsm_of {K : PySem.W.Frag} {mg : Str → Option Value} {h : Heap} {x m qual : Str} {st : Stmt} {f C p : Addr} {mc : Value} {rest : List Value} {oc : Value} {od an : Option Addr} {osl : Array (Option Value)} {kV doc pm cdv ct : Value} (X : K.In h) (G : h.Ns mainGlobals mg)
    (a : PySem.W.nsIn K mainGlobals x = some (some (.ref C))) (b1 : PySem.W.readsIn K C mc = true) (b2 : PySem.W.specialIn K (.ref C) "__getattribute__" = some (some (.builtin "type.__getattribute__")))
    (b3 : PySem.W.findCls K (.ref C) mc m = some (.get (.builtin "staticmethod.__get__") (.ref p) .none (.ref C))) (b4 : PySem.W.recIn K p "staticmethod" = some (.ref f :: rest))
    (l : K.lookup f = some ⟨oc, od, .func (PySem.W.fnOf m qual (defArgs st) (defBody st) (defScope st) .none kV doc pm an cdv ct), osl⟩) (c : PySem.W.codeIn K cdv qual = true) (k : PySem.W.keepIn K (.ref f) = true) :
    GSm K mg x m qual st f (PySem.W.fnOf m qual (defArgs st) (defBody st) (defScope st) .none kV doc pm an cdv ct) := ⟨fun_mk l c k, ⟨C, p, mc, rest, PySem.W.mg_of X G a, b1, b2, b3, b4⟩⟩
end Mn

namespace Mn
open PySem PySem.Spec PyProof.Rows L2

/-! ### own classes: fields, methods, makings -/
/-- an instance's class and the names of its attributes -/
def insW (vh : VH) : W → Option (Str × List Str)
  | .d (.ins n fs) => some (n, fs.map (·.1))
  | .ref k => match vh[k]? with
    | some (.ins n fs) => some (n, fs.map (·.1))
    | _ => none
  | _ => none
/-- an attribute -/
def fldW (vh : VH) (ns : List Str) (f : Str) : W → Option W
  | .d (.ins n fs) => if n ∈ ns then (fs.lookup f).map .d else none
  | .ref k => match vh[k]? with
    | some (.ins n fs) => if n ∈ ns then fs.lookup f else none
    | _ => none
  | _ => none
def mFld (ns : List Str) (f : Str) (fo : FE) : FE := fun e vh => bnd (fo e vh) fun w vh1 => opt (fldW vh1 ns f w) fun z => .ok z vh1
def putW (f : Str) (w : W) : List (Str × W) → List (Str × W)
  | [] => [(f, w)]
  | (g, x) :: r => if g = f then (g, w) :: r else (g, x) :: putW f w r
def mSetFld (ns : List Str) (f : Str) (fo fv : FE) : FS := fun e vh => lft (fv e vh) e fun wv vh1 => lft (fo e vh1) e fun wo vh2 => match wo with
  | .d _ => .stuck
  | .ref k => match vh2[k]? with
    | some (.ins n fs) => if n ∈ ns ∧ fs.length < 1000 then .nx e (vh2.set k (.ins n (putW f wv fs))) else .stuck
    | _ => .stuck

section
variable {c : Cn} {H : Hp} {ρ : Rho} {vh : VH}
theorem lookup_relF : ∀ {fs : List (Str × D)} {xs : List V} {f : Str} {d : D}, RelDf c H ρ fs xs → fs.lookup f = some d → ∃ v, ((fs.map (·.1)).zip xs).lookup f = some v ∧ RelD c H ρ d v
  | [], [], _, _, _, e => by cases e
  | (g, y) :: fs, v :: xs, f, d, ⟨r, t⟩, e => by
    simp only [List.map_cons, List.zip_cons_cons, List.lookup_cons] at e ⊢
    cases q : f == g with
    | true => rw [q] at e; cases e; exact ⟨v, rfl, r⟩
    | false => rw [q] at e; exact lookup_relF t e
theorem lookup_relW : ∀ {fs : List (Str × W)} {xs : List V} {f : Str} {d : W}, RelWf c H ρ fs xs → fs.lookup f = some d → ∃ v, ((fs.map (·.1)).zip xs).lookup f = some v ∧ RelW c H ρ d v
  | [], [], _, _, _, e => by cases e
  | (g, y) :: fs, v :: xs, f, d, ⟨r, t⟩, e => by
    simp only [List.map_cons, List.zip_cons_cons, List.lookup_cons] at e ⊢
    cases q : f == g with
    | true => rw [q] at e; cases e; exact ⟨v, rfl, r⟩
    | false => rw [q] at e; exact lookup_relW t e
theorem lookup_no {β : Type} : ∀ {ks : List Str} {xs : List β} {f : Str}, f ∉ ks → (ks.zip xs).lookup f = none
  | [], _, _, _ => rfl
  | _ :: _, [], _, _ => rfl
  | k :: ks, x :: xs, f, h => by
    rw [List.zip_cons_cons, List.lookup_cons]
    have h1 : (f == k) = false := beq_false_of_ne fun z => h (by rw [z]; exact List.mem_cons_self)
    rw [h1]
    exact lookup_no fun z => h (List.mem_cons_of_mem _ z)
/-- an instance stands at hand -/
theorem ins_at {w : W} {v : V} {p : Str × List Str} (rh : RelH c H ρ vh) (r : RelW c H ρ w v) (e : insW vh w = some p) : ∃ a C dx xs, v = .ref a ∧ c.mg p.1 = some (.ref C) ∧ H a = some (.ins C dx (p.2.zip xs)) := by
  cases w with
  | d x =>
    cases x with
    | ins n fs =>
      cases e
      obtain ⟨a, C, dx, xs, e1, _, e3, e4, _⟩ := r
      exact ⟨a, C, dx, xs, e1, e3, e4⟩
    | _ => cases e
  | ref k =>
    unfold insW at e
    cases q : vh[k]? with
    | none => simp only [q] at e; cases e
    | some vo =>
      simp only [q] at e
      cases vo with
      | ins n fs =>
        cases e
        obtain ⟨o, ho, a, C, dx, xs, rfl, e3, e4, _⟩ := rh.at' k _ q
        exact ⟨a, C, dx, xs, r.2 a ho, e3, e4⟩
      | _ => cases e
theorem fld_at {w z : W} {v : V} {ns : List Str} {f : Str} (rh : RelH c H ρ vh) (r : RelW c H ρ w v) (e : fldW vh ns f w = some z) : ∃ n a C dx fs u, n ∈ ns ∧ v = .ref a ∧ c.mg n = some (.ref C) ∧ H a = some (.ins C dx fs) ∧ fs.lookup f = some u ∧ RelW c H ρ z u := by
  cases w with
  | d x =>
    cases x with
    | ins n fs =>
      simp only [fldW] at e
      split at e
      · rename_i hn
        obtain ⟨d, hd, rfl⟩ := Option.map_eq_some_iff.mp e
        obtain ⟨a, C, dx, xs, e1, _, e3, e4, e5⟩ := r
        obtain ⟨u, hu, ru⟩ := lookup_relF e5 hd
        exact ⟨n, a, C, dx, _, u, hn, e1, e3, e4, hu, ru⟩
      · cases e
    | _ => cases e
  | ref k =>
    unfold fldW at e
    cases q : vh[k]? with
    | none => simp only [q] at e; cases e
    | some vo =>
      simp only [q] at e
      cases vo with
      | ins n fs =>
        dsimp only at e
        split at e
        · rename_i hn
          obtain ⟨o, ho, a, C, dx, xs, rfl, e3, e4, e5⟩ := rh.at' k _ q
          obtain ⟨u, hu, ru⟩ := lookup_relW e5 e
          exact ⟨n, a, C, dx, _, u, hn, r.2 a ho, e3, e4, hu, ru⟩
        · cases e
      | _ => cases e
theorem putW_rel {f : Str} {w : W} {v : V} (r : RelW c H ρ w v) : ∀ {fs : List (Str × W)} {xs : List V}, RelWf c H ρ fs xs → ∃ ys, putF f v ((fs.map (·.1)).zip xs) = ((putW f w fs).map (·.1)).zip ys ∧ RelWf c H ρ (putW f w fs) ys
  | [], [], _ => ⟨[v], rfl, r, trivial⟩
  | (g, y) :: fs, x :: xs, ⟨h, t⟩ => by
    simp only [List.map_cons, List.zip_cons_cons, putF, putW]
    by_cases q : g = f
    · rw [if_pos q, if_pos q]
      exact ⟨v :: xs, rfl, r, t⟩
    · rw [if_neg q, if_neg q]
      obtain ⟨ys, e1, e2⟩ := putW_rel r t
      exact ⟨x :: ys, by rw [e1]; rfl, h, e2⟩
end

/-- what of the text a class must have -/
structure KFld (K : PySem.W.Frag) (mg : Str → Option Value) (n f : Str) : Prop where
  ex : ∃ C, mg n = some (.ref C) ∧ Cls K C ∧ NoAttr K C f
def KFlds (K : PySem.W.Frag) (mg : Str → Option Value) (ns : List Str) (f : Str) : Prop := ∀ n ∈ ns, KFld K mg n f
theorem KFlds.nil {K : PySem.W.Frag} {mg : Str → Option Value} {f : Str} : KFlds K mg [] f := fun _ h => nomatch h
theorem KFlds.cons {K : PySem.W.Frag} {mg : Str → Option Value} {n f : Str} {ns : List Str} (h : KFld K mg n f) (t : KFlds K mg ns f) : KFlds K mg (n :: ns) f := fun x hx => by
  rcases List.mem_cons.mp hx with z | z
  · rw [z]; exact h
  · exact t x z

section
variable {X : Cx} {U : WX} {c : Cn} {o v : Expr} {pos pos' apos cpos : Pos} {fo fv : FE} {ns : List Str} {f : Str}
theorem me_fld (hc : c.K = X.K) (hm : c.mg = X.mg) (kf : KFlds X.K X.mg ns f) (ho : PE X o (tM c U fo)) (hb : attributeBase o f X.env (eval o X.env) = eval o X.env := by rfl) : PE X (.Attribute o f pos) (tM c U (mFld ns f fo)) :=
  pe_imp (pe_fld ho hb) fun σ H Q ⟨e, ρ, vh, he, hh, h⟩ => (use he hh h).mono fun v1 H1 ⟨w, vh1, ρ1, r, A, _, _⟩ => by
    obtain ⟨z, hz, out⟩ := opt_out A.out
    obtain ⟨n, a, C, dx, fs, u, hn, e1, e2, e3, e4, ru⟩ := fld_at A.rh r hz
    obtain ⟨C', m1, m2, m3⟩ := (kf n hn).ex
    rw [hm, m1] at e2
    cases e2
    exact ⟨a, C, dx, fs, u, e1, e3, m2, m3, e4, out.here A.rh u ru⟩
theorem ms_fld (hc : c.K = X.K) (hm : c.mg = X.mg) (kf : KFlds X.K X.mg ns f) (ho : PE X o (tM c U fo)) (hv : PE X v (tM c U fv)) (hs : swapsWith v (some (.Attribute o f pos')) pos.line X.env = pure false := by rfl) : PS X (.Assign [.Attribute o f pos'] v pos) (tMS c U (mSetFld ns f fo fv)) :=
  ps_imp (ps_fld ho hv hs) fun D σ H ⟨e, ρ, vh, he, hh, h⟩ => (useS he hh h).mono fun v1 H1 ⟨w1, vh1, ρ1, r1, A, g1, f1⟩ => (useS A.re A.rh A.out).mono fun v2 H2 ⟨w2, vh2, ρ2, r2, B, g2, f2⟩ => by
    have out := B.out
    cases w2 with
    | d _ => exact out.elim
    | ref k =>
      dsimp only at out
      cases q : vh2[k]? with
      | none => rw [q] at out; exact out.elim
      | some vo =>
        rw [q] at out
        cases vo with
        | ins n fs =>
          dsimp only at out
          split at out
          · rename_i hn
            obtain ⟨oa, ho, a, C, dx, xs, rfl, e3, e4, e5⟩ := B.rh.at' k _ q
            obtain ⟨C', m1, m2, m3⟩ := (kf n hn.1).ex
            have e3' := e3
            rw [hm, m1] at e3'
            cases e3'
            obtain ⟨ys, y1, y2⟩ := putW_rel (r1.stay g2 f2) e5
            have hl : xs.length = fs.length := by
              have : ∀ {fs : List (Str × W)} {xs : List V}, RelWf c H2 ρ2 fs xs → xs.length = fs.length := by
                intro fs
                induction fs with
                | nil => intro xs h; cases xs with
                  | nil => rfl
                  | cons _ _ => exact h.elim
                | cons p fs ih => intro xs h; cases xs with
                  | nil => exact h.elim
                  | cons _ _ => exact congrArg (· + 1) (ih h.2)
              exact this e5
            refine ⟨a, C, dx, _, r2.2 a ho, e4, m2, m3, by rw [List.length_zip, List.length_map, hl, Nat.min_self]; exact hn.2, ?_⟩
            have fm := Fm.put (H := H2) (o := .ins C dx (putF f v1 ((fs.map (·.1)).zip xs))) ho
            refine out σ _ _ (Grow.refl _ _) fm (B.re.stay (Grow.refl _ _) fm) (B.rh.put ho ⟨a, C, dx, ys, rfl, e3, ?_, y2.stay (Grow.refl _ _) fm⟩)
            rw [upd_same, y1]
          · exact out.elim
        | _ => exact out.elim
end

end Mn

namespace Mn
open PySem PySem.Spec PyProof.Rows L2

/-! ### which value goes where in a call -/
inductive Src where
  | p (i : Nat) | k (i : Nat) | d (i : Nat)
def Src.get {α : Type} (us ws ds : List α) : Src → Option α
  | .p i => us[i]?
  | .k i => ws[i]?
  | .d i => ds[i]?
def pick {α : Type} (us ws ds : List α) : List Src → List α
  | [] => []
  | s :: r => match s.get us ws ds with
    | some x => x :: pick us ws ds r
    | none => pick us ws ds r
theorem Vals.o {xs : List V} {us : List Value} (r : Vals xs us) (i : Nat) : (∃ x u, xs[i]? = some x ∧ us[i]? = some u ∧ RelV x u) ∨ (xs[i]? = none ∧ us[i]? = none) := by
  cases q : xs[i]? with
  | none => exact .inr ⟨rfl, Vals.none_of r q⟩
  | some x => obtain ⟨u, e, ru⟩ := Vals.get r q; exact .inl ⟨x, u, rfl, e, ru⟩
theorem pick_vals {vs zs dv : List V} {us ws ds : List Value} (r1 : Vals vs us) (r2 : Vals zs ws) (r3 : Vals dv ds) : ∀ l : List Src, Vals (pick vs zs dv l) (pick us ws ds l)
  | [] => .nil
  | s :: l => by
    have ih := pick_vals r1 r2 r3 l
    have o : (∃ x u, s.get vs zs dv = some x ∧ s.get us ws ds = some u ∧ RelV x u) ∨ (s.get vs zs dv = none ∧ s.get us ws ds = none) := by
      cases s with
      | p i => exact Vals.o r1 i
      | k i => exact Vals.o r2 i
      | d i => exact Vals.o r3 i
    unfold pick
    rcases o with ⟨x, u, e1, e2, r⟩ | ⟨e1, e2⟩
    · rw [e1, e2]; exact .cons r ih
    · rw [e1, e2]; exact ih
section
variable {c : Cn} {H : Hp} {ρ : Rho}
theorem RelWs.o : ∀ {xs : List W} {us : List V} (r : RelWs c H ρ xs us) (i : Nat), (∃ x u, xs[i]? = some x ∧ us[i]? = some u ∧ RelW c H ρ x u) ∨ (xs[i]? = none ∧ us[i]? = none)
  | [], [], _, i => .inr ⟨by simp, by simp⟩
  | x :: xs, u :: us, ⟨h, t⟩, 0 => .inl ⟨x, u, rfl, rfl, h⟩
  | x :: xs, u :: us, ⟨h, t⟩, i + 1 => by simpa using RelWs.o t i
theorem pick_rel {ws zs dw : List W} {vs us dv : List V} (r1 : RelWs c H ρ ws vs) (r2 : RelWs c H ρ zs us) (r3 : RelWs c H ρ dw dv) : ∀ l : List Src, RelWs c H ρ (pick ws zs dw l) (pick vs us dv l)
  | [] => trivial
  | s :: l => by
    have ih := pick_rel r1 r2 r3 l
    have o : (∃ x u, s.get ws zs dw = some x ∧ s.get vs us dv = some u ∧ RelW c H ρ x u) ∨ (s.get ws zs dw = none ∧ s.get vs us dv = none) := by
      cases s with
      | p i => exact RelWs.o r1 i
      | k i => exact RelWs.o r2 i
      | d i => exact RelWs.o r3 i
    unfold pick
    rcases o with ⟨x, u, e1, e2, r⟩ | ⟨e1, e2⟩
    · rw [e1, e2]; exact ⟨r, ih⟩
    · rw [e1, e2]; exact ih
end

/-! ### a def of the text, with its defaults -/
/-- positional defaults -/
def PosOk (K : PySem.W.Frag) (mg : Str → Option Value) (dV : Value) (dd : List D) : Prop := match dd with
  | [] => dV = .none
  | _ => ∃ (T : Addr) (o : Obj) (its : List Value) (n : Nat) (dvs : List V), dV = .ref T ∧ K.lookup T = some o ∧ o.data = .seq its.toArray n ∧ Vals dvs its ∧ ∀ hid H ρ, RelDs ⟨K, mg, hid⟩ H ρ dd dvs
def KwdOk (K : PySem.W.Frag) (mg : Str → Option Value) (kV : Value) (kd : List (Str × D)) : Prop := match kd with
  | [] => True
  | _ => ∃ Z, kV = .ref Z ∧ KwOk K mg Z kd
structure GDf (K : PySem.W.Frag) (mg : Str → Option Value) (x qual : Str) (st : Stmt) (dd : List D) (kd : List (Str × D)) (f : Addr) (fd : FuncData) : Prop where
  ex : ∃ (oc : Value) (od : Option Addr) (dV kV doc pm : Value) (an : Option Addr) (cdv ct : Value) (osl : Array (Option Value)), fd = PySem.W.fnOf x qual (defArgs st) (defBody st) (defScope st) dV kV doc pm an cdv ct ∧
    K.lookup f = some ⟨oc, od, .func fd, osl⟩ ∧ PySem.W.codeIn K cdv qual = true ∧ PosOk K mg dV dd ∧ KwdOk K mg kV kd
  kp : PySem.W.keepIn K (.ref f) = true
section
variable {P : Program} {w : World} {K : PySem.W.Frag} {mg : Str → Option Value} {base : Heap} {x qual : Str} {st : Stmt} {dd : List D} {kd : List (Str × D)} {f : Addr} {fd : FuncData} {ps : List Str}
theorem FnG.df {N : List Str} {k : Nat} {g : FS} (F : GDf K mg x qual st dd kd f fd) (S : FnScope N ps (defScope st))
    (body : ∀ (cdv : Value) (A : Around) (outer : List PySem.Env) (s : Shared) (H : Hp) (E : XK) (hid : List Addr), Room k (A.deeper (envOfC qual (defScope st) s.heap.objs.size f cdv)) → NoGuard (A.deeper (envOfC qual (defScope st) s.heap.objs.size f cdv)) →
      Takes (cxOf (L2.CX P w) P w K mg base N qual (defScope st) f cdv A outer s H E) (fun cls d _ H => E cls d H) →
      PSs (cxOf (L2.CX P w) P w K mg base N qual (defScope st) f cdv A outer s H E) (defBody st) (tMS ⟨K, mg, hid⟩ (fun cls d _ H => E cls d H) g)) :
    FnG P w K mg base (k + 1) f fd ps (mFn ps.length N.length g) := by
  obtain ⟨oc, od, dV, kV, doc, pm, an, cdv0, ct, osl, rfl, lk, hcd, _, _⟩ := F.ex
  refine ⟨mFn_ar, fun A outer s H args us vs Q E hr ng e0 hb rv hsp => ?_⟩
  have hl : vs.length = ps.length := spM_len mFn_ar hsp
  have inH : K.In s.heap := e0.mod.kin.keeps fun b o e => (e0.bs b o e).1
  have noLim : s.heap.NoLimit := e0.mod.nolimit.keeps fun b o e => (e0.bs b o e).1
  refine codeAny_call_function hr.depth (inH _ _ lk) rfl S.co S.gen rfl (PySem.W.codeRec_of inH hcd) (hb _ _ _ _ ?_)
  refine wpAny_newFunctionEnv_cells S.kind (fun y hy => (S.par y.1 (List.of_mem_zip (a := y.1) (b := y.2) hy).1).imp id fun q => ⟨q, PySem.W.cellsFrom_some _ _ _ (.inl q)⟩) fun env he s1 x => ?_
  cases he
  refine ⟨noLim.keeps x.toInCall.keep, codeAny_func ?_⟩
  obtain ⟨⟨K', mg', hid⟩, rfl, rfl, ws, ρ, vh, rs, hh, h⟩ := hsp
  have D := body cdv0 A outer s H E hid (hr.deeper _) (ng.deeper _) (takes_of rfl rfl rfl rfl)
  have I := inv_start (CX := L2.CX P w) (E := E) S hr.hd e0 hl rv x
  have rd : tMS ⟨K', mg', hid⟩ (fun cls d _ H => E cls d H) g { nx := fun _ H' => Q .non H', rt := Q } (L2.start N vs) H := by
    unfold mFn at h
    split at h
    · rename_i e
      refine ⟨_, ρ, vh, entry_rel (np := ps.length) rs, hh, ?_⟩
      have e2 : entry ps.length N.length ws = ws.map some ++ List.replicate (N.length - vs.length) none := by unfold entry; rw [← rs.length, e]
      rw [← e2]
      cases q : g (entry ps.length N.length ws) vh with
      | nx e' vh' => rw [q] at h; exact fun σ' H' ρ' g' f' x y => h H' ρ' g' f' y .non rfl
      | bk e' vh' => rw [q] at h; exact h.elim
      | ct e' vh' => rw [q] at h; exact h.elim
      | rt w vh' => rw [q] at h; exact fun v H' ρ' g' f' x y => h H' ρ' g' f' y v x
      | exn x e' vh' => rw [q] at h; exact fun cls d σ' H' ρ' g' f' x y z => h cls d H' ρ' g' f' x z
      | stuck => rw [q] at h; exact h.elim
    · exact h.elim
  refine wpAny_mono (D.run [] s1 _ H _ I rd) (fun fl s' hs => ?_) fun _ _ z => z
  cases fl with
  | ret u => obtain ⟨v, σ', H', J, r1, q⟩ := hs; exact ⟨v, H', J.os, J.bare, J.base, J.hok, r1, q⟩
  | next => obtain ⟨σ', H', J, q⟩ := hs; exact ⟨.non, H', J.os, J.bare, J.base, J.hok, rfl, q⟩
  | brk => obtain ⟨_, _, _, q⟩ := hs; exact q.elim
  | cont => obtain ⟨_, _, _, q⟩ := hs; exact q.elim

/-- n values and keywords ks bind: srcs tells from where each parameter comes, dws the defaults that are wanted -/
structure BnB (K : PySem.W.Frag) (mg : Str → Option Value) (fd : FuncData) (ps : List Str) (n : Nat) (ks : List Str) (srcs : List Src) (dws : List W) : Prop where
  ex : ∃ (dvs : List V) (dus : List Value), Vals dvs dus ∧ (∀ hid H ρ, RelWs ⟨K, mg, hid⟩ H ρ dws dvs) ∧ ∀ (s : Shared) (us ws : List Value), K.In s.heap → us.length = n → ws.length = ks.length → BindsTo s fd ⟨us, ks.zip ws⟩ (ps.zip (pick us ws dus srcs))
/-- no defaults are wanted -/
theorem GDf.b0 (F : GDf K mg x qual st dd kd f fd) (n : Nat) (ks : List Str) (srcs : List Src) (hd : dd = [])
    (h : ∀ (kV doc pm : Value) (an : Option Addr) (cdv ct : Value) (us ws : List Value), us.length = n → ws.length = ks.length →
      bindArgs (PySem.W.fnOf x qual (defArgs st) (defBody st) (defScope st) .none kV doc pm an cdv ct) ⟨us, ks.zip ws⟩ = pure (ps.zip (pick us ws [] srcs))) : BnB K mg fd ps n ks srcs [] := by
  obtain ⟨oc, od, dV, kV, doc, pm, an, cdv0, ct, osl, rfl, lk, hcd, p1, _⟩ := F.ex
  subst hd
  cases p1
  exact ⟨[], [], .nil, fun _ _ _ => trivial, fun s us ws X l1 l2 => .of_eq (h _ _ _ _ _ _ us ws l1 l2)⟩
theorem kw_some {Z : Addr} : ∀ {kd ms : List (Str × D)}, KwOk K mg Z kd → (∀ q ∈ ms, q ∈ kd) → KwOk K mg Z ms
  | kd, [], _, _ => trivial
  | kd, q :: ms, h, hm => by
    refine ⟨?_, kw_some h fun p hp => hm p (List.mem_cons_of_mem _ hp)⟩
    have : ∀ {kd : List (Str × D)}, KwOk K mg Z kd → q ∈ kd → ∃ u v, PySem.W.nsIn K Z q.1 = some (some u) ∧ RelV v u ∧ ∀ hid H ρ, RelD ⟨K, mg, hid⟩ H ρ q.2 v := by
      intro kd
      induction kd with
      | nil => intro _ z; cases z
      | cons p kd ih =>
        intro hk hq
        rcases List.mem_cons.mp hq with rfl | hq
        · exact hk.1
        · exact ih hk.2 hq
    exact this h (hm q List.mem_cons_self)
/-- keyword-only defaults ms fill up -/
theorem GDf.bk (F : GDf K mg x qual st dd kd f fd) (n : Nat) (ks : List Str) (ms : List (Str × D)) (srcs : List Src) (hd : dd = []) (hk : kd ≠ []) (hms : ∀ q ∈ ms, q ∈ kd)
    (h : ∀ (Z : Addr) (doc pm : Value) (an : Option Addr) (cdv ct : Value) (us ws mv : List Value), us.length = n → ws.length = ks.length → mv.length = ms.length →
      KwChain Z ((ms.map (·.1)).zip mv) (bindArgs (PySem.W.fnOf x qual (defArgs st) (defBody st) (defScope st) .none (.ref Z) doc pm an cdv ct) ⟨us, ks.zip ws⟩) (ps.zip (pick us ws mv srcs))) : BnB K mg fd ps n ks srcs (ms.map fun q => .d q.2) := by
  obtain ⟨oc, od, dV, kV, doc, pm, an, cdv0, ct, osl, rfl, lk, hcd, p1, p2⟩ := F.ex
  subst hd
  cases p1
  have p3 : ∃ Z, kV = .ref Z ∧ KwOk K mg Z kd := by
    cases kd with
    | nil => exact absurd rfl hk
    | cons _ _ => exact p2
  clear p2
  obtain ⟨Z, rfl, p2⟩ := p3
  obtain ⟨kws, g1, g2, g3⟩ := kwOk_ex (kw_some p2 hms)
  obtain ⟨mv, l, rk, hks⟩ := kwd_vals g1
  refine ⟨_, mv, rk, fun hid H ρ => ?_, fun s us ws X l1 l2 => BindsTo.of_looks fun M => KwChain.looks X (by rw [← g2]; exact hks) (h Z _ _ _ _ _ us ws mv l1 l2 (by rw [l]; simpa using congrArg List.length g2))⟩
  have := relDs_ws (g3 hid H ρ)
  rwa [List.map_map] at this
/-- positional defaults fill up (no keyword-only ones lack) -/
theorem GDf.bp (F : GDf K mg x qual st dd kd f fd) (n : Nat) (ks : List Str) (srcs : List Src) (hd : dd ≠ [])
    (h : ∀ (T : Addr) (kV doc pm : Value) (an : Option Addr) (cdv ct : Value) (us ws its : List Value), us.length = n → ws.length = ks.length → its.length = dd.length →
      ∃ k, bindArgs (PySem.W.fnOf x qual (defArgs st) (defBody st) (defScope st) (.ref T) kV doc pm an cdv ct) ⟨us, ks.zip ws⟩ = seqItems? (.ref T) >>= k ∧ k (some its.toArray) = pure (ps.zip (pick us ws its srcs))) : BnB K mg fd ps n ks srcs (dd.map .d) := by
  obtain ⟨oc, od, dV, kV, doc, pm, an, cdv0, ct, osl, rfl, lk, hcd, p1, p2⟩ := F.ex
  obtain ⟨T, o, its, m, dvs, rfl, h1, h2, h3, h4⟩ : ∃ (T : Addr) (o : Obj) (its : List Value) (n : Nat) (dvs : List V), dV = .ref T ∧ K.lookup T = some o ∧ o.data = .seq its.toArray n ∧ Vals dvs its ∧ ∀ hid H ρ, RelDs ⟨K, mg, hid⟩ H ρ dd dvs := by
    cases dd with
    | nil => exact absurd rfl hd
    | cons _ _ => exact p1
  refine ⟨dvs, its, h3, fun hid H ρ => relDs_ws (h4 hid H ρ), fun s us ws X l1 l2 => BindsTo.of_looks fun M => ?_⟩
  obtain ⟨k, e1, e2⟩ := h T kV doc pm an cdv0 ct us ws its l1 l2 (by rw [← h3.length, (h4 [] (fun _ => none) []).length])
  rw [e1]
  exact looks_items X h1 h2 (PySem.W.Looks.of_pure e2)
end

/-! ### called with any values and the keywords ks -/
abbrev FC := List W → List W → VH → Res W
def spC (K : PySem.W.Frag) (mg : Str → Option Value) (F : FC) (vs zs : List V) (H : Hp) (Q : VK) (E : XK) : Prop := ∃ c : Cn, c.K = K ∧ c.mg = mg ∧ ∃ ws wz ρ vh, RelWs c H ρ ws vs ∧ RelWs c H ρ wz zs ∧ RelH c H ρ vh ∧ Out c [] H ρ (fun cls d _ H' => E cls d H') (F ws wz vh) (KW c Q)
structure FnC (P : Program) (w : World) (K : PySem.W.Frag) (mg : Str → Option Value) (base : Heap) (k : Nat) (f : Addr) (ks : List Str) (F : FC) : Prop where
  go : ∀ (A : Around) (outer : List PySem.Env) (s : Shared) (H : Hp) (us uz : List Value) (vs zs : List V) (Q : VK) (E : XK), Room k A → NoGuard A → Env0 P w K mg base A outer s H → Vals vs us → Vals zs uz → spC K mg F vs zs H Q E →
    codeAny (model P w) A (.call (.ref f) ⟨us, ks.zip uz⟩) (CR (L2.CX P w) outer P w H s Q E) s
/-- by its parameters -/
def byPar (n m : Nat) (srcs : List Src) (dws : List W) (F : FN) : FC := fun ws zs vh => lenOk ws.length zs.length n m (F (pick ws zs dws srcs) vh)
section
variable {P : Program} {w : World} {K : PySem.W.Frag} {mg : Str → Option Value} {base : Heap} {k j : Nat} {f : Addr} {fd : FuncData} {ps ks : List Str} {F : FN} {n : Nat} {srcs : List Src} {dws : List W}
theorem FnC.mono {F : FC} (G : FnC P w K mg base j f ks F) (h : j ≤ k) : FnC P w K mg base k f ks F := ⟨fun A outer s H us uz vs zs Q E hr => G.go A outer s H us uz vs zs Q E (hr.mono h)⟩
theorem FnC.of (G : FnG P w K mg base k f fd ps F) (b : BnB K mg fd ps n ks srcs dws) : FnC P w K mg base k f ks (byPar n ks.length srcs dws F) := by
  refine ⟨fun A outer s H us uz vs zs Q E hr ng e0 r rz h => ?_⟩
  obtain ⟨dvs, dus, d1, d2, d3⟩ := b.ex
  obtain ⟨c, rfl, rfl, ws, wz, ρ, vh, rs, rsz, rh, o⟩ := h
  unfold byPar lenOk at o
  split at o
  · rename_i hl
    have X : c.K.In s.heap := e0.mod.kin.keeps fun b o e => (e0.bs b o e).1
    exact G.go A outer s H ⟨us, ks.zip uz⟩ _ _ Q E hr ng e0 (d3 s us uz X (by rw [← r.length, ← rs.length]; exact hl.1) (by rw [← rz.length, ← rsz.length]; exact hl.2)) (pick_vals r rz d1 srcs) ⟨c, rfl, rfl, _, ρ, vh, pick_rel rs rsz (d2 c.hid H ρ) srcs, rh, o⟩
  · exact o.elim
end
section
variable {X : Cx} {U : WX} {k : Nat} {f : Addr} {ks : List Str} {F : FC} {c : Cn} {e : Expr} {es : List Expr} {kws : List Keyword} {pos p : Pos} {x : Str} {fa fk : FA}
theorem run_c {pins : List (Addr × Obj)} {σ : L2.St} {H : Hp} {ρ : Rho} {vh : VH} {s : Shared} {Q : VK} {us uz : List Value} {vs zs : List V} {ws wz : List W} (G : FnC X.prog X.w X.K X.mg X.base k f ks F) (hr : Room k X.A) (ng : NoGuard X.A) (tk : Takes X U) (hc : c.K = X.K) (hcm : c.mg = X.mg)
    (I : L2.Inv X pins σ H s) (r : Vals vs us) (rz : Vals zs uz) (rs : RelWs c H ρ ws vs) (rsz : RelWs c H ρ wz zs) (rh : RelH c H ρ vh) (o : Out c σ H ρ U (F ws wz vh) (KW c Q)) :
    wpAny (model X.prog X.w) X.A (call (.ref f) us (ks.zip uz)) (EP X pins σ Q) X.xe s := by
  refine wpAny_call (codeAny_mono (G.go X.A X.stack s H us uz vs zs Q (WE U σ) hr ng I.env0 r rz ⟨c, hc, hcm, ws, wz, ρ, vh, rs, rsz, rh, o.sigma (τ := []) fun _ _ _ h => h⟩) fun r s' hq => ?_)
  cases r with
  | error e => exact passAt tk σ pins H s e s' I hq
  | ok fl => cases fl with
    | ret u => exact I.after hq
    | next => exact hq.elim
    | brk => exact hq.elim
    | cont => exact hq.elim
def mCallC (F : FC) (fa fk : FA) : FE := fun e vh => bnd (fa e vh) fun ws vh1 => bnd (fk e vh1) fun zs vh2 => F ws zs vh2
@[simp] theorem ev_callC {e : Env} {vh : VH} : mCallC F fa fk e vh = bnd (fa e vh) fun ws vh1 => bnd (fk e vh1) fun zs vh2 => F ws zs vh2 := rfl
@[simp] theorem ev_byPar {n m : Nat} {srcs : List Src} {dws : List W} {F : FN} {ws zs : List W} {vh : VH} : byPar n m srcs dws F ws zs vh = lenOk ws.length zs.length n m (F (pick ws zs dws srcs) vh) := rfl
/-- f(e, .., k = v, ..) -/
theorem mc_call (hc : c.K = X.K) (hcm : c.mg = X.mg) (G : FnC X.prog X.w X.K X.mg X.base k f ks F) (hr : Room k X.A) (ng : NoGuard X.A) (tk : Takes X U) (hg : Gl X x) (hm : X.mg x = some (.ref f)) (hk : PySem.W.keepIn X.K (.ref f) = true)
    (ha : PA X (e :: es) (tMA c U fa)) (hkw : PK X kws (tMA c U fk))
    (hall : (backToKw pos (keywordEach kws X.env)).all (·.1.isSome) = true := by rfl) (hks : (backToKw pos (keywordEach kws X.env)).filterMap (·.1) = ks := by rfl)
    (hdb : (x == ("__debug__" : Str)) = false := by decide) (he : starEach (e :: es) X.env = (false, eval e X.env) :: starEach es X.env := by rfl)
    (hpl : ((backTo pos (starEach (e :: es) X.env)).any (·.1) || (backToKw pos (keywordEach kws X.env)).any (·.1.isNone)) = false := by rfl) :
    PE X (.Call (.Name x p) (e :: es) kws pos) (tM c U (mCallC F fa fk)) := by
  refine ⟨fun pins s σ H Q I ⟨en, ρ, vh, hE, hh, h⟩ => wpAny_Call_Name_kw (ld_glob I hg hm ?_ hdb)⟩
  refine PySem.W.callWith_KW (h₀ := X.base) I.ok.mod.kin hk hall (thn (ha.run pos pins s σ H _ I (useA hE hh h)) fun us s1 ⟨vs, H1, I1, r, ws, vh1, ρ1, rs, A, g1, f1⟩ => ?_) hpl he
  refine thn (hkw.run pos pins s1 σ H1 _ I1 (useA A.re A.rh A.out)) fun uz s2 ⟨zs, H2, I2, rz, wz, vh2, ρ2, rs2, B, g2, f2⟩ => ⟨I2.kIn, ?_⟩
  rw [hks]
  exact run_c G hr ng tk hc hcm I2 r rz (rs.stay g2 f2) rs2 B.rh B.out
/-- f(k = v, ..), f() -/
theorem mc_call0 (hc : c.K = X.K) (hcm : c.mg = X.mg) (G : FnC X.prog X.w X.K X.mg X.base k f ks F) (hr : Room k X.A) (ng : NoGuard X.A) (tk : Takes X U) (hg : Gl X x) (hm : X.mg x = some (.ref f)) (hk : PySem.W.keepIn X.K (.ref f) = true) (hkw : PK X kws (tMA c U fk))
    (hall : (backToKw pos (keywordEach kws X.env)).all (·.1.isSome) = true := by rfl) (hks : (backToKw pos (keywordEach kws X.env)).filterMap (·.1) = ks := by rfl)
    (hdb : (x == ("__debug__" : Str)) = false := by decide) (hpl : ((backTo pos (starEach [] X.env)).any (·.1) || (backToKw pos (keywordEach kws X.env)).any (·.1.isNone)) = false := by rfl) :
    PE X (.Call (.Name x p) [] kws pos) (tM c U (mCallC F mNil fk)) := by
  refine ⟨fun pins s σ H Q I ⟨en, ρ, vh, hE, hh, h⟩ => wpAny_Call_Name_kw (ld_glob I hg hm ?_ hdb)⟩
  refine PySem.W.callWith_KW0 (h₀ := X.base) I.ok.mod.kin hk hall ?_ hpl
  refine thn (hkw.run pos pins s σ H _ I (useA hE hh h)) fun uz s2 ⟨zs, H2, I2, rz, wz, vh2, ρ2, rs2, B, g2, f2⟩ => ⟨I2.kIn, ?_⟩
  rw [hks]
  exact run_c (us := []) (vs := []) (ws := []) G hr ng tk hc hcm I2 .nil rz trivial rs2 B.rh B.out
/-- f(e, .., *y) -/
theorem mc_callS (hc : c.K = X.K) (hcm : c.mg = X.mg) (G : FnC X.prog X.w X.K X.mg X.base k f [] F) (hr : Room k X.A) (ng : NoGuard X.A) (tk : Takes X U) (hg : Gl X x) (hm : X.mg x = some (.ref f)) (hk : PySem.W.keepIn X.K (.ref f) = true)
    (ha : PA X (e :: es) (tMA c U fa)) (hdb : (x == ("__debug__" : Str)) = false := by decide) (he : starEach (e :: es) X.env = (false, eval e X.env) :: starEach es X.env := by rfl) (hst : (backTo pos (starEach es X.env)).any (·.1) = true := by rfl) :
    PE X (.Call (.Name x p) (e :: es) [] pos) (tM c U (mCallC F fa mNil)) := by
  refine ⟨fun pins s σ H Q I ⟨en, ρ, vh, hE, hh, h⟩ => wpAny_Call_Name_kw (ld_glob I hg hm ?_ hdb)⟩
  refine PySem.W.callWith_S2 (h₀ := X.base) I.ok.mod.kin hk (thn (ha.run pos pins s σ H _ I (useA hE hh h)) fun us s1 ⟨vs, H1, I1, r, ws, vh1, ρ1, rs, A, g1, f1⟩ => ⟨I1.kIn, ?_⟩) he hst
  exact run_c (uz := []) (zs := []) (wz := []) G hr ng tk hc hcm I1 r .nil rs trivial A.rh A.out
/-- the items of a list or tuple, as arguments -/
def seqW (vh : VH) (w : W) : Option (List W) := (see vh w).bind fun x => (asSeq x).map (·.map .d)
def mStar (f : FE) (g : FA) : FA := fun e vh => bnd (f e vh) fun w vh1 => opt (seqW vh1 w) fun us => bnd (g e vh1) fun ws vh2 => .ok (us ++ ws) vh2
def mStar1 (f : FE) : FA := fun e vh => bnd (f e vh) fun w vh1 => opt (seqW vh1 w) fun us => .ok us vh1
theorem seqW_ok {H : Hp} {ρ : Rho} {vh : VH} {w : W} {v : V} {us : List W} (rh : RelH c H ρ vh) (r : RelW c H ρ w v) (e : seqW vh w = some us) : ∃ a xs, v = .ref a ∧ (SqL c.K H a xs ∨ SqT c.K H a xs) ∧ RelWs c H ρ us xs := by
  unfold seqW at e
  obtain ⟨x, e1, e2⟩ := Option.bind_eq_some_iff.mp e
  obtain ⟨ds, e3, rfl⟩ := Option.map_eq_some_iff.mp e2
  obtain ⟨a, xs, h1, h2, _, h3⟩ := asSeq_ok (see_ok rh r e1) e3
  exact ⟨a, xs, h1, h2, relDs_ws h3⟩
theorem ma_star {y : Expr} {f : FE} {g : FA} {sp : Pos} (hc : c.K = X.K) (hy : PE X y (tM c U f)) (hr : PA X es (tMA c U g)) (hs : starEach (.Starred y sp :: es) X.env = (true, eval y X.env) :: starEach es X.env := by rfl) : PA X (.Starred y sp :: es) (tMA c U (mStar f g)) :=
  pa_imp (StX.pa_star hy hr hs) fun σ H Q ⟨en, ρ, vh, he, hh, h⟩ => (use he hh h).mono fun v H1 ⟨w, vh1, ρ1, r, A, g1, f1⟩ => by
    obtain ⟨us, e1, o⟩ := opt_out A.out
    obtain ⟨a, xs, q1, q2, q3⟩ := seqW_ok A.rh r e1
    refine ⟨a, xs, q1, by rw [← hc]; exact q2.symm, (useA A.re A.rh o).mono fun vs H2 ⟨ws, vh2, ρ2, rs, B, g2, f2⟩ => ?_⟩
    exact B.out.here B.rh _ ((q3.stay g2 f2).append rs)
/-- f(*y) -/
theorem mc_callS1 {y : Expr} {fy : FE} {sp : Pos} (hc : c.K = X.K) (hcm : c.mg = X.mg) (G : FnC X.prog X.w X.K X.mg X.base k f [] F) (hr : Room k X.A) (ng : NoGuard X.A) (tk : Takes X U) (hg : Gl X x) (hm : X.mg x = some (.ref f)) (hk : PySem.W.keepIn X.K (.ref f) = true)
    (hy : PE X y (tM c U fy)) (hdb : (x == ("__debug__" : Str)) = false := by decide) (hst : starEach [.Starred y sp] X.env = [(true, eval y X.env)] := by rfl) : PE X (.Call (.Name x p) [.Starred y sp] [] pos) (tM c U (mCallC F (mStar1 fy) mNil)) := by
  refine ⟨fun pins s σ H Q I ⟨en, ρ, vh, hE, hh, h⟩ => wpAny_Call_Name_kw (ld_glob I hg hm ?_ hdb)⟩
  have h2 : Out c σ H ρ U (bnd (fy en vh) fun w vh1 => opt (seqW vh1 w) fun us => F us [] vh1) (KW c Q) := by
    have q : mCallC F (mStar1 fy) mNil en vh = bnd (fy en vh) fun w vh1 => opt (seqW vh1 w) fun us => F us [] vh1 := by
      unfold mCallC mStar1 mNil
      cases fy en vh with
      | ok w vh1 => simp only [bnd_ok]; cases seqW vh1 w <;> rfl
      | exn _ _ => rfl
      | stuck => rfl
    rw [q] at h; exact h
  refine PySem.W.callWith_S (h₀ := X.base) I.ok.mod.kin hk (thn (hy.run pins s σ H _ I (use hE hh h2)) fun v s1 ⟨z, H1, I1, rz, w, vh1, ρ1, r, A, g1, f1⟩ => ?_) hst
  obtain ⟨us, e1, o⟩ := opt_out A.out
  obtain ⟨a, xs, q1, q2, q3⟩ := seqW_ok A.rh r e1
  subst q1
  obtain rfl : v = Value.ref a := rz
  exact StX.star_any I1 (by rw [← hc]; exact q2.symm) fun us2 s2 I2 rv => ⟨I2.kIn, run_c (uz := []) (zs := []) (wz := []) G hr ng tk hc hcm I2 rv .nil q3 trivial A.rh o⟩
end

/-! ### a def with *names -/
def datasW (ws : List W) : Option (List D) := datas ws
/-- np parameters, the rest a new tuple -/
def byStar (np : Nat) (F : FN) : FC := fun ws zs vh => if np ≤ ws.length ∧ zs.length = 0 then opt (datas (ws.drop np)) fun ds => sizeOk ds.length (F (ws.take np ++ [.d (.tup ds)]) vh) else .stuck
section
variable {P : Program} {w : World} {K : PySem.W.Frag} {mg : Str → Option Value} {base : Heap} {k : Nat} {f : Addr} {fd : FuncData} {x qual pv : Str} {st : Stmt} {ps N : List Str}
theorem RelWs.take {c : Cn} {H : Hp} {ρ : Rho} : ∀ {xs : List W} {vs : List V} (n : Nat), RelWs c H ρ xs vs → RelWs c H ρ (xs.take n) (vs.take n)
  | [], [], n, _ => by simp; trivial
  | _ :: _, _ :: _, 0, _ => trivial
  | _ :: _, _ :: _, n + 1, ⟨h, t⟩ => ⟨h, RelWs.take n t⟩
theorem RelWs.drop {c : Cn} {H : Hp} {ρ : Rho} : ∀ {xs : List W} {vs : List V} (n : Nat), RelWs c H ρ xs vs → RelWs c H ρ (xs.drop n) (vs.drop n)
  | [], [], n, _ => by simp; trivial
  | _ :: _, _ :: _, 0, h => h
  | _ :: _, _ :: _, n + 1, ⟨_, t⟩ => RelWs.drop n t
theorem FnC.star {g : FS} (F : GDf K mg x qual st [] [] f fd) (S : FnScope N (ps ++ [pv]) (defScope st))
    (hb : ∀ (kV doc pm : Value) (an : Option Addr) (cdv ct : Value) (us rest : List Value), us.length = ps.length → bindArgs (PySem.W.fnOf x qual (defArgs st) (defBody st) (defScope st) .none kV doc pm an cdv ct) ⟨us ++ rest, []⟩ = (newTuple rest >>= fun t => pure (ps.zip us ++ [(pv, t)])))
    (body : ∀ (cdv : Value) (A : Around) (outer : List PySem.Env) (s : Shared) (H : Hp) (E : XK) (hid : List Addr), Room k (A.deeper (envOfC qual (defScope st) s.heap.objs.size f cdv)) → NoGuard (A.deeper (envOfC qual (defScope st) s.heap.objs.size f cdv)) →
      Takes (cxOf (L2.CX P w) P w K mg base N qual (defScope st) f cdv A outer s H E) (fun cls d _ H => E cls d H) →
      PSs (cxOf (L2.CX P w) P w K mg base N qual (defScope st) f cdv A outer s H E) (defBody st) (tMS ⟨K, mg, hid⟩ (fun cls d _ H => E cls d H) g)) :
    FnC P w K mg base (k + 1) f [] (byStar ps.length (mFn (ps.length + 1) N.length g)) := by
  obtain ⟨oc, od, dV, kV, doc, pm, an, cdv, ct, osl, rfl, lk, hcd, p1, _⟩ := F.ex
  cases p1
  refine ⟨fun A outer s H us uz vs zs Q E hr ng e0 r rz h => ?_⟩
  obtain ⟨⟨K', mg', hid⟩, rfl, rfl, ws, wz, ρ, vh, rs, rsz, rh, o⟩ := h
  unfold byStar at o
  split at o
  rotate_left
  · exact o.elim
  rename_i hl
  obtain ⟨ds, hds, o⟩ := opt_out o
  unfold sizeOk at o
  split at o
  rotate_left
  · exact o.elim
  rename_i hz
  obtain rfl : uz = [] := by
    have : uz.length = 0 := by rw [← rz.length, ← rsz.length]; exact hl.2
    exact List.length_eq_zero_iff.mp this
  have hn : H s.heap.objs.size = Option.none := e0.hok.fresh (Nat.le_refl _)
  have lw : ws.length = us.length := by rw [rs.length, r.length]
  have l1 : (us.take ps.length).length = ps.length := by rw [List.length_take]; omega
  have rdd := datas_ok (rs.drop ps.length) hds
  have l2 : (us.drop ps.length).length ≤ sizeLine := by
    rw [← (r.drop ps.length).length, ← rdd.length]; exact hz
  have hsplit : us = us.take ps.length ++ us.drop ps.length := (List.take_append_drop _ _).symm
  have lv1 : (vs.take ps.length).length = ps.length := by rw [List.length_take, ← rs.length]; omega
  refine StX.run_bnd lk hcd S hr e0 (G := fun xs H2 => ∃ q, H q = Option.none ∧ xs = vs.take ps.length ++ [V.ref q] ∧ H2 = upd H q (.tup (vs.drop ps.length))) (fun A' Ex Q' h => ?_) fun s2 H2 xs ⟨q, hq, ex, eH⟩ hr' => ?_
  · show wpAny _ _ (bindArgs _ ⟨us, []⟩) _ _ _
    rw [hsplit, hb _ _ _ _ _ _ (us.take ps.length) (us.drop ps.length) l1]
    refine wpAny_bind (wpAny_newTuple (wpAny_pure ?_) l2)
    have new : ObjOk P w (upd H s.heap.objs.size (.tup (vs.drop ps.length))) (s.heap.push ({ cls := .type "tuple", data := .seq (us.drop ps.length).toArray } : Obj)) s.heap.objs.size (.tup (vs.drop ps.length)) :=
      ⟨by rw [(r.drop ps.length).length]; exact l2, us.drop ps.length, r.drop _, ⟨_, Heap.get?_push_size _ rfl, rfl, _, rfl⟩⟩
    have un := StX.un_laid (fs := frs outer) (s := s) (o := ({ cls := .type "tuple", data := .seq (us.drop ps.length).toArray } : Obj)) (u := .tup (vs.drop ps.length)) hn
    have z := h _ _ (vs.take ps.length ++ [V.ref s.heap.objs.size]) (us.take ps.length ++ [Value.ref s.heap.objs.size]) (StX.env0_laid e0 new) un rfl (fun e s' => StX.cxUp outer s H _ _ E e s' un (fun b o q => Heap.get?_push_of_some _ q) rfl) ((r.take ps.length).append (.cons rfl .nil))
      (by rw [List.length_append, List.length_append, lv1]; rfl) ⟨_, hn, rfl, rfl⟩
    rw [List.zip_append l1.symm] at z
    exact z
  · subst ex eH
    have ngd : NoGuard (A.deeper (envOfC qual (defScope st) s2.heap.objs.size f cdv)) := ng.deeper _
    refine ⟨_, body cdv A outer s2 _ E hid hr' ngd (takes_of rfl rfl rfl rfl), ?_⟩
    have hg : Grow ρ H ρ := Grow.refl _ _
    have hf : Fm H (upd H q (.tup (vs.drop ps.length))) ρ := Fm.new hq
    have hrel : RelWs ⟨K', mg', hid⟩ (upd H q (.tup (vs.drop ps.length))) ρ (ws.take ps.length ++ [.d (.tup ds)]) (vs.take ps.length ++ [V.ref q]) :=
      ((rs.take _).stay hg hf).append ⟨⟨q, _, rfl, rh.fresh hq, upd_same, hz, rdd.stay hg hf⟩, trivial⟩
    have rh2 : RelH ⟨K', mg', hid⟩ (upd H q (.tup (vs.drop ps.length))) ρ vh := rh.same (same_upd hq)
    have o2 := o.later hg hf
    unfold mFn at o2
    split at o2
    rotate_left
    · exact o2.elim
    rename_i el
    refine ⟨_, ρ, vh, entry_rel (np := ps.length + 1) hrel, rh2, ?_⟩
    have e2 : entry (ps.length + 1) N.length (ws.take ps.length ++ [W.d (.tup ds)]) = (ws.take ps.length ++ [W.d (.tup ds)]).map some ++ List.replicate (N.length - (vs.take ps.length ++ [V.ref q]).length) none := by
      unfold entry; rw [List.length_append, lv1]; rfl
    rw [← e2]
    cases qq : g (entry (ps.length + 1) N.length (ws.take ps.length ++ [.d (.tup ds)])) vh with
    | nx e' vh' => rw [qq] at o2; exact fun σ' H' ρ' g' f' x y => o2 H' ρ' g' f' y .non rfl
    | bk e' vh' => rw [qq] at o2; exact o2.elim
    | ct e' vh' => rw [qq] at o2; exact o2.elim
    | rt w vh' => rw [qq] at o2; exact fun v H' ρ' g' f' x y => o2 H' ρ' g' f' y v x
    | exn x e' vh' => rw [qq] at o2; exact fun cls d σ' H' ρ' g' f' x y z => o2 cls d H' ρ' g' f' x z
    | stuck => rw [qq] at o2; exact o2.elim
end
end Mn

namespace Mn
open PySem PySem.Spec PyProof.Rows L2

/-! ### methods -/
/-- o.m(..): the class tells the def -/
def notIn (m : Str) (l : List Str) (r : Res W) : Res W := if m ∈ l then .stuck else r
def mMeth (tbl : List (Str × FC)) (m : Str) (fo : FE) (fa : FA) : FE := fun e vh => bnd (fo e vh) fun w vh1 => opt (insW vh1 w) fun p => opt (tbl.lookup p.1) fun F => notIn m p.2 (bnd (fa e vh1) fun ws vh2 => F (w :: ws) [] vh2)
@[simp] theorem ev_meth {tbl : List (Str × FC)} {m : Str} {fo : FE} {fa : FA} {e : Env} {vh : VH} : mMeth tbl m fo fa e vh = bnd (fo e vh) fun w vh1 => opt (insW vh1 w) fun p => opt (tbl.lookup p.1) fun F => notIn m p.2 (bnd (fa e vh1) fun ws vh2 => F (w :: ws) [] vh2) := rfl
@[simp] theorem ev_fld {ns : List Str} {f : Str} {fo : FE} {e : Env} {vh : VH} : mFld ns f fo e vh = bnd (fo e vh) fun w vh1 => opt (fldW vh1 ns f w) fun z => .ok z vh1 := rfl
def MEv (X : Cx) (k : Nat) (m n : Str) (F : FC) : Prop := ∃ (C f : Addr), X.mg n = some (.ref C) ∧ Cls X.K C ∧ Meth X.K C m f ∧ FnC X.prog X.w X.K X.mg X.base k f [] F
def MOk (X : Cx) (k : Nat) (m : Str) (tbl : List (Str × FC)) : Prop := ∀ n F, tbl.lookup n = some F → MEv X k m n F
theorem MOk.nil {X : Cx} {k : Nat} {m : Str} : MOk X k m [] := fun _ _ h => nomatch h
theorem MEv.mono {X : Cx} {j k : Nat} {m n : Str} {F : FC} (h : MEv X j m n F) (l : j ≤ k) : MEv X k m n F :=
  let ⟨C, f, h1, h2, h3, h4⟩ := h
  ⟨C, f, h1, h2, h3, h4.mono l⟩
theorem MOk.cons {X : Cx} {k : Nat} {m n : Str} {F : FC} {tbl : List (Str × FC)} (h : MEv X k m n F) (t : MOk X k m tbl) : MOk X k m ((n, F) :: tbl) := fun x G e => by
  rw [List.lookup_cons] at e
  cases q : x == n with
  | true => rw [q] at e; cases e; rw [beq_iff_eq.mp q]; exact h
  | false => rw [q] at e; exact t x G e
section
variable {X : Cx} {U : WX} {c : Cn} {k : Nat} {m : Str} {tbl : List (Str × FC)} {e o : Expr} {es : List Expr} {fo : FE} {fa : FA} {pos apos p : Pos} {pl : Sem Bool}
theorem me_meth (hc : c.K = X.K) (hcm : c.mg = X.mg) (M : MOk X k m tbl) (hr : Room k X.A) (ng : NoGuard X.A) (tk : Takes X U) (ho : PE X o (tM c U fo)) (ha : PA X (e :: es) (tMA c U fa))
    (hst : starEach (e :: es) X.env = (false, eval e X.env) :: starEach es X.env := by rfl) (hpl : (backTo pos (starEach es X.env)).any (·.1) = false := by rfl)
    (ht : eval (.Call (.Attribute o m apos) (e :: es) [] pos) X.env = (eval o X.env >>= fun ov => standAt apos.atName >>= fun _ => holding [ov] (getMethod ov m pl) >>= fun q =>
      callWith pos q.1 q.2 (backTo pos (starEach (e :: es) X.env)) (backToKw pos (keywordEach [] X.env))) := by rfl) :
    PE X (.Call (.Attribute o m apos) (e :: es) [] pos) (tM c U (mMeth tbl m fo fa)) := by
  refine ⟨fun pins s σ H Q I ⟨en, ρ, vh, hE, hh, h⟩ => PySem.W.methodCall_KW (pl := pl) (thn (ho.run pins s σ H _ I (use hE hh h)) fun u s1 ⟨x, H1, I1, rx, w, vh1, ρ1, r, A, g1, f1⟩ => ?_) ht⟩
  obtain ⟨p, hp, out⟩ := opt_out A.out
  obtain ⟨F, hF, out⟩ := opt_out out
  unfold notIn at out
  split at out
  · exact out.elim
  rename_i hm
  obtain ⟨C, f, m1, m2, m3, m4⟩ := M p.1 F hF
  obtain ⟨a, C', dx, xs, ex, q1, q2⟩ := ins_at A.rh r hp
  rw [hcm] at q1
  cases m1.symm.trans q1
  subst ex
  obtain rfl : u = Value.ref a := rx
  refine getmeth_ok I1 q2 m2 m3 (lookup_no hm) ?_
  refine PySem.W.callWith_K (first := [.ref a]) (h₀ := X.base) I.ok.mod.kin m3.kp (thn (ha.run pos pins s1 σ H1 _ I1 (useA A.re A.rh out)) fun us s2 ⟨vs, H2, I2, r2, ws, vh2, ρ2, rs, B, g2, f2⟩ => ⟨I2.kIn, ?_⟩) hst hpl
  exact run_c (us := .ref a :: us) (vs := .ref a :: vs) (ws := w :: ws) (uz := []) (zs := []) (wz := []) m4 hr ng tk hc hcm I2 (.cons rfl r2) .nil ⟨r.stay g2 f2, rs⟩ trivial B.rh B.out
theorem me_meth0 (hc : c.K = X.K) (hcm : c.mg = X.mg) (M : MOk X k m tbl) (hr : Room k X.A) (ng : NoGuard X.A) (tk : Takes X U) (ho : PE X o (tM c U fo))
    (ht : eval (.Call (.Attribute o m apos) [] [] pos) X.env = (eval o X.env >>= fun ov => standAt apos.atName >>= fun _ => holding [ov] (getMethod ov m pl) >>= fun q =>
      callWith pos q.1 q.2 (backTo pos (starEach [] X.env)) (backToKw pos (keywordEach [] X.env))) := by rfl) :
    PE X (.Call (.Attribute o m apos) [] [] pos) (tM c U (mMeth tbl m fo mNil)) := by
  refine ⟨fun pins s σ H Q I ⟨en, ρ, vh, hE, hh, h⟩ => PySem.W.methodCall_KW (pl := pl) (thn (ho.run pins s σ H _ I (use hE hh h)) fun u s1 ⟨x, H1, I1, rx, w, vh1, ρ1, r, A, g1, f1⟩ => ?_) ht⟩
  obtain ⟨p, hp, out⟩ := opt_out A.out
  obtain ⟨F, hF, out⟩ := opt_out out
  unfold notIn at out
  split at out
  · exact out.elim
  rename_i hm
  obtain ⟨C, f, m1, m2, m3, m4⟩ := M p.1 F hF
  obtain ⟨a, C', dx, xs, ex, q1, q2⟩ := ins_at A.rh r hp
  rw [hcm] at q1
  cases m1.symm.trans q1
  subst ex
  obtain rfl : u = Value.ref a := rx
  refine getmeth_ok I1 q2 m2 m3 (lookup_no hm) ?_
  exact PySem.W.callWith_K0 (first := [.ref a]) I1.kIn m3.kp (run_c (us := [.ref a]) (vs := [.ref a]) (ws := [w]) (uz := []) (zs := []) (wz := []) m4 hr ng tk hc hcm I1 (.cons rfl .nil) .nil ⟨r, trivial⟩ trivial A.rh out)
end

/-! ### C(..) -/
/-- attributes as data -/
def frzW (n : Nat) (vh : VH) : W → Option D
  | .d x => some x
  | .ref j => if j < n then none else match vh[j]? with
    | some (.lst ds) => some (.lst ds)
    | some (.dic t kvs) => some (.dic t kvs)
    | _ => none
def frzF (n : Nat) (vh : VH) : List (Str × W) → Option (List (Str × D))
  | [] => some []
  | (f, w) :: r => match frzW n vh w, frzF n vh r with
    | some x, some xs => some ((f, x) :: xs)
    | _, _ => none
def isTame (n : Nat) (vh : VH) (r : Res W) : Res W := if n ≤ vh.length ∧ tame n vh = true then r else .stuck
def madeR (fz : Bool) (n : Nat) (r : Res W) : Res W := match r with
  | .ok (.d .non) vh2 => if fz = true then match vh2[n]? with
    | some (.ins c fs) => opt (frzF n vh2 fs) fun gs => isTame n vh2 (.ok (.d (.ins c gs)) (vh2.take n))
    | _ => .stuck else .ok (.ref n) vh2
  | .exn x vh2 => if n ≤ vh2.length ∧ tame n vh2 = true then .exn x (vh2.take n) else .stuck
  | _ => .stuck
def mMake (cn : Str) (fz : Bool) (F : FC) (fa fk : FA) : FE := fun e vh => bnd (fa e vh) fun ws vh1 => bnd (fk e vh1) fun zs vh2 => madeR fz vh2.length (F (.ref vh2.length :: ws) zs (vh2 ++ [.ins cn []]))
@[simp] theorem ev_make {cn : Str} {fz : Bool} {F : FC} {fa fk : FA} {e : Env} {vh : VH} : mMake cn fz F fa fk e vh = bnd (fa e vh) fun ws vh1 => bnd (fk e vh1) fun zs vh2 => madeR fz vh2.length (F (.ref vh2.length :: ws) zs (vh2 ++ [.ins cn []])) := rfl
section
variable {c : Cn} {H : Hp} {ρ : Rho} {vh : VH}
theorem frzW_ok {n : Nat} {w : W} {v : V} {x : D} (rh : RelH c H ρ vh) (r : RelW c H ρ w v) (hn : n ≤ vh.length) (e : frzW n vh w = some x) : RelD c H (ρ.take n) x v := by
  cases w with
  | d y => cases e; exact RelD.less take_sub r
  | ref j =>
    obtain ⟨r1, r2⟩ := r
    simp only [frzW] at e
    split at e
    · cases e
    rename_i lj
    have hnot : ∀ a, ρ[j]? = some (some a) → some a ∉ ρ.take n := fun a ha hm => by
      obtain ⟨i, hi, ei⟩ := List.mem_iff_getElem.mp hm
      have hi' : i < n := by have h2 := hi; rw [List.length_take] at h2; omega
      have e2 : ρ[i]? = some (some a) := by rw [← List.getElem?_take_of_lt hi', List.getElem?_eq_getElem hi, ei]
      have := rh.inj _ _ _ ha e2
      omega
    cases q : vh[j]? with
    | none => simp only [q] at e; cases e
    | some vo =>
      obtain ⟨o, ho, ro⟩ := rh.at' j vo q
      simp only [q] at e
      cases vo with
      | lst ds =>
        cases e
        obtain ⟨a, xs, rfl, hH, l, rr⟩ := ro
        exact ⟨a, xs, r2 a ho, ⟨hnot a ho, fun z => (rh.hid a z).2 (List.mem_of_getElem? ho)⟩, hH, l, rr.less take_sub⟩
      | dic t kvs =>
        cases e
        obtain ⟨a, xs, rfl, hH, rr⟩ := ro
        refine ⟨a, xs, r2 a ho, ⟨hnot a ho, fun z => (rh.hid a z).2 (List.mem_of_getElem? ho)⟩, hH, ?_⟩
        exact RelDv.less take_sub rr
      | ins _ _ => cases e
      | dead => cases e
theorem frzF_ok {n : Nat} (rh : RelH c H ρ vh) (hn : n ≤ vh.length) : ∀ {fs : List (Str × W)} {xs : List V} {gs : List (Str × D)}, RelWf c H ρ fs xs → frzF n vh fs = some gs → gs.map (·.1) = fs.map (·.1) ∧ RelDf c H (ρ.take n) gs xs
  | [], [], _, _, e => by cases e; exact ⟨rfl, trivial⟩
  | (f, w) :: fs, v :: xs, gs, ⟨r, t⟩, e => by
    unfold frzF at e
    split at e
    · rename_i x ys h1 h2
      cases e
      obtain ⟨a1, a2⟩ := frzF_ok rh hn t h2
      exact ⟨by rw [List.map_cons, List.map_cons, a1], frzW_ok rh r hn h1, a2⟩
    · cases e
theorem made_out {σ : L2.St} {X : WX} {n : Nat} {fz : Bool} {r : Res W} {C x : Addr} {cn : Str} {Q : VK} {H0 : Hp} {ρ0 : Rho} (hl : n = ρ0.length) (hm : c.mg cn = some (.ref C))
    (h : Out c σ H0 ρ0 X (madeR fz n r) (KW c Q)) (g0 : Grow ρ0 H0 ρ) (f0 : Fm H0 H ρ0) (hx : ρ[n]? = some (some x)) : Out c σ H ρ X r (KW c fun v H' => v = .non ∧ Q (.ref x) H') := by
  cases r with
  | ok w vh' =>
    intro H' ρ' g f rh v rv
    have G := g0.trans f0 g
    have Fx : Fm H0 H' ρ0 := Fm.trans g0 f0 f
    unfold madeR at h
    split at h
    · rename_i vh2 heq
      cases heq
      have ev : v = .non := rv
      refine ⟨ev, ?_⟩
      have hxo : ρ'[n]? = some (some x) ∨ ρ'[n]? = some none := by
        have hn : n < ρ.length := (List.getElem?_eq_some_iff.mp hx).1
        rcases g.old n hn with z | z
        · exact .inl (z.trans hx)
        · exact .inr z
      split at h
      · rename_i hf
        split at h
        · rename_i c' fs hc
          obtain ⟨gs, hg, h⟩ := opt_out h
          unfold isTame at h
          split at h
          · rename_i ht
            obtain ⟨o, ho, a, C', dx, xs, rfl, q1, q2, q3⟩ := rh.at' n _ hc
            have hxa : a = x := by
              rcases hxo with z | z
              · rw [z] at ho; exact (Option.some.inj (Option.some.inj ho)).symm
              · rw [z] at ho; cases ho
            subst hxa
            obtain ⟨z1, z2⟩ := frzF_ok rh ht.1 q3 hg
            have hna : some a ∉ ρ'.take n := fun hm => by
              obtain ⟨i, hi, ei⟩ := List.mem_iff_getElem.mp hm
              have hi' : i < n := by have h2 := hi; rw [List.length_take] at h2; omega
              have e2 : ρ'[i]? = some (some a) := by rw [← List.getElem?_take_of_lt hi', List.getElem?_eq_getElem hi, ei]
              have := rh.inj _ _ _ ho e2
              omega
            refine h H' (ρ'.take n) (G.take hl) Fx (rh.take ht.1 ht.2) (.ref a) ?_
            exact ⟨a, C', dx, xs, rfl, ⟨hna, fun z => (rh.hid a z).2 (List.mem_of_getElem? ho)⟩, q1, by rw [z1]; exact q2, z2⟩
          · exact h.elim
        · exact h.elim
      · refine h H' ρ' G Fx rh (.ref x) ⟨?_, fun b hb => ?_⟩
        · have hn : n < ρ.length := (List.getElem?_eq_some_iff.mp hx).1
          exact Nat.lt_of_lt_of_le hn g.len
        · rcases hxo with z | z
          · rw [z] at hb; rw [Option.some.inj (Option.some.inj hb)]
          · rw [z] at hb; cases hb
    · rename_i x' vh2 heq; cases heq
    · exact h.elim
  | exn y vh' =>
    intro cls d H' ρ' g f rx rh
    have G := g0.trans f0 g
    have Fx : Fm H0 H' ρ0 := Fm.trans g0 f0 f
    simp only [madeR] at h
    split at h
    · rename_i ht
      exact h cls d H' (ρ'.take n) (G.take hl) Fx (RelDf.less' take_sub rx) (rh.take ht.1 ht.2)
    · exact absurd h id
  | stuck => exact absurd h id
end
section
variable {X : Cx} {U : WX} {c : Cn} {k : Nat} {ks : List Str} {cn : Str} {fz : Bool} {F : FC} {e : Expr} {es : List Expr} {kws : List Keyword} {fa fk : FA} {pos p : Pos} {C f : Addr}
theorem run_mk {pins : List (Addr × Obj)} {σ : L2.St} {H : Hp} {ρ : Rho} {vh : VH} {s : Shared} {Q : VK} {us uz : List Value} {vs zs : List V} {ws wz : List W} (M : Mk X.K C f) (G : FnC X.prog X.w X.K X.mg X.base k f ks F) (hr : Room (k + 1) X.A) (ng : NoGuard X.A) (tk : Takes X U) (hc : c.K = X.K) (hcm : c.mg = X.mg) (hm : X.mg cn = some (.ref C))
    (I : L2.Inv X pins σ H s) (r : Vals vs us) (rz : Vals zs uz) (rs : RelWs c H ρ ws vs) (rsz : RelWs c H ρ wz zs) (rh : RelH c H ρ vh) (o : Out c σ H ρ U (madeR fz vh.length (F (.ref vh.length :: ws) wz (vh ++ [.ins cn []]))) (KW c Q)) :
    wpAny (model X.prog X.w) X.A (call (.ref C) us (ks.zip uz)) (EP X pins σ Q) X.xe s := by
  have h1 : H (s.heap.objs.size + 1) = none := I.hok.fresh (Nat.le_succ _)
  have h2 : H s.heap.objs.size = none := I.hok.fresh (Nat.le_refl _)
  have ne : s.heap.objs.size ≠ s.heap.objs.size + 1 := Nat.ne_of_lt (Nat.lt_succ_self _)
  have I2 := Inv.made (C := C) I
  have f1 : Fm H (upd H s.heap.objs.size (.own (s.heap.objs.size + 1))) ρ := Fm.new h2
  have rh1 : RelH c (upd H s.heap.objs.size (.own (s.heap.objs.size + 1))) ρ vh := rh.same (same_upd h2)
  have h1' : upd H s.heap.objs.size (.own (s.heap.objs.size + 1)) (s.heap.objs.size + 1) = none := by rw [upd_ne (Ne.symm ne)]; exact h1
  have rh2 := rh1.push (o := .ins C s.heap.objs.size []) (vo := .ins cn []) h1' ⟨s.heap.objs.size + 1, C, s.heap.objs.size, [], rfl, by rw [hcm]; exact hm, upd_same, trivial⟩
  have f2 : Fm H (upd (upd H s.heap.objs.size (.own (s.heap.objs.size + 1))) (s.heap.objs.size + 1) (.ins C s.heap.objs.size [])) ρ := Fm.trans (Grow.refl _ _) f1 (Fm.new h1')
  have g2 : Grow ρ H (ρ ++ [some (s.heap.objs.size + 1)]) := Grow.push h1
  have hx : (ρ ++ [some (s.heap.objs.size + 1)])[vh.length]? = some (some (s.heap.objs.size + 1)) := by rw [← rh.len]; simp
  have o2 := made_out (n := vh.length) rh.len.symm (by rw [hcm]; exact hm) o g2 f2 hx
  have rr : RelW c (upd (upd H s.heap.objs.size (.own (s.heap.objs.size + 1))) (s.heap.objs.size + 1) (.ins C s.heap.objs.size [])) (ρ ++ [some (s.heap.objs.size + 1)]) (.ref vh.length) (.ref (s.heap.objs.size + 1)) :=
    ⟨by rw [List.length_append, rh.len]; exact Nat.lt_succ_self _, fun a ha => by rw [hx] at ha; rw [Option.some.inj (Option.some.inj ha)]⟩
  refine wpAny_call (make_map (f := f) I.kIn M.makes M.init (beq_iff_eq.mp M.fn) (codeAny_mono (G.go _ X.stack _ _ (Value.ref (s.heap.objs.size + 1) :: us) uz (V.ref (s.heap.objs.size + 1) :: vs) zs (fun v H' => v = .non ∧ Q (.ref (s.heap.objs.size + 1)) H') (WE U σ) (hr.make C us (ks.zip uz)) (ng.make C us (ks.zip uz)) (I2.env0.make C us (ks.zip uz))
    (.cons rfl r) rz ⟨c, hc, hcm, .ref vh.length :: ws, wz, _, _, ⟨rr, rs.stay g2 f2⟩, rsz.stay g2 f2, rh2, o2.sigma (τ := []) fun _ _ _ h => h⟩) fun r s' hq' => ?_))
  cases r with
  | error e => exact passAt tk σ pins _ _ e s' I2 hq'
  | ok fl => cases fl with
    | ret u =>
      obtain ⟨v, H', I3, rv, ev, q3⟩ := I2.after hq'
      subst ev
      exact ⟨rv, ⟨V.ref (s.heap.objs.size + 1), H', I3, rfl, q3⟩⟩
    | next => exact hq'.elim
    | brk => exact hq'.elim
    | cont => exact hq'.elim
theorem me_make (hc : c.K = X.K) (hcm : c.mg = X.mg) (M : Mk X.K C f) (G : FnC X.prog X.w X.K X.mg X.base k f ks F) (hr : Room (k + 1) X.A) (ng : NoGuard X.A) (tk : Takes X U) (hg : Gl X cn) (hm : X.mg cn = some (.ref C))
    (ha : PA X (e :: es) (tMA c U fa)) (hkw : PK X kws (tMA c U fk))
    (hall : (backToKw pos (keywordEach kws X.env)).all (·.1.isSome) = true := by rfl) (hks : (backToKw pos (keywordEach kws X.env)).filterMap (·.1) = ks := by rfl)
    (hdb : (cn == ("__debug__" : Str)) = false := by decide) (he : starEach (e :: es) X.env = (false, eval e X.env) :: starEach es X.env := by rfl)
    (hpl : ((backTo pos (starEach (e :: es) X.env)).any (·.1) || (backToKw pos (keywordEach kws X.env)).any (·.1.isNone)) = false := by rfl) :
    PE X (.Call (.Name cn p) (e :: es) kws pos) (tM c U (mMake cn fz F fa fk)) := by
  refine ⟨fun pins s σ H Q I ⟨en, ρ, vh, hE, hh, h⟩ => wpAny_Call_Name_kw (ld_glob I hg hm ?_ hdb)⟩
  refine PySem.W.callWith_KW (h₀ := X.base) I.ok.mod.kin M.kp hall (thn (ha.run pos pins s σ H _ I (useA hE hh h)) fun us s1 ⟨vs, H1, I1, r, ws, vh1, ρ1, rs, A, g1, f1⟩ => ?_) hpl he
  refine thn (hkw.run pos pins s1 σ H1 _ I1 (useA A.re A.rh A.out)) fun uz s2 ⟨zs, H2, I2, rz, wz, vh2, ρ2, rs2, B, g2, f2⟩ => ⟨I2.kIn, ?_⟩
  rw [hks]
  exact run_mk M G hr ng tk hc hcm hm I2 r rz (rs.stay g2 f2) rs2 B.rh B.out
theorem me_make0 (hc : c.K = X.K) (hcm : c.mg = X.mg) (M : Mk X.K C f) (G : FnC X.prog X.w X.K X.mg X.base k f ks F) (hr : Room (k + 1) X.A) (ng : NoGuard X.A) (tk : Takes X U) (hg : Gl X cn) (hm : X.mg cn = some (.ref C)) (hkw : PK X kws (tMA c U fk))
    (hall : (backToKw pos (keywordEach kws X.env)).all (·.1.isSome) = true := by rfl) (hks : (backToKw pos (keywordEach kws X.env)).filterMap (·.1) = ks := by rfl)
    (hdb : (cn == ("__debug__" : Str)) = false := by decide) (hpl : ((backTo pos (starEach [] X.env)).any (·.1) || (backToKw pos (keywordEach kws X.env)).any (·.1.isNone)) = false := by rfl) :
    PE X (.Call (.Name cn p) [] kws pos) (tM c U (mMake cn fz F mNil fk)) := by
  refine ⟨fun pins s σ H Q I ⟨en, ρ, vh, hE, hh, h⟩ => wpAny_Call_Name_kw (ld_glob I hg hm ?_ hdb)⟩
  refine PySem.W.callWith_KW0 (h₀ := X.base) I.ok.mod.kin M.kp hall ?_ hpl
  refine thn (hkw.run pos pins s σ H _ I (useA hE hh h)) fun uz s2 ⟨zs, H2, I2, rz, wz, vh2, ρ2, rs2, B, g2, f2⟩ => ⟨I2.kIn, ?_⟩
  rw [hks]
  exact run_mk (us := []) (vs := []) (ws := []) M G hr ng tk hc hcm hm I2 .nil rz trivial rs2 B.rh B.out
theorem me_makeS1 {y : Expr} {fy : FE} {sp : Pos} (hc : c.K = X.K) (hcm : c.mg = X.mg) (M : Mk X.K C f) (G : FnC X.prog X.w X.K X.mg X.base k f [] F) (hr : Room (k + 1) X.A) (ng : NoGuard X.A) (tk : Takes X U) (hg : Gl X cn) (hm : X.mg cn = some (.ref C))
    (hy : PE X y (tM c U fy)) (hdb : (cn == ("__debug__" : Str)) = false := by decide) (hst : starEach [.Starred y sp] X.env = [(true, eval y X.env)] := by rfl) : PE X (.Call (.Name cn p) [.Starred y sp] [] pos) (tM c U (mMake cn fz F (mStar1 fy) mNil)) := by
  refine ⟨fun pins s σ H Q I ⟨en, ρ, vh, hE, hh, h⟩ => wpAny_Call_Name_kw (ld_glob I hg hm ?_ hdb)⟩
  have h2 : Out c σ H ρ U (bnd (fy en vh) fun w vh1 => opt (seqW vh1 w) fun us => madeR fz vh1.length (F (.ref vh1.length :: us) [] (vh1 ++ [.ins cn []]))) (KW c Q) := by
    have q : mMake cn fz F (mStar1 fy) mNil en vh = bnd (fy en vh) fun w vh1 => opt (seqW vh1 w) fun us => madeR fz vh1.length (F (.ref vh1.length :: us) [] (vh1 ++ [.ins cn []])) := by
      unfold mMake mStar1 mNil
      cases fy en vh with
      | ok w vh1 => simp only [bnd_ok]; cases seqW vh1 w <;> rfl
      | exn _ _ => rfl
      | stuck => rfl
    rw [q] at h; exact h
  refine PySem.W.callWith_S (h₀ := X.base) I.ok.mod.kin M.kp (thn (hy.run pins s σ H _ I (use hE hh h2)) fun v s1 ⟨z, H1, I1, rz, w, vh1, ρ1, r, A, g1, f1⟩ => ?_) hst
  obtain ⟨us, e1, o⟩ := opt_out A.out
  obtain ⟨a, xs, q1, q2, q3⟩ := seqW_ok A.rh r e1
  subst q1
  obtain rfl : v = Value.ref a := rz
  exact StX.star_any I1 (by rw [← hc]; exact q2.symm) fun us2 s2 I2 rv => ⟨I2.kIn, run_mk (uz := []) (zs := []) (wz := []) M G hr ng tk hc hcm hm I2 rv .nil q3 trivial A.rh o⟩
end
end Mn

namespace Mn
open PySem PySem.Spec PyProof.Rows L2

/-! ### the order of texts -/
def sLt (a b : Str) : Bool := decide (a.cps.toList < b.cps.toList)
theorem sLt_asymm {a b : Str} (h : sLt a b = true) : sLt b a = false := decide_eq_false (List.lt_asymm (of_decide_eq_true h))
theorem sLt_tr {a b c : Str} (h1 : sLt b a = false) (h2 : sLt c b = false) : sLt c a = false := by
  have h1 : ¬ b.cps.toList < a.cps.toList := of_decide_eq_false h1
  have h2 : ¬ c.cps.toList < b.cps.toList := of_decide_eq_false h2
  exact decide_eq_false (List.not_lt.mpr (List.le_trans (List.not_lt.mp h1) (List.not_lt.mp h2)))
theorem str_ext {a b : Str} (h : a.cps.toList = b.cps.toList) : a = b := by
  cases a; cases b
  congr 1
  exact Array.toList_inj.mp h
theorem sLt_eq {a b : Str} (h1 : sLt a b = false) (h2 : sLt b a = false) : a = b :=
  str_ext (List.le_antisymm (List.not_lt.mp (of_decide_eq_false h2)) (List.not_lt.mp (of_decide_eq_false h1)))
theorem sLt_irr (a : Str) : sLt a a = false := by
  cases h : sLt a a with
  | false => rfl
  | true => have := sLt_asymm h; rw [h] at this; cases this
theorem swo_s {α : Type} (k : α → Str) : SrtO.Swo fun x y : α => sLt (k x) (k y) := ⟨fun _ _ h => sLt_asymm h, fun _ _ _ h1 h2 => sLt_tr h1 h2⟩

/-! ### data in the order of their heads -/
def headD : D → Str
  | .str z => z
  | .tup (.str z :: _) => z
  | _ => ⟨#[]⟩
def hasStr : D → Bool
  | .str _ => true
  | _ => false
def hasHead : D → Bool
  | .tup (.str _ :: _) => true
  | _ => false
def insBy {α : Type} (k : α → Str) (x : α) : List α → List α
  | [] => [x]
  | y :: r => if sLt (k y) (k x) = true then y :: insBy k x r else x :: y :: r
def sortBy {α : Type} (k : α → Str) : List α → List α
  | [] => []
  | x :: r => insBy k x (sortBy k r)
theorem insBy_perm {α : Type} (k : α → Str) (x : α) : ∀ l : List α, (insBy k x l).Perm (x :: l)
  | [] => .refl _
  | y :: r => by
    unfold insBy
    split
    · exact ((insBy_perm k x r).cons y).trans (.swap x y r)
    · exact .refl _
theorem sortBy_perm {α : Type} (k : α → Str) : ∀ l : List α, (sortBy k l).Perm l
  | [] => .refl _
  | x :: r => (insBy_perm k x _).trans ((sortBy_perm k r).cons x)
abbrev SrtB {α : Type} (k : α → Str) (l : List α) : Prop := l.Pairwise fun x y => sLt (k y) (k x) = false
theorem insBy_srt {α : Type} (k : α → Str) (x : α) : ∀ {l : List α}, SrtB k l → SrtB k (insBy k x l)
  | [], _ => List.pairwise_singleton _ _
  | y :: r, h => by
    obtain ⟨h1, h2⟩ := List.pairwise_cons.mp h
    unfold insBy
    split
    · rename_i q
      refine List.pairwise_cons.mpr ⟨fun z hz => ?_, insBy_srt k x h2⟩
      rcases List.mem_cons.mp ((insBy_perm k x r).mem_iff.mp hz) with rfl | hz
      · exact sLt_asymm q
      · exact h1 z hz
    · rename_i q
      have q : sLt (k y) (k x) = false := by cases e : sLt (k y) (k x) with
        | false => rfl
        | true => exact absurd e q
      refine List.pairwise_cons.mpr ⟨fun z hz => ?_, h⟩
      rcases List.mem_cons.mp hz with rfl | hz
      · exact q
      · exact sLt_tr q (h1 z hz)
theorem sortBy_srt {α : Type} (k : α → Str) : ∀ l : List α, SrtB k (sortBy k l)
  | [] => .nil
  | x :: r => insBy_srt k x (sortBy_srt k r)
/-- sorted, the same items: the same list, where a key tells the item -/
theorem sortBy_uniq {α : Type} {k : α → Str} {l m : List α} (inj : ∀ x ∈ m, ∀ y ∈ m, k x = k y → x = y) (p : l.Perm m) (s : SrtB k l) : l = sortBy k m := by
  have pm : l.Perm (sortBy k m) := p.trans (sortBy_perm k m).symm
  refine pm.eq_of_pairwise (fun a b ha hb h1 h2 => ?_) s (sortBy_srt k m)
  exact inj a (p.mem_iff.mp ha) b ((sortBy_perm k m).mem_iff.mp hb) (sLt_eq h2 h1)
theorem sortBy_map {α β : Type} (f : α → β) (k : β → Str) : ∀ l : List α, sortBy k (l.map f) = (sortBy (fun x => k (f x)) l).map f
  | [] => rfl
  | x :: r => by
    simp only [List.map_cons, sortBy, sortBy_map f k r]
    generalize sortBy (fun x => k (f x)) r = m
    induction m with
    | nil => rfl
    | cons y m ih =>
      simp only [List.map_cons, insBy]
      split <;> simp [ih]
theorem sortedS_srt : ∀ {ys : List Str}, sortedS ys = true → SrtB id ys := by
  have go : ∀ (ys : List Str) (p : Str), PyProof.Rows.risingS p ys = true → SrtB id (p :: ys) := by
    intro ys
    induction ys with
    | nil => intro p _; exact List.pairwise_singleton _ _
    | cons y ys ih =>
      intro p h
      simp only [PyProof.Rows.risingS, Bool.and_eq_true] at h
      have h2 := ih y h.2
      refine List.pairwise_cons.mpr ⟨fun z hz => ?_, h2⟩
      have h1 : sLt y p = false := by
        have := h.1
        simp only [sLt] at *
        rw [ltCps_eq] at this
        simpa using this
      rcases List.mem_cons.mp hz with rfl | hz
      · exact h1
      · exact sLt_tr h1 ((List.pairwise_cons.mp h2).1 z hz)
  intro ys h
  cases ys with
  | nil => exact .nil
  | cons y ys => exact go ys y h

/-! ### sorted(xs), a list of tuples that begin with texts, no two alike -/
def IsHead (h : Heap) (v : Value) (z : Str) : Prop := ∃ (a : Addr) (o : Obj) (its : Array Value) (n : Nat) (t : Tok), v = .ref a ∧ h.get? a = some o ∧ o.cls = .type "tuple" ∧ o.data = .seq its n ∧ its[0]? = some (.str z t)
theorem IsHead.keeps {h h' : Heap} {v : Value} {z : Str} (x : IsHead h v z) (k : ∀ b o, h.get? b = some o → o.cls = .type "tuple" → h'.get? b = some o) : IsHead h' v z :=
  let ⟨a, o, its, n, t, e, ho, hc, hd, h0⟩ := x
  ⟨a, o, its, n, t, e, k a o ho hc, hc, hd, h0⟩
section
variable {prog : Program} {w : World} {A : Around} {E : Value → Shared → Prop} {s : Shared}
theorem kat_self {b fin : Bool} {Q : Bool → Shared → Prop} (hq : Q fin s) : ∀ (l : List Value) (i : Nat), PySem.W.KatLex prog w A b fin Q (l.zip l) i s
  | [], i => PySem.W.kat_nil hq
  | v :: l, i => by
    refine PySem.W.kat_cons (SeqAt.EqAt.same v prog w _ _ ?_)
    exact PySem.W.kat_yes (kat_self hq l (i + 1))
theorem head_cmp {vs : List Value} {k : Value → Str} (hp : ∀ v ∈ vs, IsHead s.heap v (k v)) (inj : ∀ v ∈ vs, ∀ u ∈ vs, k v = k u → v = u) : SrtO.Cmp prog w A s (tuples' true) (fun p => p.1 ∈ vs) (SrtO.lt2 fun v u => sLt (k v) (k u)) := by
  intro p q hm hm'
  have h1 := hp _ hm
  have h2 := hp _ hm'
  show wpAny (model prog w) A (keyLt' (tuples' true) p.1 q.1) (fun r s' => s' = s ∧ r = sLt (k p.1) (k q.1)) (fun _ _ => False) s
  by_cases e : p.1 = q.1
  · rw [← e]
    obtain ⟨a, o, its, n, t, ea, ho, hc, hd, h0⟩ := h1
    rw [ea, ← ea]
    have : sLt (k p.1) (k p.1) = false := sLt_irr _
    rw [this, ea]
    refine PySem.W.kat_lt ho hd ho hd ?_
    rw [decide_eq_false (Nat.lt_irrefl _)]
    exact kat_self ⟨rfl, rfl⟩ _ _
  · have ne : k p.1 ≠ k q.1 := fun z => e (inj _ hm _ hm' z)
    generalize k p.1 = x at h1 ne ⊢
    generalize k q.1 = y at h2 ne ⊢
    obtain ⟨a, o, its, n, t, ea, ho, hc, hd, h0⟩ := h1
    obtain ⟨a', o', its', n', t', ea', ho', hc', hd', h0'⟩ := h2
    rw [ea, ea']
    refine PySem.W.kat_lt ho hd ho' hd' ?_
    obtain ⟨r, hr⟩ : ∃ r, its.toList = .str x t :: r := by
      have : its.toList[0]? = some (.str x t) := by simpa using h0
      cases q : its.toList with
      | nil => rw [q] at this; cases this
      | cons v r => rw [q] at this; cases this; exact ⟨r, rfl⟩
    obtain ⟨r', hr'⟩ : ∃ r, its'.toList = .str y t' :: r := by
      have : its'.toList[0]? = some (.str y t') := by simpa using h0'
      cases q : its'.toList with
      | nil => rw [q] at this; cases this
      | cons v r => rw [q] at this; cases this; exact ⟨r, rfl⟩
    rw [hr, hr', List.zip_cons_cons]
    refine PySem.W.kat_cons (SeqAt.EqAt.str_str x t y t' prog w _ _ ?_)
    have ef : (x == y) = false := beq_false_of_ne ne
    rw [ef]
    exact PySem.W.kat_no (PyProof.Rows.oneLt_str ⟨rfl, rfl⟩)
theorem heads_of {h : Heap} {k : Value → Str} : ∀ {vs : List Value}, (∀ v ∈ vs, IsHead h v (k v)) → ∃ fs : List Value, PySem.W.KatTups h vs fs ∧ fs.length = vs.length ∧ ∀ f ∈ fs, ∃ x t, f = Value.str x t
  | [], _ => ⟨[], PySem.W.KatTups.nil, rfl, fun f hf => nomatch hf⟩
  | v :: vs, hp => by
    obtain ⟨fs, h1, h2, h3⟩ := heads_of (vs := vs) fun v' hm => hp v' (List.mem_cons_of_mem _ hm)
    obtain ⟨a, o, its, n, t, rfl, ho, hc, hd, h0⟩ := hp v List.mem_cons_self
    refine ⟨.str _ t :: fs, PySem.W.KatTups.cons ho hc hd h0 h1, congrArg (· + 1) h2, fun f hf => ?_⟩
    rcases List.mem_cons.mp hf with rfl | hf
    · exact ⟨_, _, rfl⟩
    · exact h3 f hf
theorem heads_sortable {a : Addr} {vs : List Value} {k : Value → Str} (h0 : 0 < vs.length) (hp : ∀ v ∈ vs, IsHead s.heap v (k v)) (inj : ∀ v ∈ vs, ∀ u ∈ vs, k v = k u → v = u) (ha : ∀ o, s.heap.get? a = some o → o.cls ≠ .type "tuple") :
    SrtO.SortableO prog w A s a vs fun v u => sLt (k v) (k u) := by
  intro h' keep
  have hp' : ∀ v ∈ vs, IsHead h' v (k v) := fun v hm => (hp v hm).keeps fun b o e c => keep b o (fun z => by subst z; exact ha o e c) e
  obtain ⟨fs, h1, h2, h3⟩ := heads_of hp'
  refine ⟨tuples' true, fun Q E hq => ?_, head_cmp hp' inj⟩
  refine PySem.W.kat_kind (T := .type "str") h1 (by omega) (fun f hm => ?_) (by rfl) ?_
  · obtain ⟨x, t, rfl⟩ := h3 f hm
    exact PySem.W.Looks.now
  · have e : (Value.type "str" != Value.type "tuple") = true := by first | decide +kernel | rfl | decide
    rw [e]
    exact hq
theorem sorted_heads {l : Addr} {vs : List Value} {k : Value → Str} {Q : Value → Shared → Prop} (hl : s.heap.IsList l vs.toArray) (hz : vs.length ≤ sizeLine) (hp : ∀ v ∈ vs, IsHead s.heap v (k v)) (inj : ∀ v ∈ vs, ∀ u ∈ vs, k v = k u → v = u)
    (h : ∀ (h' : Heap) (d : Addr) (out : List Value), SrtB k out → out.Perm vs → (∀ b o, s.heap.get? b = some o → h'.get? b = some o) → s.heap.objs.size ≤ d → (∃ n, h'.get? d = some (seqObj "list" out.toArray n)) → Q (.ref d) { s with heap := h' }) :
    wpAny (model prog w) A (call (.builtin "sorted") [.ref l]) Q E s := by
  refine SrtO.sorted_ord (swo_s k) hl hz (fun h2 h₁ a ha kk => ?_) fun out hs hb => ?_
  · refine heads_sortable (s := { s with heap := h₁ }) (by omega) (fun v hm => (hp v hm).keeps fun b o e _ => (kk b o e).2) inj fun o e => ?_
    have e' : some o = some (seqObj "list" vs.toArray 0) := e.symm.trans ha
    cases e'
    intro c
    exact absurd (Value.type.inj c) (by decide)
  · exact h _ _ out hs hb.perm (fun b o e => sortedAll_old e) (Nat.le_succ _) (sortedAll_at s.heap vs out.toArray)
end
def rSortedH (K : PySem.W.Frag) : List V → Hp → VK → Prop := fun vs H Q => ∃ (a : Addr) (xs : List V) (k : V → Str), vs = [V.ref a] ∧ SqL K H a xs ∧ (∀ x ∈ xs, ∃ t ys, x = V.ref t ∧ SqT K H t (.str (k x) :: ys)) ∧ (∀ x ∈ xs, ∀ y ∈ xs, k x = k y → x = y) ∧
  ∀ ys p, SrtB k ys → ys.Perm xs → H p = none → Q (.ref p) (upd H p (.lst ys))
theorem cr_sortedH {X : Cx} : CallR X (.builtin "sorted") (rSortedH X.K) := by
  intro pins s σ H vs us Q I r h
  obtain ⟨a, xs, k, rfl, hs, hx, hi, q⟩ := h
  obtain ⟨its, rv, hl, hz⟩ := I.list hs
  obtain ⟨u, rfl, ru⟩ := vals1 r
  obtain rfl : u = Value.ref a := ru
  obtain ⟨e1, e2⟩ := refs_back rv fun x m => by
    obtain ⟨t, ys, e, _⟩ := hx x m
    exact ⟨t, e⟩
  have mem : ∀ v ∈ its, backV v ∈ xs := fun v hv => by rw [e1]; exact List.mem_map.mpr ⟨_, hv, rfl⟩
  refine sorted_heads (k := fun u => k (backV u)) hl.isList (by rw [← rv.length]; exact hz) (fun v hv => ?_) (fun v hv u hu e => ?_) fun h' d out h1 h2 kp hd hn => ?_
  · obtain ⟨t, rfl⟩ := e2 v hv
    obtain ⟨t', ys, e, ht⟩ := hx _ (mem _ hv)
    cases e
    obtain ⟨its2, r2, p2, _⟩ := I.tuple ht
    obtain ⟨o, ho, hc, n, hd⟩ := p2
    cases its2 with
    | nil => cases r2
    | cons u1 its2 =>
      cases r2 with
      | cons r21 r22 =>
        obtain ⟨t1, rfl⟩ := r21
        exact ⟨t, o, _, n, t1, rfl, ho, hc, hd, rfl⟩
  · have e3 := hi _ (mem v hv) _ (mem u hu) e
    obtain ⟨t, rfl⟩ := e2 v hv
    obtain ⟨t', rfl⟩ := e2 u hu
    exact congrArg Value.ref (V.ref.inj e3)
  · have h3 : ∀ u ∈ out, ∃ a, u = Value.ref a := fun u hu => e2 u (h2.mem_iff.mp hu)
    obtain ⟨n, hn⟩ := hn
    have hb : (out.map backV).Perm xs := by rw [e1]; exact h2.map _
    refine ⟨.ref d, upd H d (.lst (out.map backV)), I.laid (t' := s.toks) kp hd ⟨?_, out, n, vals_back h3, hn⟩, rfl, q _ d (List.pairwise_map.mpr h1) hb (I.hok.fresh hd)⟩
    rw [hb.length_eq]
    exact hz

/-! ### sorted of data -/
def okStr (x : Str) : Bool := decide (x.length ≤ sizeLine) && PyData.strOk x
theorem okStr_iff {x : Str} : okStr x = true ↔ x.length ≤ sizeLine ∧ PyData.strOk x = true := by unfold okStr; rw [Bool.and_eq_true, decide_eq_true_eq]
def cSorted : List D → Option D
  | [.lst ds] => match asStrs ds with
    | some xs => if xs.length < 64 then some (.lst ((sortBy id xs).map .str)) else none
    | none => if ds.all hasHead = true ∧ (ds.map headD).Nodup then some (.lst (sortBy headD ds)) else none
  | [.dic false kvs] => match asStrs (kvs.map (·.1)) with
    | some xs => if xs.length < 64 ∧ xs.all okStr = true then some (.lst ((sortBy id xs).map .str)) else none
    | none => none
  | _ => none
def rSortM (K : PySem.W.Frag) : List V → Hp → VK → Prop := fun xs H Q => rSortedS K xs H Q ∨ rSortedH K xs H Q ∨
  (∃ (a : Addr) (kvs : List (Key × V)) (ks : List Str), xs = [.ref a] ∧ Rd H a (.dK kvs) ∧ kvs.map (·.1) = ks.map Sum.inr ∧ ks.length < 64 ∧ ∀ ys p, ys.Perm ks → sortedS ys = true → H p = none → Q (.ref p) (upd H p (.lst (ys.map V.str))))
theorem CallR.or {X : Cx} {v : Value} {r r' : List V → Hp → VK → Prop} (h : CallR X v r) (h' : CallR X v r') : CallR X v (fun xs H Q => r xs H Q ∨ r' xs H Q) := by
  intro pins s σ H xs us Q I rr q
  rcases q with q | q
  · exact h pins s σ H xs us Q I rr q
  · exact h' pins s σ H xs us Q I rr q
theorem call_sortM {X : Cx} (hc : X.calm = true) : CallR X (.builtin "sorted") (rSortM X.K) := CallR.or cr_sortedS (CallR.or cr_sortedH (call_sortedD hc))
section
variable {c : Cn} {H : Hp} {ρ : Rho}
theorem RelDs.of_vs : ∀ {ds : List D} {us : List V}, RelDs c H ρ ds us → ∀ u ∈ us, ∃ d ∈ ds, RelD c H ρ d u
  | [], [], _, u, h => nomatch h
  | d :: ds, v :: us, ⟨r, t⟩, u, h => by
    rcases List.mem_cons.mp h with rfl | h
    · exact ⟨d, List.mem_cons_self, r⟩
    · obtain ⟨x, hx, rx⟩ := RelDs.of_vs t u h
      exact ⟨x, List.mem_cons_of_mem _ hx, rx⟩
/-- a permutation of the values is one of the data -/
theorem RelDs.perm {us vs : List V} (p : us.Perm vs) : ∀ {ds : List D}, RelDs c H ρ ds vs → ∃ es : List D, es.Perm ds ∧ RelDs c H ρ es us := by
  induction p with
  | nil => intro ds h; exact ⟨ds, .refl _, h⟩
  | cons x _ ih =>
    intro ds h
    cases ds with
    | nil => exact h.elim
    | cons d ds =>
      obtain ⟨es, p1, p2⟩ := ih h.2
      exact ⟨d :: es, p1.cons d, h.1, p2⟩
  | swap x y l =>
    intro ds h
    match ds, h with
    | a :: b :: ds, ⟨h1, h2, h3⟩ => exact ⟨b :: a :: ds, .swap .., h2, h1, h3⟩
  | trans _ _ ih1 ih2 =>
    intro ds h
    obtain ⟨es, p1, p2⟩ := ih2 h
    obtain ⟨fs, q1, q2⟩ := ih1 p2
    exact ⟨fs, q1.trans p1, q2⟩
theorem RelDs.key {k : V → Str} : ∀ {ds : List D} {us : List V}, RelDs c H ρ ds us → (∀ d ∈ ds, ∀ v, RelD c H ρ d v → k v = headD d) → ds.map headD = us.map k
  | [], [], _, _ => rfl
  | d :: ds, v :: us, ⟨r, t⟩, h => by
    rw [List.map_cons, List.map_cons, h d List.mem_cons_self v r, RelDs.key t fun x hx => h x (List.mem_cons_of_mem _ hx)]
theorem srtB_map {α β : Type} {k : α → Str} {j : β → Str} : ∀ {xs : List α} {ys : List β}, xs.map k = ys.map j → SrtB j ys → SrtB k xs := by
  intro xs ys e h
  have h1 : (ys.map j).Pairwise fun x y => sLt y x = false := List.pairwise_map.mpr h
  rw [← e] at h1
  exact List.pairwise_map.mp h1
/-- the head of a value that stands in H -/
def keyH (H : Hp) : V → Str
  | .ref t => match H t with
    | some (.tup (.str z :: _)) => z
    | _ => ⟨#[]⟩
  | _ => ⟨#[]⟩
theorem keyH_rel {d : D} {v : V} (e : hasHead d = true) (r : RelD c H ρ d v) : (∃ t ys, v = V.ref t ∧ SqT c.K H t (.str (keyH H v) :: ys)) ∧ keyH H v = headD d := by
  unfold hasHead at e
  split at e
  · rename_i z ds
    obtain ⟨a, xs, rfl, _, hH, _, rr⟩ := r
    match xs, rr with
    | u :: us, ⟨⟨e1, _⟩, _⟩ =>
      subst e1
      have hk : keyH H (.ref a) = z := by simp only [keyH, hH]
      exact ⟨⟨a, us, rfl, by rw [hk]; exact .of hH⟩, hk⟩
  · cases e
theorem inj_nodup {α β : Type} {f : α → β} : ∀ {l : List α}, (l.map f).Nodup → ∀ x ∈ l, ∀ y ∈ l, f x = f y → x = y
  | [], _, x, h, _, _, _ => nomatch h
  | a :: l, nd, x, hx, y, hy, e => by
    rw [List.map_cons, List.nodup_cons] at nd
    rcases List.mem_cons.mp hx with e1 | h1
    · rcases List.mem_cons.mp hy with e2 | h2
      · rw [e1, e2]
      · exact (nd.1 (List.mem_map.mpr ⟨y, h2, by rw [← e, e1]⟩)).elim
    · rcases List.mem_cons.mp hy with e2 | h2
      · exact (nd.1 (List.mem_map.mpr ⟨x, h1, by rw [e, e2]⟩)).elim
      · exact inj_nodup nd.2 x h1 y h2 e
theorem relDs_strs {xs : List Str} (h : ∀ x ∈ xs, x.length ≤ sizeLine ∧ PyData.strOk x = true) : RelDs c H ρ (xs.map D.str) (xs.map V.str) := by
  induction xs with
  | nil => trivial
  | cons x xs ih => exact ⟨⟨rfl, h x List.mem_cons_self⟩, ih fun y hy => h y (List.mem_cons_of_mem _ hy)⟩
theorem strs_ok : ∀ {ds : List D} {vs : List V} {xs : List Str}, RelDs c H ρ ds vs → asStrs ds = some xs → ∀ x ∈ xs, x.length ≤ sizeLine ∧ PyData.strOk x = true
  | [], [], _, _, e => by cases e; exact fun _ h => nomatch h
  | .str z :: ds, v :: vs, xs, ⟨r, t⟩, e => by
    simp only [asStrs] at e
    obtain ⟨ys, hy, rfl⟩ := Option.map_eq_some_iff.mp e
    intro x hx
    rcases List.mem_cons.mp hx with rfl | hx
    · exact r.2
    · exact strs_ok t hy x hx
theorem keysK_strs : ∀ {kvs : List (D × D)} {ks : List Key} {xs : List Str}, keysK kvs = some ks → asStrs (kvs.map (·.1)) = some xs → ks = xs.map Sum.inr
  | [], _, _, e, f => by cases e; cases f; rfl
  | (.str z, b) :: r, ks, xs, e, f => by
    simp only [keysK, keyOf] at e
    simp only [List.map_cons, asStrs] at f
    obtain ⟨ys, hy, rfl⟩ := Option.map_eq_some_iff.mp f
    split at e
    · rename_i k ks' h1 h2
      cases e; cases h1
      rw [List.map_cons, ← keysK_strs h2 hy]
    · cases e
theorem cd_sorted : CallD c (rSortM c.K) cSorted := fun H ρ xs vs z Q fr rs e k => by
  unfold cSorted at e
  split at e
  · rename_i ds
    obtain ⟨v, rfl, a, us, rfl, hH, l, r⟩ := rs.one
    split at e
    · rename_i ss hs
      split at e
      · rename_i h64
        cases e
        obtain ⟨e1, _⟩ := asStrs_ok r hs
        have ok := strs_ok r hs
        refine .inl ⟨a, ss, rfl, by rw [← e1]; exact .of hH, h64, fun ys p pm so hp => ?_⟩
        have ey : ys = sortBy id ss := sortBy_uniq (fun x _ y _ h => h) pm (sortedS_srt so)
        subst ey
        exact k _ _ (same_upd hp) ⟨p, _, rfl, fr p hp, upd_same, by rw [List.length_map, (sortBy_perm id ss).length_eq]; exact Nat.le_of_lt (Nat.lt_of_lt_of_le h64 (by decide)), relDs_strs fun x hx => ok x (pm.mem_iff.mp hx)⟩
      · cases e
    · split at e
      · rename_i hq
        cases e
        have hk : ∀ d ∈ ds, ∀ v, RelD c H ρ d v → (∃ t ys, v = V.ref t ∧ SqT c.K H t (.str (keyH H v) :: ys)) ∧ keyH H v = headD d := fun d hd v rv => keyH_rel (List.all_eq_true.mp hq.1 d hd) rv
        have hm := RelDs.key (k := keyH H) r fun d hd v rv => (hk d hd v rv).2
        refine .inr (.inl ⟨a, us, keyH H, rfl, .of hH, fun x hx => ?_, inj_nodup (by rw [← hm]; exact hq.2), fun ys p sr pm hp => ?_⟩)
        · obtain ⟨d, hd, rd⟩ := r.of_vs x hx
          exact (hk d hd x rd).1
        · obtain ⟨es, p1, p2⟩ := r.perm pm
          have hm2 := RelDs.key (k := keyH H) p2 fun d hd v rv => (hk d (p1.mem_iff.mp hd) v rv).2
          have ee : es = sortBy headD ds := sortBy_uniq (inj_nodup hq.2) p1 (srtB_map hm2 sr)
          subst ee
          exact k _ _ (same_upd hp) ⟨p, _, rfl, fr p hp, upd_same, by rw [p1.length_eq]; exact l, p2.stay (Grow.refl _ _) (Fm.new hp)⟩
      · cases e
  · rename_i kvs
    split at e
    · rename_i ss hs
      split at e
      · rename_i h64
        cases e
        obtain ⟨v, rfl, a, us, rfl, ⟨ks, hk1, hk2⟩, r⟩ := rs.one
        have ek := keysK_strs hk1 hs
        refine .inr (.inr ⟨a, ks.zip us, ss, rfl, .inl hk2, ?_, h64.1, fun ys p pm so hp => ?_⟩)
        · rw [← ek]
          exact List.map_fst_zip (by rw [keysK_len hk1, r.length]; exact Nat.le_refl _)
        · have ey : ys = sortBy id ss := sortBy_uniq (fun x _ y _ h => h) pm (sortedS_srt so)
          subst ey
          exact k _ _ (same_upd hp) ⟨p, _, rfl, fr p hp, upd_same, by rw [List.length_map, (sortBy_perm id ss).length_eq]; exact Nat.le_of_lt (Nat.lt_of_lt_of_le h64.1 (by decide)), relDs_strs fun x hx => okStr_iff.mp (List.all_eq_true.mp h64.2 x (pm.mem_iff.mp hx))⟩
      · cases e
    · cases e
  · cases e
end
end Mn

namespace Mn
open PySem PySem.Spec PyProof.Rows L2

/-! ### repr of any data -/
def okInt : D → Bool
  | .int i => decide (i.natAbs.log2 < 1920)
  | _ => true
def cRepA : List D → Option D
  | [x] => match toPy x with
    | some p => if (p.showable = true ∧ p.depth ≤ 60 ∧ p.weight ≤ 1048576 ∧ p.intsShort 13 = true) ∧ okInt x = true then some (.str p.shown) else none
    | none => none
  | _ => none
def flatK : D → Bool
  | .str _ => true
  | .int _ => true
  | .bl _ => true
  | .non => true
  | _ => false
def rReprF : List V → Hp → VK → Prop := fun xs H Q => (∃ b, xs = [.bl b] ∧ Q (.str (PyData.bool b).shown) H) ∨ (xs = [.non] ∧ Q (.str PyData.none.shown) H) ∨ (∃ i, xs = [.int i] ∧ i.natAbs.log2 < 1920 ∧ Q (.str (PyData.int i).shown) H) ∨
  ∃ x, xs = [.str x] ∧ (PyData.str x).shown.length ≤ sizeLine ∧ Q (.str (PyData.str x).shown) H
theorem call_reprF {X : Cx} : CallR X (.builtin "repr") rReprF := by
  intro pins s σ H xs us Q I r h
  rcases h with ⟨b, rfl, q⟩ | ⟨rfl, q⟩ | ⟨i, rfl, hz, q⟩ | ⟨x, rfl, hz, q⟩
  · obtain ⟨u, rfl, ru⟩ := vals1 r
    cases ru
    refine PySem.P.repr_of_bool ⟨.str _, H, I.tok _, ⟨_, rfl⟩, ?_⟩
    rw [PyData.shown_bool] at q
    first | exact q | (cases b <;> exact q)
  · obtain ⟨u, rfl, ru⟩ := vals1 r
    cases ru
    refine PySem.P.repr_of_none ⟨.str _, H, I.tok _, ⟨_, rfl⟩, ?_⟩
    rw [PyData.shown_none] at q
    exact q
  · obtain ⟨u, rfl, ru⟩ := vals1 r
    obtain ⟨t, rfl⟩ := ru
    refine PySem.P.repr_of_int hz ⟨.str _, H, I.tok _, ⟨_, rfl⟩, ?_⟩
    rw [PyData.shown_int] at q
    exact q
  · obtain ⟨u, rfl, ru⟩ := vals1 r
    obtain ⟨t, rfl⟩ := ru
    rw [PyData.shown_str] at hz q
    exact PySem.P.repr_of_str ⟨.str _, H, I.tok _, ⟨_, rfl⟩, q⟩ hz
theorem call_reprA {X : Cx} (hr : X.A.units + 64 < cLine) (ng : NoGuard X.A) : CallR X (.builtin "repr") (fun xs H Q => rRepr X.K xs H Q ∨ rReprF xs H Q) := CallR.or (call_reprM hr ng) call_reprF
theorem cd_repA {c : Cn} : CallD c (fun xs H Q => rRepr c.K xs H Q ∨ rReprF xs H Q) cRepA := fun H ρ xs vs z Q fr rs e k => by
  match xs, rs, e with
  | [x], rs, e =>
    obtain ⟨v, rfl, r⟩ := rs.one
    by_cases hf : flatK x = true
    · simp only [cRepA] at e
      split at e
      · rename_i p hp
        split at e
        · rename_i hc
          obtain ⟨⟨h1, h2, h3, h4⟩, h5⟩ := hc
          cases e
          obtain ⟨a1, a2⟩ := dp_r r hp
          have lay : PyData.layable0 p = true := by
            unfold PyData.layable0
            rw [a2, decide_eq_true (show p.depth ≤ 64 by omega), decide_eq_true (show p.weight ≤ 2 ^ 20 from h3)]
            rfl
          have hz := PyData.shown_fits_of_layable0 (B := 13) (by omega) (by omega) lay h4
          have kk := k (.str p.shown) H (Same.refl H) ⟨rfl, hz, strOk_shown a2⟩
          refine .inr ?_
          cases x with
          | bl b => cases hp; cases r; exact .inl ⟨b, rfl, kk⟩
          | non => cases hp; cases r; exact .inr (.inl ⟨rfl, kk⟩)
          | int i =>
            cases hp; cases r
            exact .inr (.inr (.inl ⟨i, rfl, of_decide_eq_true h5, kk⟩))
          | str y => cases hp; obtain ⟨rfl, _⟩ := r; exact .inr (.inr (.inr ⟨y, rfl, hz, kk⟩))
          | _ => cases hf
        · cases e
      · cases e
    · refine .inl (cd_repr H ρ [x] [v] z Q fr rs ?_ k)
      cases x <;> first | exact absurd rfl hf | (simp only [cRepA, okInt, and_true] at e; simp only [cRep]; exact e) | (exfalso; simp [cRepA, toPy] at e; done)

/-! ### list(d.values()) -/
def cValues : D → Option D
  | .dic _ kvs => some (.lst (kvs.map (·.2)))
  | _ => none
def rValL : V → Hp → VK → Prop := fun x H Q => ∃ (d : Addr) (kvs : List (Key × V)), x = .ref d ∧ H d = some (.dK kvs) ∧ ∀ p, H p = none → Q (.ref p) (upd H p (.lst (kvs.map (·.2))))
section
variable {X : Cx} {e : Expr} {te : TE} {p apos cpos pos : Pos}
theorem pe_listValues (hc : X.calm = true) (he : PE X e te) (hg : Gl X "list") (hm : X.mg "list" = none) (hv : bootBuiltins "list" = some (.type "list")) (hbase : attributeBase e "values" X.env (eval e X.env) = eval e X.env := by rfl) (hline : (apos.endLine == cpos.line) = true := by rfl)
    (hs : starEach [.Call (.Attribute e "values" apos) [] [] cpos] X.env = (false, eval (.Call (.Attribute e "values" apos) [] [] cpos) X.env) :: starEach [] X.env := by rfl) :
    PE X (.Call (.Name "list" p) [.Call (.Attribute e "values" apos) [] [] cpos] [] pos) (fun σ H Q => te σ H fun x H1 => rValL x H1 Q) := by
  refine ⟨fun pins s σ H Q I hq => wpAny_Call_Name_kw (ld_blt I hg hm hv (PyProof.Rows.callWith_type1 ?_ hs rfl))⟩
  rw [hs]
  show wpAny _ _ (spliced ((false, eval (.Call (.Attribute e "values" apos) [] [] cpos) X.env) :: backTo pos (starEach [] X.env))) _ _ s
  refine Calls.spliced_cons (wpAny_Call_method (T := "dict") (id := "dict.values") hbase rfl hline PySem.F.plainAttrs_dict PySem.F.slot_dict_values PySem.F.type_dict_values (thn (he.run pins s σ H _ I hq) fun u s1 ⟨x, H1, I1, rx, d, kvs, ex, hd, q⟩ => ?_))
  subst ex
  obtain rfl : u = Value.ref d := rx
  obtain ⟨hz, hs0, vs, kv, hdo⟩ := I1.hok d _ hd
  obtain ⟨ep, hat⟩ := hdo.dictAt
  have lk : kvs.length = vs.length := Paired.length kv
  have I2 : Inv X pins σ H1 { s1 with heap := s1.heap.push { cls := .type "dict_values", data := .fields #[.ref d] } } := I1.kept (t' := s1.toks) fun b ob q => Heap.get?_push_of_some _ q
  refine ⟨hdo.typeIs, hdo.mapOf.noDict, ?_⟩
  show wpAny _ _ (callWith cpos (.builtin "dict.values") [.ref d] [] []) _ X.xe s1
  refine method_meetsIn PySem.F.slot_dict_values PySem.F.entry_dict_values rfl (PySem.evalArgs_none ⟨rfl, hdo.typeIs, PySem.F.args_dict_values_1 _, _, meets_dict_values (mixKind X.prog X.w) d hs0, ⟨vs, hdo⟩, ?_⟩)
  refine Calls.spliced_nil ?_
  refine PySem.W.kdl_call (PySem.W.kdl_values (knd := mixKind X.prog X.w) (kvs := vs) (ep := ep)) (I1.ok.hd hc) ⟨⟨_, Heap.get?_push_size _ rfl, rfl, rfl⟩, hat.push _⟩ (by omega) fun h' tk acc c hk hS hacc => ?_
  have hvv : acc.toList = vs.map (·.2) := PySem.W.kdl_vals_eq _ (by rw [Array.length_toList]; exact hacc.1) fun j v e => hacc.2 j v (by rw [← Array.getElem?_toList]; exact e)
  have rel : Vals (kvs.map (·.2)) acc.toList := by
    rw [hvv]
    clear hvv hacc hat hdo lk hz hd hs0 q
    unfold KV at kv
    induction kv with
    | nil => exact .nil
    | cons h _ ih => exact .cons h.2 ih
  have hle : s1.heap.objs.size ≤ (s1.heap.push ({ cls := .type "dict_values", data := .fields #[.ref d] } : Obj)).objs.size := by rw [Heap.size_push]; exact Nat.le_succ _
  refine ⟨.ref _, upd H1 _ (.lst (kvs.map (·.2))), I2.laid (t' := tk) hk (Nat.le_refl _) (show ObjOk X.prog X.w _ _ _ (.lst (kvs.map (·.2))) from ⟨by rw [List.length_map]; exact hz, acc.toList, c, rel, by rw [Array.toArray_toList]; exact hS⟩), rfl, q _ (I1.hok.fresh hle)⟩
end
section
variable {X : Cx} {U : WX} {c : Cn} {e : Expr} {f : FE} {p apos cpos pos : Pos}
theorem rel_vals {H : Hp} {ρ : Rho} : ∀ {kvs : List (D × D)} {xs : List V}, RelDv c H ρ kvs xs → RelDs c H ρ (kvs.map (·.2)) xs
  | [], [], _ => trivial
  | (_, _) :: _, _ :: _, ⟨r, t⟩ => ⟨r, rel_vals t⟩
def cVals1 : D → Option D
  | .dic false kvs => if kvs.length ≤ sizeLine then some (.lst (kvs.map (·.2))) else none
  | _ => none
theorem me_values (hc : X.calm = true) (hg : Gl X "list") (hm : X.mg "list" = none) (he : PE X e (tM c U f)) (hbase : attributeBase e "values" X.env (eval e X.env) = eval e X.env := by rfl) (hline : (apos.endLine == cpos.line) = true := by rfl)
    (hs : starEach [.Call (.Attribute e "values" apos) [] [] cpos] X.env = (false, eval (.Call (.Attribute e "values" apos) [] [] cpos) X.env) :: starEach [] X.env := by rfl) :
    PE X (.Call (.Name "list" p) [.Call (.Attribute e "values" apos) [] [] cpos] [] pos) (tM c U (mUn cVals1 f)) :=
  pe_imp (pe_listValues hc he hg hm bt_list hbase hline hs) fun σ H Q ⟨en, ρ, vh, hE, hh, h⟩ => (use hE hh h).mono fun v H1 ⟨w, vh1, ρ1, r, A, g1, f1⟩ => by
    obtain ⟨x, e1, o⟩ := opt_out A.out
    obtain ⟨z, e2, o⟩ := opt_out o
    have rx := see_ok A.rh r e1
    unfold cVals1 at e2
    split at e2
    · rename_i kvs
      split at e2
      rotate_left
      · cases e2
      rename_i hz
      cases e2
      obtain ⟨a, xs, rfl, ⟨ks, hk1, hk2⟩, rv⟩ := rx
      refine ⟨a, ks.zip xs, rfl, hk2, fun q hq => ?_⟩
      have ez : (ks.zip xs).map (·.2) = xs := List.map_snd_zip (by rw [keysK_len hk1, rv.length]; exact Nat.le_refl _)
      rw [ez]
      refine pure_out A.rh o _ _ (same_upd hq) ⟨q, xs, rfl, A.rh.fresh hq, upd_same, ?_, (rel_vals rv).stay (Grow.refl _ _) (Fm.new hq)⟩
      rw [List.length_map]; exact hz
    · cases e2
end
end Mn

namespace Mn
open PySem PySem.Spec PyProof.Rows L2

/-! ### enumerate(list) -/
def enumD : Nat → List D → List D
  | _, [] => []
  | i, d :: ds => .tup [.int (i : Nat), d] :: enumD (i + 1) ds
theorem enumD_len : ∀ (ds : List D) (i : Nat), (enumD i ds).length = ds.length
  | [], _ => rfl
  | _ :: ds, i => congrArg (· + 1) (enumD_len ds (i + 1))
theorem enumD_get : ∀ (ds : List D) (i j : Nat) (d : D), ds[j]? = some d → (enumD i ds)[j]? = some (.tup [.int ((i + j : Nat) : Nat), d])
  | [], _, _, _, e => by simp at e
  | x :: ds, i, 0, d, e => by simp at e; subst e; rfl
  | x :: ds, i, j + 1, d, e => by
    have := enumD_get ds (i + 1) j d (by simpa using e)
    simp only [enumD, List.getElem?_cons_succ]
    rw [this, show i + 1 + j = i + (j + 1) by omega]
def mEnum (f : FE) : FI := fun e vh => bnd (f e vh) fun w vh1 => match w with
  | .d (.lst ds) => .ok (enumD 0 ds) vh1
  | _ => .stuck
def enumI (w : W) (vh : VH) : Res (List D) := match w with
  | .d (.lst ds) => .ok (enumD 0 ds) vh
  | _ => .stuck
@[simp] theorem enumI_lst {ds : List D} {vh : VH} : enumI (.d (.lst ds)) vh = .ok (enumD 0 ds) vh := rfl
@[simp] theorem ev_enum {f : FE} {e : Env} {vh : VH} : mEnum f e vh = bnd (f e vh) enumI := rfl
section
variable {X : Cx} {c : Cn} {U : WX} {pos p tpos : Pos} {elts : List Expr} {kk : Nat} {a : Expr} {f : FE}
theorem mi_enum (hk : X.K = c.K) (hg : Gl X "enumerate") (hm : X.mg "enumerate" = none) (ha : PE X a (tM c U f)) (hs : starEach [a] X.env = [(false, eval a X.env)] := by rfl) : PI X (.Tuple elts kk tpos) (.Call (.Name "enumerate" p) [a] [] pos) (tMI c U (mEnum f)) :=
  pi_imp (pi_enum hg hm (ma_cons ha ma_nil (by rw [hs]; rfl)) hs) fun σ H R ⟨e, ρ, vh, he, hh, h⟩ => by
    refine ⟨e, ρ, vh, he, hh, ?_⟩
    unfold mEnum at h
    unfold mCons mNil
    cases q : f e vh with
    | stuck => rw [q] at h; exact h.elim
    | exn x vh' => rw [q] at h; exact h
    | ok w vh' =>
      rw [q, bnd_ok] at h
      rw [bnd_ok, bnd_ok]
      intro H' ρ' g f rh vs hr
      match vs, hr with
      | [v], ⟨r, _⟩ =>
        split at h
        · rename_i ds
          obtain ⟨a, xs, e1, n, hH, l, rr⟩ := id r
          subst e1
          refine ⟨a, xs, rfl, .of hH, h H' ρ' g f rh _ fun c' H2 ρ2 i ce g2 f2 fr => ?_⟩
          obtain ⟨a', xs', e1, n', hH', l', rr'⟩ := RelD.stayw g2 f2 (RelD.re ce r)
          cases e1
          have sq : SqL X.K H2 a xs' := .of hH'
          rw [enumD_len]
          refine ⟨fun hi => ⟨⟨xs', xs'[i]'(by rw [← rr'.length]; exact hi), sq, by simp [← rr'.length, hi]⟩, fun x H3 hy => ?_⟩, fun hi => ⟨xs', sq, by rw [← rr'.length]; exact hi⟩⟩
          obtain ⟨T, y, rfl, hT, rfl, hx⟩ := hy
          have hx' := hx xs' sq
          obtain ⟨d, h1, h2⟩ := rr'.get' hx'
          have sm := same_upd (o := .tup [.int ((i : Nat) : Int), y]) hT
          refine ⟨sm, .tup [.int ((i : Nat) : Int), d], by rw [enumD_get ds 0 i d h1, Nat.zero_add], T, _, rfl, fr T hT, upd_same, by show 2 ≤ sizeLine; decide, rfl, h2.stay (Grow.refl _ _) (Fm.same sm), trivial⟩
        · exact h.elim
end

/-! ### new dicts -/
/-- {}: it will change; t: its keys will be tuples -/
def mDic0 (t : Bool) : FE := fun _ vh => .ok (.ref vh.length) (vh ++ [.dic t []])
@[simp] theorem ev_dic0 {t : Bool} {e : Env} {vh : VH} : mDic0 t e vh = .ok (.ref vh.length) (vh ++ [.dic t []]) := rfl
/-- {}: it stays -/
def mDicE (t : Bool) : FE := fun _ vh => .ok (.d (.dic t [])) vh
@[simp] theorem ev_dicE {t : Bool} {e : Env} {vh : VH} : mDicE t e vh = .ok (.d (.dic t [])) vh := rfl
section
variable {X : Cx} {c : Cn} {U : WX} {pos : Pos}
theorem me_dic0 : PE X (.Dict [] [] pos) (tM c U (mDic0 false)) := pe_imp pe_dnewK fun σ H Q ⟨e, ρ, vh, he, hh, h⟩ p hp =>
  h _ _ (Grow.push hp) (Fm.new hp) (hh.push hp ⟨p, [], rfl, ⟨[], rfl, upd_same⟩, trivial⟩) _ ⟨by rw [List.length_append, hh.len]; exact Nat.lt_succ_self _, fun a ha => by rw [← hh.len] at ha; simp at ha; rw [ha]⟩
theorem me_dic0T : PE X (.Dict [] [] pos) (tM c U (mDic0 true)) := pe_imp pe_dnewT fun σ H Q ⟨e, ρ, vh, he, hh, h⟩ p hp =>
  h _ _ (Grow.push hp) (Fm.new hp) (hh.push hp ⟨p, [], rfl, ⟨[], rfl, upd_same⟩, trivial⟩) _ ⟨by rw [List.length_append, hh.len]; exact Nat.lt_succ_self _, fun a ha => by rw [← hh.len] at ha; simp at ha; rw [ha]⟩
theorem me_dicE : PE X (.Dict [] [] pos) (tM c U (mDicE false)) := pe_imp pe_dnewK fun σ H Q ⟨e, ρ, vh, he, hh, h⟩ p hp =>
  h _ _ (Grow.refl _ _) (Fm.new hp) (hh.same (same_upd hp)) _ ⟨p, [], rfl, hh.fresh hp, ⟨[], rfl, upd_same⟩, trivial⟩
end

/-! ### dict comprehensions -/
def mDComp (A : FTg) (t : FT) (fk fv : FE) (e : Env) : List D → VH → List (D × D) → Res (List (D × D))
  | [], vh, acc => .ok acc vh
  | d :: ds, vh, acc => match A d e with
    | none => .stuck
    | some e' => match t e' vh with
      | .ok true vh1 => match fk e' vh1 with
        | .ok (.d k) vh2 => match fv e' vh2 with
          | .ok (.d v) vh3 => match keyOf k with
            | some key => if acc.length < sizeLine then mDComp A t fk fv e ds vh3 (dPutK acc key k v) else .stuck
            | none => .stuck
          | _ => .stuck
        | _ => .stuck
      | .ok false vh1 => mDComp A t fk fv e ds vh1 acc
      | _ => .stuck
def dcR (mm : Bool) (r : Res (List (D × D))) : Res W := match r with
  | .ok kvs vh2 => if mm then .ok (.ref vh2.length) (vh2 ++ [.dic false kvs]) else .ok (.d (.dic false kvs)) vh2
  | _ => .stuck
def mDc (mm : Bool) (fi : FI) (A : FTg) (t : FT) (fk fv : FE) (vs : List Nat) : FE := fun e vh => bnd (fi e vh) fun ds vh1 => dcR mm (mDComp A t fk fv (wipeE e vs) ds vh1 [])
@[simp] theorem ev_dc {mm : Bool} {fi : FI} {A : FTg} {t : FT} {fk fv : FE} {vs : List Nat} {e : Env} {vh : VH} : mDc mm fi A t fk fv vs e vh = bnd (fi e vh) fun ds vh1 => dcR mm (mDComp A t fk fv (wipeE e vs) ds vh1 []) := rfl
@[simp] theorem dcR_f {kvs : List (D × D)} {vh : VH} : dcR false (.ok kvs vh) = .ok (.d (.dic false kvs)) vh := rfl
@[simp] theorem dcR_t {kvs : List (D × D)} {vh : VH} : dcR true (.ok kvs vh) = .ok (.ref vh.length) (vh ++ [.dic false kvs]) := rfl
section
variable {X : Cx} {c : Cn} {U : WX} {pos : Pos}
theorem RelDv.stayw' {H H' : Hp} {ρ ρ' : Rho} (g : Grow ρ H ρ') (f : Fw c H H' ρ) {xs : List (D × D)} {vs : List V} (h : RelDv c H ρ xs vs) : RelDv c H' ρ' xs vs := RelDv.stayw g f h
theorem dc_use {fi : FI} {A : FTg} {t : FT} {fk fv : FE} {vs ws : List Nat} {mm : Bool} (hvw : ∀ i ∈ ws, i ∈ vs) {σ : L2.St} {H : Hp} {Q : VK} (h : tM c U (mDc mm fi A t fk fv vs) σ H Q) : tMI c U fi σ H fun J H1 => ∀ Dd, H1 Dd = none → ∃ W : Nat → Nat → Hp → Prop, (∃ m, W 0 m (upd H1 Dd (.dK []))) ∧ ∀ i m H, W i m H →
    (J.stop i H ∧ Q (.ref Dd) H) ∨ (J.go i H ∧ ∃ Nx : Hp → Prop, (∀ H', Nx H' → ∃ m', m' < m ∧ W (i + 1) m' H') ∧ ∀ x H', J.yld i H x H' → (∃ hid, tMG ⟨c.K, c.mg, hid⟩ A ws x (L2.wipe σ vs) H' fun σ2 H2 => L2.wipe σ2 vs = L2.wipe σ vs ∧ (∃ hid, tMT ⟨c.K, c.mg, hid⟩ U0 t σ2 H2 fun b H3 =>
      if b = true then (∃ hid, tM ⟨c.K, c.mg, hid⟩ U0 fk σ2 H3 fun y H4 => ∃ hid, tM ⟨c.K, c.mg, hid⟩ U0 fv σ2 H4 fun z H5 => ∃ kvs k, y = kV k ∧ H5 Dd = some (.dK kvs) ∧ kvs.length < sizeLine ∧ Nx (upd H5 Dd (.dK (putK kvs k z)))) else Nx H3))) := by
  obtain ⟨e, ρ, vh, he, hh, h⟩ := h
  refine (useIE he hh h).mono fun J H1 ⟨ds, vh1, ρ1, fd, A0, g1, f1⟩ Dd hD => ?_
  have o := A0.out
  cases q0 : mDComp A t fk fv (wipeE e vs) ds vh1 [] with
  | exn x h => rw [q0] at o; exact o.elim
  | stuck => rw [q0] at o; exact o.elim
  | ok kv0 vh0 =>
  rw [q0] at o
  have o : Out c σ H1 ρ1 U (if mm = true then .ok (.ref vh0.length) (vh0 ++ [.dic false kv0]) else .ok (.d (.dic false kv0)) vh0) (KW c Q) := o
  let St : Nat → Hp → Prop := fun i H2 => ∃ ρ2 vh2 acc ks us, Grow ρ1 H1 ρ2 ∧ Fm H1 H2 ρ1 ∧ RelE (c.hide Dd) H2 ρ2 (wipeE e vs) (L2.wipe σ vs) ∧ RelH (c.hide Dd) H2 ρ2 vh2 ∧ H2 Dd = some (.dK (ks.zip us)) ∧ keysK acc = some ks ∧ RelDv (c.hide Dd) H2 ρ2 acc us ∧
    mDComp A t fk fv (wipeE e vs) (ds.drop i) vh2 acc = .ok kv0 vh0
  refine ⟨fun i m H2 => m = ds.length - i ∧ i ≤ ds.length ∧ St i H2, ⟨ds.length, by simp, Nat.zero_le _, ρ1, vh1, [], [], [], Grow.refl _ _, Fm.new hD, ?_, A0.rh.hide hD, upd_same, rfl, trivial, q0⟩, ?_⟩
  · exact RelE.stay (Grow.refl _ _) (Fm.new hD) ((A0.re.wipe vs).conv (c' := c.hide Dd) (H' := H1) (.refl _) fun x v hx => RelD.re (Cn.ext_hide hD) hx)
  rintro i m H2 ⟨rfl, hi, ρ2, vh2, acc, ks, us, g2, f2, re, rh, hDd, hks, ra, hq⟩
  obtain ⟨k1, k2⟩ := fd (c.hide Dd) H2 ρ2 i (Cn.ext_hide hD) g2 f2.w rh.fr
  have hDρ : some Dd ∉ ρ2 := (rh.hid Dd List.mem_cons_self).2
  by_cases hlt : i < ds.length
  · obtain ⟨go, yl⟩ := k1 hlt
    refine .inr ⟨go, St (i + 1), fun H' a => ⟨ds.length - (i + 1), by omega, rfl, hlt, a⟩, fun x H' hy => ?_⟩
    obtain ⟨sm, d, hd, rd⟩ := yl x H' hy
    rw [List.drop_eq_getElem_cons hlt] at hq
    have ed : ds[i] = d := by rw [List.getElem?_eq_getElem hlt] at hd; exact Option.some.inj hd
    rw [ed] at hq
    have fs : Fm H2 H' ρ2 := Fm.same sm
    have g0 : Grow ρ2 H2 ρ2 := Grow.refl _ _
    have re' := re.stay g0 fs
    have rh' := rh.same sm
    simp only [mDComp] at hq
    cases qa : A d (wipeE e vs) with
    | none => rw [qa] at hq; cases hq
    | some e' =>
    rw [qa] at hq
    try dsimp only at hq
    refine ⟨Dd :: c.hid, wipeE e vs, ρ2, d, e', re', rd, qa, fun σ2 re2 sb => ⟨wipe_same (sb.mono hvw), Dd :: c.hid, e', ρ2, vh2, re2, rh', ?_⟩⟩
    cases qt : t e' vh2 with
    | stuck => rw [qt] at hq; cases hq
    | exn x h => rw [qt] at hq; cases hq
    | ok b vh3 =>
    rw [qt] at hq
    try dsimp only at hq
    intro H3 ρ3 g3 f3 rh3
    have g23 : Grow ρ2 H2 ρ3 := g0.trans fs g3
    have f23 : Fm H2 H3 ρ2 := Fm.trans g0 fs f3
    have fD3 : H3 Dd = some (.dK (ks.zip us)) := f23 Dd _ hDρ hDd
    have re3 : RelE (c.hide Dd) H3 ρ3 (wipeE e vs) (L2.wipe σ vs) := re.stay g23 f23
    cases b with
    | false => exact iteF ⟨ρ3, vh3, acc, ks, us, g2.trans f2 g23, Fm.trans g2 f2 f23, re3, rh3, fD3, hks, ra.stay g23 f23, hq⟩
    | true =>
      dsimp only at hq
      have re23 := re2.stay g3 f3
      refine iteT ⟨Dd :: c.hid, e', ρ3, vh3, re23, rh3, ?_⟩
      cases qf : fk e' vh3 with
      | stuck => rw [qf] at hq; cases hq
      | exn x h => rw [qf] at hq; cases hq
      | ok w vh4 =>
      rw [qf] at hq
      cases w with
      | ref k => cases hq
      | d y0 =>
      try dsimp only at hq
      intro H4 ρ4 g4 f4 rh4 y ry
      refine ⟨Dd :: c.hid, e', ρ4, vh4, re23.stay g4 f4, rh4, ?_⟩
      cases qg : fv e' vh4 with
      | stuck => rw [qg] at hq; cases hq
      | exn x h => rw [qg] at hq; cases hq
      | ok w vh5 =>
      rw [qg] at hq
      cases w with
      | ref k => cases hq
      | d z0 =>
      try dsimp only at hq
      cases qk : keyOf y0 with
      | none => rw [qk] at hq; cases hq
      | some key =>
      rw [qk] at hq
      try dsimp only at hq
      split at hq
      rotate_left
      · cases hq
      rename_i hlen
      intro H5 ρ5 g5 f5 rh5 z rz
      have g25 : Grow ρ2 H2 ρ5 := (g23.trans f23 g4).trans (Fm.trans g23 f23 f4) g5
      have f25 : Fm H2 H5 ρ2 := Fm.trans (g23.trans f23 g4) (Fm.trans g23 f23 f4) f5
      have fD5 : H5 Dd = some (.dK (ks.zip us)) := f25 Dd _ hDρ hDd
      have ra5 : RelDv (c.hide Dd) H5 ρ5 acc us := ra.stay g25 f25
      obtain ⟨ks', us', p1, p2, p3⟩ := putK_K (x := y0) (d := z0) (v := z) qk rz hks ra5
      refine ⟨ks.zip us, key, keyOf_v ry qk, fD5, by rw [List.length_zip, keysK_len hks, ← ra5.length, Nat.min_self]; exact hlen, ρ5, vh5, dPutK acc key y0 z0, ks', us', g2.trans f2 g25, ?_, RelE.stayw (Grow.refl _ _) Fw.hid (re.stay g25 f25), rh5.wr, ?_, p1, RelDv.stayw (Grow.refl _ _) Fw.hid p3, hq⟩
      · intro b u hb hu
        by_cases z : b = Dd
        · subst z; rw [hD] at hu; cases hu
        · rw [upd_ne z]; exact Fm.trans g2 f2 f25 b u hb hu
      · rw [upd_same, p2]
  · have ei : i = ds.length := by omega
    subst ei
    rw [List.drop_length] at hq
    cases hq
    refine .inl ⟨k2 (Nat.le_refl _), ?_⟩
    have ra' : RelDv c H2 ρ2 kv0 us := RelDv.mv (Cn.Ext.mv Cn.ext_bare) ra
    have rh' : RelH c H2 ρ2 vh0 := RelH.bare rh
    have hDh : Dd ∉ c.hid := (A0.rh.fresh hD).2
    cases mm with
    | false =>
      rw [if_neg Bool.false_ne_true] at o
      exact o H2 ρ2 g2 f2 rh' (.ref Dd) ⟨Dd, us, rfl, ⟨hDρ, hDh⟩, ⟨ks, hks, hDd⟩, ra'⟩
    | true =>
      rw [if_pos rfl] at o
      refine o H2 (ρ2 ++ [some Dd]) ⟨by have := g2.len; simp; omega, fun i hi => ?_, fun a ha => ?_⟩ f2 (rh.show hDh ⟨Dd, us, rfl, ⟨ks, hks, hDd⟩, RelDv.mv Mv.show ra⟩) (.ref Dd) ⟨by simp [rh.len], fun a ha => ?_⟩
      · rw [List.getElem?_append_left (Nat.lt_of_lt_of_le hi g2.len)]; exact g2.old i hi
      · rcases List.mem_append.mp ha with z | z
        · exact g2.new a z
        · simp at z; subst z; exact .inr hD
      · rw [← rh.len, List.getElem?_append_right (Nat.le_refl _)] at ha
        simp at ha; rw [ha]
theorem me_dc {kx vx tg iter : Expr} {ifs : List Expr} {scope : Scope} {own : List (Str × Nat)} {fi : FI} {A : FTg} {t : FT} {fk fv : FE} {ws : List Nat} {vs : List Nat} (mm : Bool) (hc : X.calm = true) (hN : X.N.Nodup) (hi : PI X tg iter (tMI c U fi)) (ok : BlkOk X.N X.env.scope scope own)
    (hg : ∀ (s : Shared) (H : Hp) (C : Addr) (cl : List (Str × Addr)) (fp : List Addr) (hid : List Addr), PG (X.blk s H scope (compEnvC scope cl C X.env) fp) tg (tMG ⟨c.K, c.mg, hid⟩ A ws))
    (ht : ∀ (s : Shared) (H : Hp) (C : Addr) (cl : List (Str × Addr)) (fp : List Addr) (hid : List Addr), PTs (X.blk s H scope (compEnvC scope cl C X.env) fp) ifs (tMT ⟨c.K, c.mg, hid⟩ U0 t))
    (hk : ∀ (s : Shared) (H : Hp) (C : Addr) (cl : List (Str × Addr)) (fp : List Addr) (hid : List Addr), PE (X.blk s H scope (compEnvC scope cl C X.env) fp) kx (tM ⟨c.K, c.mg, hid⟩ U0 fk))
    (hv : ∀ (s : Shared) (H : Hp) (C : Addr) (cl : List (Str × Addr)) (fp : List Addr) (hid : List Addr), PE (X.blk s H scope (compEnvC scope cl C X.env) fp) vx (tM ⟨c.K, c.mg, hid⟩ U0 fv))
    (hvs : own.map (·.2) = vs := by rfl) (hvw : ∀ i ∈ ws, i ∈ vs := by decide) (hs : ∀ x, foldedSetIterable iter X.env x = pure x := by intro _; rfl) :
    PE X (.DictComp kx vx [⟨tg, iter, ifs, 0⟩] scope pos) (tM c U (mDc mm fi A t fk fv vs)) := by
  subst hvs
  exact pe_imp (pe_dc hc hN hi ok (fun s H C cl fp => pg_ex (hg s H C cl fp)) (fun s H C cl fp => pts_ex (ht s H C cl fp)) (fun s H C cl fp => pe_ex (hk s H C cl fp)) (fun s H C cl fp => pe_ex (hv s H C cl fp)) hs) fun σ H Q h => dc_use hvw h
end
end Mn

namespace Mn
open PySem PySem.Spec PyProof.Rows L2

/-! ### own methods behind in, len, [], repr, ==, () -/
/-- the special method m of the class n -/
def SEv (X : Cx) (k : Nat) (m n : Str) (F : FC) : Prop := ∃ (C f : Addr), X.mg n = some (.ref C) ∧ Cls X.K C ∧ PySem.W.findIn X.K (.ref C) m = some (some (.ref f)) ∧ PySem.W.isFn X.K (.ref f) = true ∧ PySem.W.fnIn X.K f = true ∧ FnC X.prog X.w X.K X.mg X.base k f [] F
def SOk (X : Cx) (k : Nat) (m : Str) (tbl : List (Str × FC)) : Prop := ∀ n F, tbl.lookup n = some F → SEv X k m n F
theorem SOk.nil {X : Cx} {k : Nat} {m : Str} : SOk X k m [] := fun _ _ h => nomatch h
theorem SEv.mono {X : Cx} {j k : Nat} {m n : Str} {F : FC} (h : SEv X j m n F) (l : j ≤ k) : SEv X k m n F :=
  let ⟨C, f, h1, h2, h3, h4, h5, h6⟩ := h
  ⟨C, f, h1, h2, h3, h4, h5, h6.mono l⟩
theorem SOk.cons {X : Cx} {k : Nat} {m n : Str} {F : FC} {tbl : List (Str × FC)} (h : SEv X k m n F) (t : SOk X k m tbl) : SOk X k m ((n, F) :: tbl) := fun x G e => by
  rw [List.lookup_cons] at e
  cases q : x == n with
  | true => rw [q] at e; cases e; rw [beq_iff_eq.mp q]; exact h
  | false => rw [q] at e; exact t x G e
/-- the own method is called: o the object, ws the other values -/
def ownC (tbl : List (Str × FC)) (vh : VH) (w : W) (ws : List W) (k : W → VH → Res W) : Res W := opt (insW vh w) fun p => opt (tbl.lookup p.1) fun F => bnd (F (w :: ws) [] vh) k
def boolW (n : Bool) (w : W) (vh : VH) : Res W := match w with
  | .d (.bl b) => .ok (.d (.bl (if n then !b else b))) vh
  | _ => .stuck
@[simp] theorem boolW_b {n b : Bool} {vh : VH} : boolW n (.d (.bl b)) vh = .ok (.d (.bl (if n then !b else b))) vh := rfl
def intW (w : W) (vh : VH) : Res W := match w with
  | .d (.int i) => if 0 ≤ i ∧ i < 2 ^ 63 then .ok (.d (.int i)) vh else .stuck
  | _ => .stuck
def strW (w : W) (vh : VH) : Res W := match w with
  | .d (.str z) => .ok (.d (.str z)) vh
  | _ => .stuck
def mInO (tbl : List (Str × FC)) (n : Bool) (fa fb : FE) : FE := fun e vh => bnd (fa e vh) fun w1 vh1 => bnd (fb e vh1) fun w2 vh2 => ownC tbl vh2 w2 [w1] (boolW n)
def mLenO (tbl : List (Str × FC)) (fa : FE) : FE := fun e vh => bnd (fa e vh) fun w vh1 => ownC tbl vh1 w [] intW
def mReprO (tbl : List (Str × FC)) (fa : FE) : FE := fun e vh => bnd (fa e vh) fun w vh1 => ownC tbl vh1 w [] strW
def mGetO (tbl : List (Str × FC)) (fa fb : FE) : FE := fun e vh => bnd (fa e vh) fun w1 vh1 => bnd (fb e vh1) fun w2 vh2 => ownC tbl vh2 w1 [w2] fun w vh => .ok w vh
def mCallO (tbl : List (Str × FC)) (fo : FE) (fa : FA) : FE := fun e vh => bnd (fo e vh) fun w vh1 => bnd (fa e vh1) fun ws vh2 => ownC tbl vh2 w ws fun w vh => .ok w vh
section
variable {tbl : List (Str × FC)} {n : Bool} {fa fb : FE} {ga : FA} {e : Env} {vh : VH}
@[simp] theorem ev_inO : mInO tbl n fa fb e vh = bnd (fa e vh) fun w1 vh1 => bnd (fb e vh1) fun w2 vh2 => ownC tbl vh2 w2 [w1] (boolW n) := rfl
@[simp] theorem ev_lenO : mLenO tbl fa e vh = bnd (fa e vh) fun w vh1 => ownC tbl vh1 w [] intW := rfl
@[simp] theorem ev_reprO : mReprO tbl fa e vh = bnd (fa e vh) fun w vh1 => ownC tbl vh1 w [] strW := rfl
@[simp] theorem ev_getO : mGetO tbl fa fb e vh = bnd (fa e vh) fun w1 vh1 => bnd (fb e vh1) fun w2 vh2 => ownC tbl vh2 w1 [w2] fun w vh => .ok w vh := rfl
@[simp] theorem ev_callO : mCallO tbl fa ga e vh = bnd (fa e vh) fun w vh1 => bnd (ga e vh1) fun ws vh2 => ownC tbl vh2 w ws fun w vh => .ok w vh := rfl
end
section
variable {X : Cx} {U : WX} {c : Cn} {k : Nat} {tbl : List (Str × FC)} {m : Str} {a b e : Expr} {es : List Expr} {fa fb : FE} {ga : FA} {pos p : Pos}
/-- the object at hand, the def behind the method, and how it runs -/
theorem own_run {pins : List (Addr × Obj)} {σ : L2.St} {H : Hp} {ρ : Rho} {s : Shared} {vh : VH} {w : W} {x : V} {u : Value} {ws : List W} {K : W → VH → Res W} {Q : VK} (hc : c.K = X.K) (hcm : c.mg = X.mg) (M : SOk X k m tbl) (tk : Takes X U)
    (I : L2.Inv X pins σ H s) (rx : RelV x u) (r : RelW c H ρ w x) (rh : RelH c H ρ vh) (o : Out c σ H ρ U (ownC tbl vh w ws K) (KW c Q)) :
    ∃ (a C f : Addr) (ox : Obj) (od : Option Obj) (mf : Str → Option Value), u = .ref a ∧ x = .ref a ∧ PySem.W.InstAt s.heap a ox C od ∧ ox.data = .plain ∧ (∃ od', od = some od') ∧ Cls X.K C ∧ PySem.W.findIn X.K (.ref C) m = some (some (.ref f)) ∧ PySem.W.isFn X.K (.ref f) = true ∧ PySem.W.fnIn X.K f = true ∧ Fr X.base X.env.locals s.heap mf ∧
      ∀ (A : Around) (us : List Value) (vs : List V), Room k A → NoGuard A → A.frames = X.A.frames → Vals vs us → RelWs c H ρ ws vs →
        wpAny (model X.prog X.w) A (call (.ref f) (.ref a :: us)) (fun r s' => ∃ v H' ρ' vh' w', L2.Inv X pins σ H' s' ∧ RelV v r ∧ RelW c H' ρ' w' v ∧ RelH c H' ρ' vh' ∧ Out c σ H' ρ' U (K w' vh') (KW c Q)) X.xe s := by
  obtain ⟨p, hp, o⟩ := opt_out o
  obtain ⟨F, hF, o⟩ := opt_out o
  obtain ⟨C, f, m1, m2, m3, m4, m5, m6⟩ := M p.1 F hF
  obtain ⟨a, C', dx, xs, ex, q1, q2⟩ := ins_at rh r hp
  rw [hcm] at q1
  cases m1.symm.trans q1
  subst ex
  obtain rfl : u = Value.ref a := rx
  obtain ⟨mA, J, _⟩ := ins_get I.hok q2
  obtain ⟨od, J, _⟩ := J.look
  obtain ⟨mf, hF⟩ := I.fr
  refine ⟨a, C, f, _, some od, mf, rfl, rfl, J, rfl, ⟨_, rfl⟩, m2, m3, m4, m5, hF, fun A us vs hr ng hf rv rs => ?_⟩
  have e0 : Env0 X.prog X.w X.K X.mg X.base A X.stack s H := by
    have e := I.env0
    exact ⟨by rw [hf]; exact e.frames, e.mod, e.bs, e.bsz, e.funs, e.frf, e.hok, e.bare⟩
  cases q : F (w :: ws) [] vh with
  | stuck => rw [q] at o; exact o.elim
  | exn y vh' =>
    rw [q] at o
    refine wpAny_call (codeAny_mono (m6.go A X.stack s H (.ref a :: us) [] (.ref a :: vs) [] (fun _ _ => False) (WE U σ) hr ng e0 (.cons rfl rv) .nil ⟨c, hc, hcm, w :: ws, [], ρ, vh, ⟨r, rs⟩, trivial, rh, by rw [q]; exact o⟩) fun r s' hq => ?_)
    cases r with
    | error er => exact passAt tk σ pins H s er s' I hq
    | ok fl => cases fl with
      | ret u => obtain ⟨_, _, _, _, _, _, _, z⟩ := hq; exact z.elim
      | next => exact hq.elim
      | brk => exact hq.elim
      | cont => exact hq.elim
  | ok w' vh' =>
    rw [q] at o
    refine wpAny_call (codeAny_mono (m6.go A X.stack s H (.ref a :: us) [] (.ref a :: vs) [] (fun v H' => ∃ ρ', Grow ρ H ρ' ∧ Fm H H' ρ ∧ RelH c H' ρ' vh' ∧ RelW c H' ρ' w' v) (WE U σ) hr ng e0 (.cons rfl rv) .nil ⟨c, hc, hcm, w :: ws, [], ρ, vh, ⟨r, rs⟩, trivial, rh, by
      rw [q]; exact fun H' ρ' g f rh' v rv' => ⟨ρ', g, f, rh', rv'⟩⟩) fun r s' hq => ?_)
    cases r with
    | error er => exact passAt tk σ pins H s er s' I hq
    | ok fl => cases fl with
      | ret u =>
        obtain ⟨v, H', I', rv', ρ', g, f', rh', rw'⟩ := I.after hq
        exact ⟨v, H', ρ', vh', w', I', rv', rw', rh', o.later g f'⟩
      | next => exact hq.elim
      | brk => exact hq.elim
      | cont => exact hq.elim
theorem bool_out {σ : L2.St} {H : Hp} {ρ : Rho} {vh : VH} {n : Bool} {w : W} {v : V} {r : Value} {Q : VK} (rv : RelV v r) (rw' : RelW c H ρ w v) (rh : RelH c H ρ vh) (o : Out c σ H ρ U (boolW n w vh) (KW c Q)) : ∃ bb, r = .bool bb ∧ Q (.bl (if n then !bb else bb)) H := by
  unfold boolW at o
  split at o
  · rename_i bb
    obtain rfl : v = .bl bb := rw'
    cases rv
    exact ⟨bb, rfl, o.here rh _ rfl⟩
  · exact o.elim
theorem own_in {pins : List (Addr × Obj)} {σ : L2.St} {H : Hp} {ρ : Rho} {s : Shared} {vh : VH} {w1 w2 : W} {x y : V} {v u : Value} {n : Bool} {Q : VK} (hc : c.K = X.K) (hcm : c.mg = X.mg) (M : SOk X k "__contains__" tbl) (hr : Room k X.A) (ng : NoGuard X.A) (tk : Takes X U)
    (I : L2.Inv X pins σ H s) (rx : RelV x v) (ry : RelV y u) (r1 : RelW c H ρ w1 x) (r2 : RelW c H ρ w2 y) (rh : RelH c H ρ vh) (o : Out c σ H ρ U (ownC tbl vh w2 [w1] (boolW n)) (KW c Q)) :
    wpAny (model X.prog X.w) X.A (compareOp (if n then .NotIn else .In) v u) (EP X pins σ Q) X.xe s := by
  obtain ⟨a, C, f, ox, od, mf, rfl, rfl, J, _, _, cl, h1, h2, h3, F, run⟩ := own_run hc hcm M tk I ry r2 rh o
  have z := run X.A [v] [x] hr ng rfl (.cons rx .nil) ⟨r1, trivial⟩
  cases n with
  | false =>
    refine PySem.W.in_K F I.ok.mod.kin J h1 h2 (wpAny_mono z (fun r s' ⟨v', H', ρ', vh', w', I', rv, rw', rh', o'⟩ => ?_) fun _ _ y => y)
    obtain ⟨bb, rfl, q⟩ := bool_out rv rw' rh' o'
    exact wpAny_truthy_bool ⟨.bl bb, H', I', rfl, q⟩
  | true =>
    refine PySem.W.notIn_K F I.ok.mod.kin J h1 h2 (wpAny_mono z (fun r s' ⟨v', H', ρ', vh', w', I', rv, rw', rh', o'⟩ => ?_) fun _ _ y => y)
    obtain ⟨bb, rfl, q⟩ := bool_out rv rw' rh' o'
    exact wpAny_truthy_bool ⟨.bl (!bb), H', I', rfl, q⟩
theorem me_inO (n : Bool) (hc : c.K = X.K) (hcm : c.mg = X.mg) (M : SOk X k "__contains__" tbl) (hr : Room k X.A) (ng : NoGuard X.A) (tk : Takes X U) (ha : PE X a (tM c U fa)) (hb : PE X b (tM c U fb)) (hm : behindInMarks (if n then .NotIn else .In) b = false := by first | rfl | exact nobehind _ (by decide) (by decide)) : PE X (.Compare a [if n then .NotIn else .In] [b] pos) (tM c U (mInO tbl n fa fb)) := by
  refine ⟨fun pins s σ H Q I ⟨en, ρ, vh, hE, hh, h⟩ => wpAny_Compare1 (thn (ha.run pins s σ H _ I (use hE hh h)) fun v s1 ⟨x, H1, I1, rx, w1, vh1, ρ1, r1, A, g1, f1⟩ => thn (hb.run pins s1 σ H1 _ I1 (use A.re A.rh A.out)) fun u s2 ⟨y, H2, I2, ry, w2, vh2, ρ2, r2, B, g2, f2⟩ => ?_) hm⟩
  exact own_in hc hcm M hr ng tk I2 rx ry (r1.stay g2 f2) r2 B.rh B.out
theorem mt_inO (n : Bool) (hc : c.K = X.K) (hcm : c.mg = X.mg) (M : SOk X k "__contains__" tbl) (hr : Room k X.A) (ng : NoGuard X.A) (tk : Takes X U) (ha : PE X a (tM c U fa)) (hb : PE X b (tM c U fb)) (hm : behindInMarks (if n then .NotIn else .In) b = false := by first | rfl | exact nobehind _ (by decide) (by decide)) : PT X (.Compare a [if n then .NotIn else .In] [b] pos) (tMT c U (mTest (mInO tbl n fa fb))) := by
  refine ⟨fun pins s σ H Q I h => ?_⟩
  obtain ⟨en, ρ, vh, hE, hh, h⟩ := test_use h
  refine wpAny_isTrue_Compare1 (thn (ha.run pins s σ H _ I (use hE hh h)) fun v s1 ⟨x, H1, I1, rx, w1, vh1, ρ1, r1, A, g1, f1⟩ => thn (hb.run pins s1 σ H1 _ I1 (use A.re A.rh A.out)) fun u s2 ⟨y, H2, I2, ry, w2, vh2, ρ2, r2, B, g2, f2⟩ => ?_) hm
  refine thn (own_in hc hcm M hr ng tk I2 rx ry (r1.stay g2 f2) r2 B.rh B.out) fun r s3 ⟨z, H3, I3, rz, kk, e, q⟩ => ?_
  subst e
  cases rz
  exact wpAny_truthy_bool ⟨H3, I3, q⟩
theorem me_lenO (hc : c.K = X.K) (hcm : c.mg = X.mg) (M : SOk X k "__len__" tbl) (hr : Room (k + 1) X.A) (ng : NoGuard X.A) (tk : Takes X U) (hg : Gl X "len") (hm : X.mg "len" = none) (ha : PE X a (tM c U fa))
    (he : starEach [a] X.env = (false, eval a X.env) :: starEach [] X.env := by rfl) : PE X (.Call (.Name "len" p) [a] [] pos) (tM c U (mLenO tbl fa)) := by
  refine ⟨fun pins s σ H Q I ⟨en, ρ, vh, hE, hh, h⟩ => wpAny_Call_Name_kw (ld_blt I hg hm bt_len (PyProof.Rows.callWith_builtin1 ?_ he rfl) (by decide) (by decide))⟩
  rw [he]
  show wpAny _ _ (spliced ((false, eval a X.env) :: backTo pos (starEach [] X.env))) _ _ s
  refine Calls.spliced_cons (thn (ha.run pins s σ H _ I (use hE hh h)) fun u s1 ⟨x, H1, I1, rx, w, vh1, ρ1, r, A, g1, f1⟩ => Calls.spliced_nil ?_)
  obtain ⟨a, C, f, ox, od, mf, rfl, rfl, J, _, _, cl, h1, h2, h3, F, run⟩ := own_run (ws := []) hc hcm M tk I1 rx r A.rh A.out
  refine PySem.W.len_K F I1.ok.mod.kin J h1 h2 (wpAny_mono (run X.A.in1 [] [] hr.in1 ng.in1 rfl .nil trivial) (fun r s' ⟨v', H', ρ', vh', w', I', rv, rw', rh', o'⟩ => ?_) fun _ _ y => y)
  unfold intW at o'
  split at o'
  · rename_i i
    split at o'
    · rename_i hi
      obtain rfl : v' = .int i := rw'
      obtain ⟨t, rfl⟩ := rv
      exact ⟨hi, ⟨.int i, H', I'.tok _, ⟨_, rfl⟩, o'.here rh' _ rfl⟩⟩
    · exact o'.elim
  · exact o'.elim
theorem me_reprO (hc : c.K = X.K) (hcm : c.mg = X.mg) (M : SOk X k "__repr__" tbl) (hr : Room (k + 1) X.A) (hu : X.A.units + 65 < cLine) (ng : NoGuard X.A) (tk : Takes X U) (hg : Gl X "repr") (hm : X.mg "repr" = none) (ha : PE X a (tM c U fa))
    (he : starEach [a] X.env = (false, eval a X.env) :: starEach [] X.env := by rfl) : PE X (.Call (.Name "repr" p) [a] [] pos) (tM c U (mReprO tbl fa)) := by
  refine ⟨fun pins s σ H Q I ⟨en, ρ, vh, hE, hh, h⟩ => wpAny_Call_Name_kw (ld_blt I hg hm bt_repr (PyProof.Rows.callWith_builtin1 ?_ he rfl) (by decide) (by decide))⟩
  rw [he]
  show wpAny _ _ (spliced ((false, eval a X.env) :: backTo pos (starEach [] X.env))) _ _ s
  refine Calls.spliced_cons (thn (ha.run pins s σ H _ I (use hE hh h)) fun u s1 ⟨x, H1, I1, rx, w, vh1, ρ1, r, A, g1, f1⟩ => Calls.spliced_nil ?_)
  obtain ⟨a, C, f, ox, od, mf, rfl, rfl, J, _, _, cl, h1, h2, h3, F, run⟩ := own_run (ws := []) hc hcm M tk I1 rx r A.rh A.out
  refine PySem.W.repr_K (by show X.A.units + 1 < cLine; omega) F I1.ok.mod.kin J h1 h2 (wpAny_mono (run X.A.in1 [] [] hr.in1 ng.in1 rfl .nil trivial) (fun r s' ⟨v', H', ρ', vh', w', I', rv, rw', rh', o'⟩ => ?_) fun _ _ y => y)
  unfold strW at o'
  split at o'
  · rename_i z
    obtain ⟨rfl, hz⟩ := id rw'
    obtain ⟨t, rfl⟩ := rv
    exact ⟨.str z, H', I', ⟨_, rfl⟩, o'.here rh' _ ⟨rfl, hz⟩⟩
  · exact o'.elim
theorem me_getO (hc : c.K = X.K) (hcm : c.mg = X.mg) (M : SOk X k "__getitem__" tbl) (hr : Room (k + 1) X.A) (ng : NoGuard X.A) (tk : Takes X U) (ha : PE X a (tM c U fa)) (hb : PE X b (tM c U fb))
    (hsl : ∀ a i, subscripted b true (.ref a) i = runValue (.builtin "lifetime.subscript" ⟨[.ref a, i], []⟩) := by intro _ _; with_unfolding_all rfl) : PE X (.Subscript a b pos) (tM c U (mGetO tbl fa fb)) := by
  refine ⟨fun pins s σ H Q I ⟨en, ρ, vh, hE, hh, h⟩ => Subscript_ (thn (ha.run pins s σ H _ I (use hE hh h)) fun v s1 ⟨x, H1, I1, rx, w1, vh1, ρ1, r1, A, g1, f1⟩ => thn (hb.run pins s1 σ H1 _ I1 (use A.re A.rh A.out)) fun u s2 ⟨y, H2, I2, ry, w2, vh2, ρ2, r2, B, g2, f2⟩ => ?_)⟩
  obtain ⟨a, C, f, ox, od, mf, rfl, rfl, J, _, _, cl, h1, h2, h3, F, run⟩ := own_run (ws := [w2]) hc hcm M tk I2 rx (r1.stay g2 f2) B.rh B.out
  refine PySem.W.sub_K F I2.ok.mod.kin J h1 h3 h2 (wpAny_mono (run X.A.in1 [u] [y] hr.in1 ng.in1 rfl (.cons ry .nil) ⟨r2, trivial⟩) (fun r s' ⟨v', H', ρ', vh', w', I', rv, rw', rh', o'⟩ => ?_) fun _ _ y => y) (hsl _ _)
  exact ⟨v', H', I', rv, o'.here rh' _ rw'⟩
end
end Mn

namespace Mn
open PySem PySem.Spec PyProof.Rows L2

/-! ### what the generator's text is over -/
structure KClass (K : PySem.W.Frag) (mg : Str → Option Value) (n : Str) (C : Addr) : Prop where
  m : mg n = some (.ref C)
  cls : Cls K C
structure GFun (K : PySem.W.Frag) (mg : Str → Option Value) (x : Str) (st : Stmt) (dd : List D) (kd : List (Str × D)) (f : Addr) (fd : FuncData) : Prop where
  df : GDf K mg x x st dd kd f fd
  m : mg x = some (.ref f)
structure GMth (K : PySem.W.Frag) (mg : Str → Option Value) (x qual : Str) (st : Stmt) (dd : List D) (kd : List (Str × D)) (C f : Addr) (fd : FuncData) : Prop where
  df : GDf K mg x qual st dd kd f fd
  mt : Meth K C x f
  fi : PySem.W.fnIn K f = true
structure GSta (K : PySem.W.Frag) (mg : Str → Option Value) (cl x qual : Str) (st : Stmt) (dd : List D) (kd : List (Str × D)) (f : Addr) (fd : FuncData) : Prop where
  df : GDf K mg x qual st dd kd f fd
  S : SMet K mg cl x f
section
variable {K : PySem.W.Frag} {mg : Str → Option Value} {h : Heap} {x qual cl : Str} {st : Stmt} {f C p : Addr} {oc : Value} {od an : Option Addr} {osl : Array (Option Value)} {dV kV doc pm cdv ct : Value} {dd : List D} {kd : List (Str × D)}
theorem pos_no : PosOk K mg .none [] := rfl
theorem kwd_no : KwdOk K mg kV [] := trivial
theorem kwd_of {Z : Addr} {q : Str × D} {r : List (Str × D)} (h : KwOk K mg Z (q :: r)) : KwdOk K mg (.ref Z) (q :: r) := ⟨Z, rfl, h⟩
theorem relDs_valsD {c : Cn} {H : Hp} {ρ : Rho} {us : List Value} {xs : List D} (h : valsD us = some xs) : Vals (absVs us) us ∧ RelDs c H ρ xs (absVs us) := valsD_ok h
/-- flat positional defaults -/
theorem pos_of {T : Addr} {odT : Option Addr} {its : Array Value} {n : Nat} {slT : Array (Option Value)} {d : D} {ds : List D} (e2 : K.lookup T = some ⟨.type "tuple", odT, .seq its n, slT⟩) (e : valsD its.toList = some (d :: ds)) : PosOk K mg (.ref T) (d :: ds) := by
  refine ⟨T, _, its.toList, n, absVs its.toList, rfl, e2, rfl, (valsD_ok (c := ⟨K, mg, []⟩) (H := fun _ => none) (ρ := []) e).1, fun hid H ρ => (valsD_ok (c := ⟨K, mg, hid⟩) (H := H) (ρ := ρ) e).2⟩
/-- one positional default, a tuple of flat values -/
theorem pos_tup {T a : Addr} {odT od2 : Option Addr} {its its2 : Array Value} {n n2 : Nat} {slT sl2 : Array (Option Value)} {ds : List D} (e2 : K.lookup T = some ⟨.type "tuple", odT, .seq its n, slT⟩) (e3 : its.toList = [.ref a]) (e4 : K.lookup a = some ⟨.type "tuple", od2, .seq its2 n2, sl2⟩)
    (e : valsD its2.toList = some ds) (z : decide (its2.size ≤ sizeLine) = true) : PosOk K mg (.ref T) [.ctp ds] := by
  refine ⟨T, _, its.toList, n, [.ref a], rfl, e2, rfl, by rw [e3]; exact .cons rfl .nil, fun hid H ρ => ?_⟩
  obtain ⟨r1, r2⟩ := valsD_ok (c := ⟨K, mg, hid⟩) (H := H) (ρ := ρ) e
  refine ⟨⟨a, absVs its2.toList, rfl, ⟨_, its2, n2, e4, rfl, rfl, of_decide_eq_true z, r1⟩, ?_, r2⟩, trivial⟩
  rw [r2.length, r1.length]
  simpa using of_decide_eq_true z
theorem gdf_of (l : K.lookup f = some ⟨oc, od, .func (PySem.W.fnOf x qual (defArgs st) (defBody st) (defScope st) dV kV doc pm an cdv ct), osl⟩) (c : PySem.W.codeIn K cdv qual = true) (k : PySem.W.keepIn K (.ref f) = true) (p1 : PosOk K mg dV dd) (p2 : KwdOk K mg kV kd) :
    GDf K mg x qual st dd kd f (PySem.W.fnOf x qual (defArgs st) (defBody st) (defScope st) dV kV doc pm an cdv ct) := ⟨⟨oc, od, dV, kV, doc, pm, an, cdv, ct, osl, rfl, l, c, p1, p2⟩, k⟩
theorem gfun_of {fd : FuncData} (X : K.In h) (G : h.Ns mainGlobals mg) (a : PySem.W.nsIn K mainGlobals x = some (some (.ref f))) (D : GDf K mg x x st dd kd f fd) : GFun K mg x st dd kd f fd := ⟨D, PySem.W.mg_of X G a⟩
theorem kclass_of {n : Str} (X : K.In h) (G : h.Ns mainGlobals mg) (a : PySem.W.nsIn K mainGlobals n = some (some (.ref C))) (c1 : PySem.W.plainGet K C Str.empty = true) (c2 : PySem.W.hasDictIn K C = true) (c3 : PySem.W.plainOver K C = true)
    (c4 : PySem.W.findIn K (.ref C) "__setattr__" = some (some (.builtin "object.__setattr__"))) : KClass K mg n C := ⟨PySem.W.mg_of X G a, ⟨c1, c2, c3, c4⟩⟩
theorem gmth_of {fd : FuncData} (D : GDf K mg x qual st dd kd f fd) (a : PySem.W.findIn K (.ref C) x = some (some (.ref f))) (b : PySem.W.isFn K (.ref f) = true) (fi : PySem.W.fnIn K f = true) : GMth K mg x qual st dd kd C f fd := ⟨D, ⟨a, b, D.kp⟩, fi⟩
theorem gsta_of {fd : FuncData} {mc : Value} {rest : List Value} (X : K.In h) (G : h.Ns mainGlobals mg) (D : GDf K mg x qual st dd kd f fd) (a : PySem.W.nsIn K mainGlobals cl = some (some (.ref C))) (b1 : PySem.W.readsIn K C mc = true) (b2 : PySem.W.specialIn K (.ref C) "__getattribute__" = some (some (.builtin "type.__getattribute__")))
    (b3 : PySem.W.findCls K (.ref C) mc x = some (.get (.builtin "staticmethod.__get__") (.ref p) .none (.ref C))) (b4 : PySem.W.recIn K p "staticmethod" = some (.ref f :: rest)) : GSta K mg cl x qual st dd kd f fd := ⟨D, ⟨C, p, mc, rest, PySem.W.mg_of X G a, b1, b2, b3, b4⟩⟩
theorem KClass.fld {n f : Str} (k : KClass K mg n C) (a : NoAttr K C f) : KFld K mg n f := ⟨C, k.m, k.cls, a⟩
end
section
variable {X : Cx} {k : Nat} {n x qual : Str} {st : Stmt} {dd : List D} {kd : List (Str × D)} {C f : Addr} {fd : FuncData} {F : FC}
theorem GMth.mev (M : GMth X.K X.mg x qual st dd kd C f fd) (c : KClass X.K X.mg n C) (G : FnC X.prog X.w X.K X.mg X.base k f [] F) : MEv X k x n F := ⟨C, f, c.m, c.cls, M.mt, G⟩
theorem GMth.sev (M : GMth X.K X.mg x qual st dd kd C f fd) (c : KClass X.K X.mg n C) (G : FnC X.prog X.w X.K X.mg X.base k f [] F) : SEv X k x n F := ⟨C, f, c.m, c.cls, M.mt.at_, M.mt.fn, M.fi, G⟩
theorem GMth.toMk (M : GMth X.K X.mg "__init__" qual st dd kd C f fd) (h1 : PySem.W.makesIn X.K C = true) (h2 : PySem.W.keepIn X.K (.ref C) = true) : Mk X.K C f := ⟨h1, M.mt.at_, M.mt.fn, h2⟩
end
/-- a static method by its class, over FnC -/
theorem me_sta {X : Cx} {U : WX} {k : Nat} {f : Addr} {F : FC} {c : Cn} {e : Expr} {es : List Expr} {pos p apos : Pos} {x m : Str} {fa : FA} {pl : Sem Bool} (hc : c.K = X.K) (hcm : c.mg = X.mg) (S : SMet X.K X.mg x m f) (G : FnC X.prog X.w X.K X.mg X.base k f [] F) (hr : Room k X.A) (ng : NoGuard X.A) (tk : Takes X U) (hg : Gl X x) (hk : PySem.W.keepIn X.K (.ref f) = true)
    (ha : PA X (e :: es) (tMA c U fa)) (hdb : (x == ("__debug__" : Str)) = false := by decide) (he : starEach (e :: es) X.env = (false, eval e X.env) :: starEach es X.env := by rfl) (hpl : (backTo pos (starEach es X.env)).any (·.1) = false := by rfl)
    (ht : eval (.Call (.Attribute (.Name x p) m apos) (e :: es) [] pos) X.env = (eval (.Name x p) X.env >>= fun ov => standAt apos.atName >>= fun _ => holding [ov] (getMethod ov m pl) >>= fun q =>
      callWith pos q.1 q.2 (backTo pos (starEach (e :: es) X.env)) (backToKw pos (keywordEach [] X.env))) := by rfl) :
    PE X (.Call (.Attribute (.Name x p) m apos) (e :: es) [] pos) (tM c U (mCallC F fa mNil)) := by
  obtain ⟨C, q, mc, rest, hm, h1, h2, h3, h4⟩ := S.ex
  refine ⟨fun pins s σ H Q I ⟨en, ρ, vh, hE, hh, h⟩ => PySem.W.methodCall_KW (pl := pl) (ld_glob I hg hm ?_ hdb) ht⟩
  refine PySem.W.method_cls I.kIn h2 (PySem.W.cls_bind I.kIn h1 h3 (wpAny_call (PySem.W.sm_get (s := { s with toks := s.toks + 1 }) I.kIn h4 (PySem.W.handed_on rfl ?_))))
  have I0 : L2.Inv X pins σ H { s with toks := s.toks + 1 } := I.tok _
  refine PySem.W.callWith_K (h₀ := X.base) I.ok.mod.kin hk (thn (ha.run pos pins _ σ H _ I0 (useA hE hh h)) fun us s1 ⟨vs, H1, I1, r, ws, vh1, ρ1, rs, A, g1, f1⟩ => ⟨I1.kIn, ?_⟩) he hpl
  exact run_c (uz := []) (zs := []) (wz := []) G hr ng tk hc hcm I1 r .nil rs trivial A.rh A.out
/-- no defaults, no keywords -/
def byPos (n : Nat) (F : FN) : FC := fun ws zs vh => lenOk ws.length zs.length n 0 (F ws vh)
@[simp] theorem ev_byPos {n : Nat} {F : FN} {ws zs : List W} {vh : VH} : byPos n F ws zs vh = lenOk ws.length zs.length n 0 (F ws vh) := rfl
section
variable {P : Program} {w : World} {K : PySem.W.Frag} {mg : Str → Option Value} {base : Heap} {k : Nat} {f : Addr} {x qual : Str} {st : Stmt} {kd : List (Str × D)} {fd : FuncData} {ps : List Str} {F : FN} {n : Nat}
theorem FnC.pos (G : FnG P w K mg base k f fd ps F) (D : GDf K mg x qual st [] kd f fd) (h : ∀ (kV doc pm : Value) (an : Option Addr) (cdv ct : Value) (us : List Value), us.length = n → bindArgs (PySem.W.fnOf x qual (defArgs st) (defBody st) (defScope st) .none kV doc pm an cdv ct) ⟨us, []⟩ = pure (ps.zip us)) :
    FnC P w K mg base k f [] (byPos n F) := by
  obtain ⟨oc, od, dV, kV, doc, pm, an, cdv, ct, osl, rfl, lk, hcd, p1, _⟩ := D.ex
  cases p1
  refine ⟨fun A outer s H us uz vs zs Q E hr ng e0 r rz h2 => ?_⟩
  obtain ⟨c, rfl, rfl, ws, wz, ρ, vh, rs, rsz, rh, o⟩ := h2
  unfold byPos lenOk at o
  split at o
  · rename_i hl
    have l1 : us.length = n := by rw [← r.length, ← rs.length]; exact hl.1
    obtain rfl : uz = [] := List.length_eq_zero_iff.mp (by rw [← rz.length, ← rsz.length]; exact hl.2)
    exact G.go A outer s H ⟨us, []⟩ us vs Q E hr ng e0 (.of_eq (h _ _ _ _ _ _ us l1)) r ⟨c, rfl, rfl, ws, ρ, vh, rs, rh, o⟩
  · exact o.elim
end
end Mn

namespace Mn
open PySem PySem.Spec PyProof.Rows L2

/-! ### slots that are forgotten behind a statement -/
def fgtR (is : List Nat) : RS → RS
  | .nx e vh => .nx (wipeE e is) vh
  | .ct e vh => .ct (wipeE e is) vh
  | .bk e vh => .bk (wipeE e is) vh
  | r => r
def mFgt (is : List Nat) (f : FS) : FS := fun e vh => fgtR is (f e vh)
section
variable {c : Cn} {U : WX} {X : Cx}
theorem RelE.none1 {H : Hp} {ρ : Rho} : ∀ {e : Env} {σ : L2.St} (i : Nat), RelE c H ρ e σ → RelE c H ρ (e.set i none) σ
  | [], [], _, _ => trivial
  | some _ :: e, some v :: σ, 0, ⟨_, t⟩ => t
  | none :: e, _ :: σ, 0, t => t
  | some _ :: e, some _ :: σ, i + 1, ⟨h, t⟩ => ⟨h, RelE.none1 i t⟩
  | none :: e, _ :: σ, i + 1, t => RelE.none1 (e := e) (σ := σ) i t
theorem RelE.fgt {H : Hp} {ρ : Rho} {σ : L2.St} : ∀ {e : Env} (is : List Nat), RelE c H ρ e σ → RelE c H ρ (wipeE e is) σ
  | _, [], h => h
  | e, i :: is, h => RelE.none1 i (RelE.fgt is h)
theorem fgt_out {H : Hp} {ρ : Rho} {is : List Nat} {r : RS} {D : Ends} (h : OutS c H ρ U (fgtR is r) D) : OutS c H ρ U r D := by
  cases r with
  | nx e vh => exact fun σ' H' ρ' g f re rh => h σ' H' ρ' g f (re.fgt is) rh
  | bk e vh => exact fun σ' H' ρ' g f re rh => h σ' H' ρ' g f (re.fgt is) rh
  | ct e vh => exact fun σ' H' ρ' g f re rh => h σ' H' ρ' g f (re.fgt is) rh
  | rt w vh => exact h
  | exn x e vh => exact h
  | stuck => exact h
theorem mss_fgt {sts : List Stmt} {f : FS} (is : List Nat) (h : PSs X sts (tMS c U f)) : PSs X sts (tMS c U (mFgt is f)) := pss_imp h fun D σ H ⟨e, ρ, vh, he, hh, o⟩ => ⟨e, ρ, vh, he, hh, fgt_out o⟩
theorem ms_fgt {st : Stmt} {f : FS} (is : List Nat) (h : PS X st (tMS c U f)) : PS X st (tMS c U (mFgt is f)) := ps_imp h fun D σ H ⟨e, ρ, vh, he, hh, o⟩ => ⟨e, ρ, vh, he, hh, fgt_out o⟩
end
section
variable {e : Env} {vh : VH} {is : List Nat} {f : FS}
@[simp] theorem ev_fgt : mFgt is f e vh = fgtR is (f e vh) := rfl
@[simp] theorem fgtR_nx : fgtR is (.nx e vh) = .nx (wipeE e is) vh := rfl
@[simp] theorem fgtR_ct : fgtR is (.ct e vh) = .ct (wipeE e is) vh := rfl
@[simp] theorem fgtR_bk : fgtR is (.bk e vh) = .bk (wipeE e is) vh := rfl
@[simp] theorem fgtR_rt {w : W} : fgtR is (.rt w vh) = .rt w vh := rfl
@[simp] theorem fgtR_exn {x : Exn} : fgtR is (.exn x e vh) = .exn x e vh := rfl
@[simp] theorem fgtR_stuck : fgtR is .stuck = .stuck := rfl
@[simp] theorem wipeE_nil : wipeE e [] = e := rfl
@[simp] theorem wipeE_cons {i : Nat} {r : List Nat} : wipeE e (i :: r) = (wipeE e r).set i none := rfl
def parR (i j : Nat) (e : Env) (ws : List W) (vh : VH) : RS := match ws with
  | [w1, w2] => .nx ((e.set i (some w1)).set j (some w2)) vh
  | _ => .stuck
@[simp] theorem parR_two {i j : Nat} {w1 w2 : W} : parR i j e [w1, w2] vh = .nx ((e.set i (some w1)).set j (some w2)) vh := rfl
@[simp] theorem ev_par2 {i j : Nat} {fa : FA} : mPar2 i j fa e vh = lft (fa e vh) e (parR i j e) := by unfold mPar2 parR; rfl
def parR3 (i j l : Nat) (e : Env) (ws : List W) (vh : VH) : RS := match ws with
  | [w1, w2, w3] => .nx (((e.set i (some w1)).set j (some w2)).set l (some w3)) vh
  | _ => .stuck
@[simp] theorem parR3_three {i j l : Nat} {w1 w2 w3 : W} : parR3 i j l e [w1, w2, w3] vh = .nx (((e.set i (some w1)).set j (some w2)).set l (some w3)) vh := rfl
@[simp] theorem ev_par3 {i j l : Nat} {fa : FA} : mPar3 i j l fa e vh = lft (fa e vh) e (parR3 i j l e) := by unfold mPar3 parR3; rfl
def sfR (ns : List Str) (f : Str) (wv wo : W) (e : Env) (vh : VH) : RS := match wo with
  | .d _ => .stuck
  | .ref k => match vh[k]? with
    | some (.ins n fs) => if n ∈ ns ∧ fs.length < 1000 then .nx e (vh.set k (.ins n (putW f wv fs))) else .stuck
    | _ => .stuck
@[simp] theorem ev_setFld {ns : List Str} {f : Str} {fo fv : FE} : mSetFld ns f fo fv e vh = lft (fv e vh) e fun wv vh1 => lft (fo e vh1) e fun wo vh2 => sfR ns f wv wo e vh2 := by unfold mSetFld sfR; rfl
theorem sfR_ok {ns : List Str} {f : Str} {wv : W} {k : Nat} {n : Str} {fs : List (Str × W)} (h : vh[k]? = some (.ins n fs)) (hn : n ∈ ns) (hl : fs.length < 1000) : sfR ns f wv (.ref k) e vh = .nx e (vh.set k (.ins n (putW f wv fs))) := by
  simp only [sfR, h]
  exact if_pos ⟨hn, hl⟩
@[simp] theorem pick_nil {α : Type} {us ws ds : List α} : pick us ws ds [] = [] := rfl
@[simp] theorem pick_cons {α : Type} {us ws ds : List α} {s : Src} {r : List Src} {x : α} (h : s.get us ws ds = some x) : pick us ws ds (s :: r) = x :: pick us ws ds r := by simp [pick, h]
@[simp] theorem src_p {α : Type} {us ws ds : List α} {i : Nat} : (Src.p i).get us ws ds = us[i]? := rfl
@[simp] theorem src_k {α : Type} {us ws ds : List α} {i : Nat} : (Src.k i).get us ws ds = ws[i]? := rfl
@[simp] theorem src_d {α : Type} {us ws ds : List α} {i : Nat} : (Src.d i).get us ws ds = ds[i]? := rfl
end

/-! ### loops by a state -/
/-- each turn steps the state -/
theorem for_st {S : Type} {A : FTg} {s : FS} (E : S → Env) (V : S → VH) (step : S → D → S) (P : S → Prop) : ∀ {ds : List D} {x : S}, (∀ d ∈ ds, ∀ x, P x → ∃ e', A d (E x) = some e' ∧ s e' (V x) = .nx (E (step x d)) (V (step x d)) ∧ P (step x d)) → P x →
    mFor A s ds (E x) (V x) = .nx (E (ds.foldl step x)) (V (ds.foldl step x)) ∧ P (ds.foldl step x)
  | [], x, _, hp => ⟨rfl, hp⟩
  | d :: ds, x, h, hp => by
    obtain ⟨e', h1, h2, h3⟩ := h d List.mem_cons_self x hp
    rw [for_cons h1, h2, forR_nx]
    exact for_st E V step P (fun y hy => h y (List.mem_cons_of_mem _ hy)) h3
/-- a state that is chosen on the way: R i x, the state behind i turns -/
theorem for_ex {S : Type} {A : FTg} {s : FS} (E : S → Env) (V : S → VH) (R : Nat → S → Prop) {ds : List D} (h : ∀ i d x, ds[i]? = some d → R i x → ∃ e' y, A d (E x) = some e' ∧ s e' (V x) = .nx (E y) (V y) ∧ R (i + 1) y) {x : S} (hx : R 0 x) :
    ∃ y, mFor A s ds (E x) (V x) = .nx (E y) (V y) ∧ R ds.length y := by
  have go : ∀ (l : List D) (i : Nat) (x : S), (∀ j, l[j]? = ds[i + j]?) → R i x → ∃ y, mFor A s l (E x) (V x) = .nx (E y) (V y) ∧ R (i + l.length) y := by
    intro l
    induction l with
    | nil => intro i x _ hr; exact ⟨x, rfl, hr⟩
    | cons d l ih =>
      intro i x hl hr
      obtain ⟨e', y, h1, h2, h3⟩ := h i d x (by have := hl 0; simpa using this.symm) hr
      obtain ⟨z, h4, h5⟩ := ih (i + 1) y (fun j => by have := hl (j + 1); rw [show i + 1 + j = i + (j + 1) by omega, ← this]; rfl) h3
      exact ⟨z, by rw [for_cons h1, h2, forR_nx, h4], by rw [List.length_cons, show i + (l.length + 1) = i + 1 + l.length by omega]; exact h5⟩
  obtain ⟨y, h1, h2⟩ := go ds 0 x (fun j => by rw [Nat.zero_add]) hx
  exact ⟨y, h1, by rwa [Nat.zero_add] at h2⟩
/-- a loop that leaves by a return: the first item with p gives r -/
theorem for_find {A : FTg} {s : FS} {e : Env} {vh : VH} (p : D → Bool) (r : D → RS) (hr : ∀ d, ∃ w v, r d = .rt w v) : ∀ {ds : List D}, (∀ d ∈ ds, ∃ e', A d e = some e' ∧ s e' vh = if p d = true then r d else .nx e vh) → mFor A s ds e vh = match ds.find? p with
    | some d => r d
    | none => .nx e vh
  | [], _ => rfl
  | d :: ds, h => by
    obtain ⟨e', h1, h2⟩ := h d List.mem_cons_self
    rw [for_cons h1, h2, List.find?_cons]
    cases hp : p d with
    | true =>
      rw [if_pos rfl]
      obtain ⟨w, v, e1⟩ := hr d
      simp only [e1, forR_rt]
    | false =>
      rw [if_neg (by simp), forR_nx]
      exact for_find p r hr fun y hy => h y (List.mem_cons_of_mem _ hy)
section
variable {F : FN} {vh : VH} {a b c d e f g h : W}
@[simp] theorem byPos_0 : byPos 0 F [] [] vh = F [] vh := rfl
@[simp] theorem byPos_1 : byPos 1 F [a] [] vh = F [a] vh := rfl
@[simp] theorem byPos_2 : byPos 2 F [a, b] [] vh = F [a, b] vh := rfl
@[simp] theorem byPos_3 : byPos 3 F [a, b, c] [] vh = F [a, b, c] vh := rfl
@[simp] theorem byPos_4 : byPos 4 F [a, b, c, d] [] vh = F [a, b, c, d] vh := rfl
@[simp] theorem byPos_5 : byPos 5 F [a, b, c, d, e] [] vh = F [a, b, c, d, e] vh := rfl
@[simp] theorem byPos_6 : byPos 6 F [a, b, c, d, e, f] [] vh = F [a, b, c, d, e, f] vh := rfl
@[simp] theorem byPos_7 : byPos 7 F [a, b, c, d, e, f, g] [] vh = F [a, b, c, d, e, f, g] vh := rfl
@[simp] theorem byPos_8 : byPos 8 F [a, b, c, d, e, f, g, h] [] vh = F [a, b, c, d, e, f, g, h] vh := rfl
end
/-- a loop whose frame stays: V x the heap of the state x, R i x the state behind i turns -/
theorem for_vh {S : Type} {A : FTg} {s : FS} {e : Env} (V : S → VH) (R : Nat → S → Prop) {ds : List D} (h : ∀ i d x, ds[i]? = some d → R i x → ∃ e' y, A d e = some e' ∧ s e' (V x) = .nx e (V y) ∧ R (i + 1) y) {x : S} (hx : R 0 x) :
    ∃ y, mFor A s ds e (V x) = .nx e (V y) ∧ R ds.length y := for_ex (fun _ => e) V R h hx
end Mn

namespace Mn
open PySem PySem.Spec PyProof.Rows L2

/-! ### facts about data, for the maths -/
section
variable {α : Type}
theorem toPys_strs : ∀ zs : List Str, toPys (zs.map .str) = some (zs.map .str)
  | [] => rfl
  | z :: zs => by simp only [List.map_cons, toPys, toPy, toPys_strs zs]
theorem depth_strs : ∀ zs : List Str, PyData.depthAll (zs.map .str) ≤ 1
  | [] => by simp [PyData.depthAll]
  | z :: zs => by
    have := depth_strs zs
    simp only [List.map_cons, PyData.depthAll, PyData.depth]
    omega
theorem eqv_strs (z : Str) : ∀ zs : List Str, ((zs.map PyData.str).any fun x => PyData.eqv x (.str z)) = decide (z ∈ zs)
  | [] => rfl
  | y :: ys => by
    have e : PyData.eqv (.str y) (.str z) = (y == z) := by simp [PyData.eqv]
    rw [List.map_cons, List.any_cons, eqv_strs z ys, e]
    by_cases h : z = y
    · subst h; simp
    · simp [h, show y ≠ z from fun e => h e.symm]
theorem in_lstr (z : Str) (zs : List Str) : dInD (.str z) (.lst (zs.map .str)) = some (.bl (decide (z ∈ zs))) := by
  unfold dInD dIn
  simp only [toPy, toPys_strs, eqv_strs]
  rw [if_pos ⟨by simp [PyData.depth], Nat.le_trans (depth_strs zs) (by decide)⟩]
  rfl
theorem notIn_lstr (z : Str) (zs : List Str) : dNotInD (.str z) (.lst (zs.map .str)) = some (.bl (!decide (z ∈ zs))) := by
  unfold dNotInD dIn
  simp only [toPy, toPys_strs, eqv_strs]
  rw [if_pos ⟨by simp [PyData.depth], Nat.le_trans (depth_strs zs) (by decide)⟩]
  rfl
theorem flat_strs (zs : List Str) : (zs.map D.str).all flatD = true := by simp [flatD]
theorem any_strs (z : Str) (zs : List Str) : ((zs.map D.str).any fun d => sameFlat d (.str z)) = decide (z ∈ zs) := by
  induction zs with
  | nil => rfl
  | cons y ys ih =>
    rw [List.map_cons, List.any_cons, ih]
    show (y == z || _) = _
    by_cases h : z = y
    · subst h; simp
    · simp [h, show y ≠ z from fun e => h e.symm]
theorem in_tstr (z : Str) (zs : List Str) : dInD (.str z) (.tup (zs.map .str)) = some (.bl (decide (z ∈ zs))) := by
  unfold dInD dIn
  simp only [flat_strs, any_strs, flatD, Bool.and_self, if_true]; rfl
theorem notIn_tstr (z : Str) (zs : List Str) : dNotInD (.str z) (.tup (zs.map .str)) = some (.bl (!decide (z ∈ zs))) := by
  unfold dNotInD dIn
  simp only [flat_strs, any_strs, flatD, Bool.and_self, if_true]; rfl
theorem in_cstr (z : Str) (zs : List Str) : dInD (.str z) (.ctp (zs.map .str)) = some (.bl (decide (z ∈ zs))) := by
  unfold dInD dIn
  simp only [flat_strs, any_strs, flatD, Bool.and_self, if_true]; rfl
theorem notIn_cstr (z : Str) (zs : List Str) : dNotInD (.str z) (.ctp (zs.map .str)) = some (.bl (!decide (z ∈ zs))) := by
  unfold dNotInD dIn
  simp only [flat_strs, any_strs, flatD, Bool.and_self, if_true]; rfl

/-! ### dicts with texts as keys -/
/-- the pairs of a table -/
def prs (k : α → Str) (v : α → D) (l : List α) : List (D × D) := l.map fun a => (.str (k a), v a)
theorem find_prs (k : α → Str) (v : α → D) (z : Str) : ∀ l : List α, dFindK (prs k v l) (.inr z) = (l.find? fun a => k a == z).map v
  | [] => rfl
  | a :: l => by
    have e : (keyOf (.str (k a)) = some (Sum.inr z)) ↔ k a = z := by simp [keyOf]
    show (if keyOf (.str (k a)) = some (Sum.inr z) then some (v a) else dFindK (prs k v l) (.inr z)) = _
    rw [List.find?_cons]
    by_cases h : k a = z
    · rw [if_pos (e.mpr h), beq_iff_eq.mpr h]; rfl
    · rw [if_neg (fun q => h (e.mp q)), find_prs k v z l, beq_eq_false_iff_ne.mpr h]
theorem get_prs (k : α → Str) (v : α → D) (z : Str) (l : List α) : dGet false (prs k v l) (.str z) = some ((l.find? fun a => k a == z).map v) := by
  show (keyOf (.str z)).map (dFindK _) = _
  show some (dFindK _ (.inr z)) = _
  rw [find_prs]
theorem find_in (k : α → Str) (z : Str) (l : List α) : (l.find? fun a => k a == z).isSome = decide (z ∈ l.map k) := by
  induction l with
  | nil => rfl
  | cons a l ih =>
    rw [List.find?_cons, List.map_cons]
    by_cases h : k a = z
    · subst h; simp
    · rw [beq_eq_false_iff_ne.mpr h]
      show (l.find? _).isSome = _
      rw [ih]
      simp [show z ≠ k a from fun e => h e.symm]
theorem in_prs (k : α → Str) (v : α → D) (z : Str) (l : List α) : dInD (.str z) (.dic false (prs k v l)) = some (.bl (decide (z ∈ l.map k))) := by
  show ((dGet false (prs k v l) (.str z)).map (·.isSome)).map D.bl = _
  rw [get_prs, ← find_in]
  simp
theorem notIn_prs (k : α → Str) (v : α → D) (z : Str) (l : List α) : dNotInD (.str z) (.dic false (prs k v l)) = some (.bl (!decide (z ∈ l.map k))) := by
  show ((dGet false (prs k v l) (.str z)).map (·.isSome)).map (fun b => D.bl !b) = _
  rw [get_prs, ← find_in]
  simp
theorem ix_prs {k : α → Str} {v : α → D} {l : List α} {a : α} (h : (l.map k).Nodup) (ha : a ∈ l) : dIx (.dic false (prs k v l)) (.str (k a)) = some (v a) := by
  have e : l.find? (fun b => k b == k a) = some a := by
    induction l with
    | nil => cases ha
    | cons b l ih =>
      rw [List.find?_cons]
      rw [List.map_cons, List.nodup_cons] at h
      rcases List.mem_cons.mp ha with rfl | ha
      · simp
      · have : k b ≠ k a := fun e => h.1 (e ▸ List.mem_map_of_mem ha)
        rw [beq_eq_false_iff_ne.mpr this]
        exact ih h.2 ha
  show (match dGet false (prs k v l) (.str (k a)) with | some (some d) => some d | _ => none) = _
  rw [get_prs, e]; rfl
theorem put_prs {k : α → Str} {v : α → D} {l : List α} {a : α} (h : k a ∉ l.map k) : dPut false (prs k v l) (.str (k a)) (v a) = some (prs k v (l ++ [a])) := by
  show some (dPutK _ (.inr (k a)) _ _) = _
  unfold dPutK
  rw [if_neg]
  · simp [prs]
  · intro q
    rw [List.any_eq_true] at q
    obtain ⟨p, hp, e⟩ := q
    obtain ⟨b, hb, rfl⟩ := List.mem_map.mp hp
    have : k b = k a := by simpa [keyOf] using e
    exact h (this ▸ List.mem_map_of_mem hb)
theorem storeD_prs {i : Nat} {k : α → Str} {v : α → D} {l : List α} {a : α} {e : Env} {vh : VH} (h : k a ∉ l.map k) (hl : l.length ≤ 1000) : storeD i false (prs k v l) (.str (k a)) (v a) e vh = .nx e (vh.set i (.dic false (prs k v (l ++ [a])))) := by
  unfold storeD
  rw [put_prs h]
  have : (prs k v l).length < sizeLine := by unfold prs; rw [List.length_map]; exact Nat.lt_of_le_of_lt hl (by decide)
  simp only [this, if_true]
@[simp] theorem prs_len (k : α → Str) (v : α → D) (l : List α) : (prs k v l).length = l.length := by simp [prs]
@[simp] theorem prs_fst (k : α → Str) (v : α → D) (l : List α) : (prs k v l).map (·.1) = (l.map k).map .str := by simp [prs]
@[simp] theorem prs_snd (k : α → Str) (v : α → D) (l : List α) : (prs k v l).map (·.2) = l.map v := by simp [prs]
theorem prs_nil (k : α → Str) (v : α → D) : prs k v [] = [] := rfl
/-- a dict comprehension whose keys are texts, no two alike -/
theorem dc_map {A : FTg} {t : FT} {fk fv : FE} {e : Env} {vh : VH} (k : α → Str) (v : α → D) (en : α → D) : ∀ {l acc : List α}, (∀ a ∈ l, ∃ e', A (en a) e = some e' ∧ t e' vh = .ok true vh ∧ fk e' vh = .ok (.d (.str (k a))) vh ∧ fv e' vh = .ok (.d (v a)) vh) →
    ((acc ++ l).map k).Nodup → (acc ++ l).length ≤ 1000 → mDComp A t fk fv e (l.map en) vh (prs k v acc) = .ok (prs k v (acc ++ l)) vh
  | [], acc, _, _, _ => by simp [mDComp]
  | a :: l, acc, h, nd, hl => by
    obtain ⟨e', h1, h2, h3, h4⟩ := h a List.mem_cons_self
    have nin : k a ∉ acc.map k := fun q => by
      rw [List.map_append, List.nodup_append] at nd
      exact nd.2.2 _ q _ (by simp) rfl
    have pt := put_prs (v := v) nin
    have pt : dPutK (prs k v acc) (.inr (k a)) (.str (k a)) (v a) = prs k v (acc ++ [a]) := Option.some.inj pt
    have hz : (prs k v acc).length < sizeLine := by rw [prs_len]; simp at hl; exact Nat.lt_of_le_of_lt (show acc.length ≤ 1000 by omega) (by decide)
    simp only [List.map_cons, mDComp, h1, h2, h3, h4, keyOf, hz, if_true, pt]
    have := dc_map (A := A) (t := t) (fk := fk) (fv := fv) (e := e) (vh := vh) k v en (l := l) (acc := acc ++ [a]) (fun b hb => h b (List.mem_cons_of_mem _ hb)) (by simpa using nd) (by simpa using hl)
    rw [this]
    simp

/-! ### sorted -/
theorem asStrs_map : ∀ zs : List Str, asStrs (zs.map .str) = some zs
  | [] => rfl
  | z :: zs => by simp only [List.map_cons, asStrs, asStrs_map zs, Option.map_some]
theorem sorted_strs {zs : List Str} (h : zs.length < 64) : cSorted [.lst (zs.map .str)] = some (.lst ((sortBy id zs).map .str)) := by
  simp only [cSorted, asStrs_map, h, if_true]
theorem sorted_keys {k : α → Str} {v : α → D} {l : List α} (h : l.length < 64) (ho : ∀ a ∈ l, okStr (k a) = true) : cSorted [.dic false (prs k v l)] = some (.lst ((sortBy id (l.map k)).map .str)) := by
  have : (l.map k).length < 64 ∧ (l.map k).all okStr = true := ⟨by simpa using h, by simpa using ho⟩
  simp only [cSorted, prs_fst, asStrs_map, this, and_self, if_true]
theorem sorted_heads' {f : α → D} {k : α → Str} {l : List α} (hf : ∀ a, ∃ r, f a = .tup (.str (k a) :: r)) (nd : (l.map k).Nodup) : cSorted [.lst (l.map f)] = some (.lst ((sortBy k l).map f)) := by
  cases l with
  | nil => rfl
  | cons a l =>
    have e1 : asStrs ((a :: l).map f) = none := by
      obtain ⟨r, hr⟩ := hf a
      rw [List.map_cons, hr]; rfl
    have e2 : ((a :: l).map f).all hasHead = true := by
      rw [List.all_map, List.all_eq_true]
      intro b _
      obtain ⟨r, hr⟩ := hf b
      simp [hr, hasHead]
    have hd : ∀ b, headD (f b) = k b := fun b => by
      obtain ⟨r, hr⟩ := hf b
      rw [hr]; rfl
    have e3 : (((a :: l).map f).map headD) = (a :: l).map k := by
      rw [List.map_map]
      exact List.map_congr_left fun b _ => hd b
    unfold cSorted
    simp only [e1]
    rw [if_pos ⟨e2, by rw [e3]; exact nd⟩, sortBy_map]
    simp only [hd]
theorem sortBy_len (k : α → Str) (l : List α) : (sortBy k l).length = l.length := (sortBy_perm k l).length_eq
theorem sortBy_mem {k : α → Str} {l : List α} {a : α} : a ∈ sortBy k l ↔ a ∈ l := (sortBy_perm k l).mem_iff
theorem sortBy_nodup {k : α → Str} {l : List α} (h : (l.map k).Nodup) : ((sortBy k l).map k).Nodup := ((sortBy_perm k l).map k).nodup_iff.mpr h
theorem sortBy_keys (k : α → Str) (l : List α) : sortBy id (l.map k) = (sortBy k l).map k := sortBy_map k id l
end
/-! ### isinstance -/
section
variable {z : Str} {ds : List D} {b : Bool} {n : Str} {fs : List (Str × D)}
theorem isi_of {x : D} {S T : String} {b : Bool} (h : tyName x = some S) (k : kitB S T = some b) : cIsi [x, .ty T] = some (.bl b) := by simp only [cIsi, h, k]; rfl
@[simp] theorem isi_str_str : cIsi [.str z, .ty "str"] = some (.bl true) := isi_of rfl (by decide +kernel)
@[simp] theorem isi_tup_str : cIsi [.tup ds, .ty "str"] = some (.bl false) := isi_of rfl (by decide +kernel)
@[simp] theorem isi_tup_tup : cIsi [.tup ds, .ty "tuple"] = some (.bl true) := isi_of rfl (by decide +kernel)
@[simp] theorem isi_str_tup : cIsi [.str z, .ty "tuple"] = some (.bl false) := isi_of rfl (by decide +kernel)
@[simp] theorem isi_non_str : cIsi [.non, .ty "str"] = some (.bl false) := isi_of rfl (by decide +kernel)
@[simp] theorem isi_non_tup : cIsi [.non, .ty "tuple"] = some (.bl false) := isi_of rfl (by decide +kernel)
end
end Mn

namespace Law
open PySem PySem.Spec PyProof.Rows L2 Mn
def top (i : Nat) : Stmt := PySem.Challenge.pw_unmeant_k25_classes_judged.main.body.getD i (.Pass ⟨0, 0, 0, 0⟩)
def inCls (i j : Nat) : Stmt := match top i with
  | .ClassDef _ _ _ b _ _ _ _ _ _ _ => b.getD j (.Pass ⟨0, 0, 0, 0⟩)
  | s => s
abbrev st_is_member_name : Stmt := top 18
abbrev N_is_member_name : List Str := ["text", "sign"]
def c_is_member_name_1 : FE := mOp dInD (mVar 1) (mC (.str "abcdefghijklmnopqrstuvwxyz"))
def s_is_member_name_a : FS := mRet (mAnd (mChain dLe dLe (mC (.int 1)) (mBlt cLen (mCons (mVar 0) (mNil))) (mC (.int 8))) (mAnd (mBlt cAll (mCons (mLc false (mSeqI (mVar 0)) (aName 1) (fun _ vh => .ok true vh) (c_is_member_name_1) [1]) (mNil))) (mOp dNe (mVar 0) (mC (.str "writable")))))
def s_is_member_name : FS := s_is_member_name_a
def f_is_member_name : FN := mFn 1 2 s_is_member_name
abbrev st_is_interface_name : Stmt := top 19
abbrev N_is_interface_name : List Str := ["text", "sign"]
def c_is_interface_name_1 : FE := mOp dInD (mVar 1) (mC (.str "abcdefghijklmnopqrstuvwxyz"))
def s_is_interface_name_a : FS := mRet (mAnd (mChain dLe dLe (mC (.int 1)) (mBlt cLen (mCons (mVar 0) (mNil))) (mC (.int 8))) (mAnd (mOp dInD (mOp dIx (mVar 0) (mC (.int 0))) (mC (.str "ABCDEFGHIJKLMNOPQRSTUVWXYZ"))) (mBlt cAll (mCons (mLc false (mSeqI (mSl (mVar 0) (mPart (mC (.int 1))) mNoPart)) (aName 1) (fun _ vh => .ok true vh) (c_is_interface_name_1) [1]) (mNil)))))
def s_is_interface_name : FS := s_is_interface_name_a
def f_is_interface_name : FN := mFn 1 2 s_is_interface_name
abbrev st_is_value_content : Stmt := top 20
abbrev N_is_value_content : List Str := ["content"]
def s_is_value_content_a : FS := mRet (mAnd (mBlt cIsi (mCons (mVar 0) (mCons (mC (.ty "str")) (mNil)))) (mOr (mOp dInD (mVar 0) (mC (.ctp [(.str "int"), (.str "str"), (.str "bool")]))) (mCallC (byPos 1 f_is_interface_name) (mCons (mVar 0) (mNil)) (mNil))))
def s_is_value_content : FS := s_is_value_content_a
def f_is_value_content : FN := mFn 1 1 s_is_value_content
abbrev st_is_method : Stmt := top 21
abbrev N_is_method : List Str := ["content", "one"]
def s_is_method_a1a : FS := mRet (mC (.bl false))
def s_is_method_a : FS := mIfS (mOrT (mNotT (mTest (mBlt cIsi (mCons (mVar 0) (mCons (mC (.ty "tuple")) (mNil)))))) (mOrT (mTest (mOp dNe (mBlt cLen (mCons (mVar 0) (mNil))) (mC (.int 3)))) (mTest (mOp dNe (mOp dIx (mVar 0) (mC (.int 0))) (mC (.str "method")))))) (s_is_method_a1a) (mSkip)
def s_is_method_b1a : FS := mRet (mC (.bl false))
def s_is_method_b : FS := mIfS (mTest (mOp dGt (mBlt cLen (mCons (mOp dIx (mVar 0) (mC (.int 1))) (mNil))) (mC (.int 3)))) (s_is_method_b1a) (mSkip)
def c_is_method_1 : FE := mCallC (byPos 1 f_is_value_content) (mCons (mVar 1) (mNil)) (mNil)
def s_is_method_c : FS := mRet (mAnd (mBlt cAll (mCons (mLc false (mSeqI (mOp dIx (mVar 0) (mC (.int 1)))) (aName 1) (fun _ vh => .ok true vh) (c_is_method_1) [1]) (mNil))) (mCallC (byPos 1 f_is_value_content) (mCons (mOp dIx (mVar 0) (mC (.int 2))) (mNil)) (mNil)))
def s_is_method : FS := mSeq (s_is_method_a) (mSeq (s_is_method_b) (s_is_method_c))
def f_is_method : FN := mFn 1 2 s_is_method
abbrev st_is_member : Stmt := top 22
abbrev N_is_member : List Str := ["member", "name", "presence", "content", "writable"]
def s_is_member_a : FS := mAsg (mVar 0) (aTup 4 (aCons (aName 1) (aCons (aName 2) (aCons (aName 3) (aCons (aName 4) (aNil))))))
def s_is_member_b1a : FS := mRet (mC (.bl false))
def s_is_member_b : FS := mIfS (mOrT (mNotT (mTest (mCallC (byPos 1 f_is_member_name) (mCons (mVar 1) (mNil)) (mNil)))) (mTest (mOp dNotInD (mVar 2) (mC (.ctp [(.str "required"), (.str "optional"), (.str "absent")]))))) (s_is_member_b1a) (mSkip)
def s_is_member_c1a : FS := mRet (mAnd (mOp dIsN (mVar 3) (mC .non)) (mNot (mVar 4)))
def s_is_member_c : FS := mIfS (mTest (mOp dEq (mVar 2) (mC (.str "absent")))) (s_is_member_c1a) (mSkip)
def s_is_member_d : FS := mRet (mOr (mCallC (byPos 1 f_is_value_content) (mCons (mVar 3) (mNil)) (mNil)) (mAnd (mCallC (byPos 1 f_is_method) (mCons (mVar 3) (mNil)) (mNil)) (mNot (mVar 4))))
def s_is_member : FS := mSeq (s_is_member_a) (mSeq (s_is_member_b) (mSeq (s_is_member_c) (s_is_member_d)))
def f_is_member : FN := mFn 1 5 s_is_member
abbrev st_sorted_brands : Stmt := top 23
abbrev N_sorted_brands : List Str := ["brands", "found", "brand"]
def s_sorted_brands_a : FS := mSet 1 (mLstM (mNil))
def s_sorted_brands_b1a : FS := mIfS (mNotT (mTest (mCallC (byPos 1 f_is_member_name) (mCons (mVar 2) (mNil)) (mNil)))) (mNever) (mSkip)
def s_sorted_brands_b1b : FS := mIfS (mTest (mOp dInD (mVar 2) (mVar 1))) (mNever) (mSkip)
def s_sorted_brands_b1c : FS := mDo (mMut gAppend (mVar 1) (mCons (mVar 2) (mNil)))
def s_sorted_brands_b : FS := mForS (mSeqI (mVar 0)) (aName 2) (mFgt [2] (mSeq (s_sorted_brands_b1a) (mSeq (s_sorted_brands_b1b) (s_sorted_brands_b1c))))
def s_sorted_brands_c : FS := mIfS (mTest (mOp dGt (mBlt cLen (mCons (mVar 1) (mNil))) (mC (.int 12)))) (mNever) (mSkip)
def s_sorted_brands_d : FS := mRet (mBlt cTuple (mCons (mBlt cSorted (mCons (mVar 1) (mNil))) (mNil)))
def s_sorted_brands : FS := mSeq (s_sorted_brands_a) (mSeq (s_sorted_brands_b) (mSeq (s_sorted_brands_c) (s_sorted_brands_d)))
def f_sorted_brands : FN := mFn 1 3 s_sorted_brands
abbrev st_Interface_init : Stmt := inCls 24 0
abbrev N_Interface_init : List Str := ["self", "name", "members", "sealed", "brands", "table", "index", "member", "key"]
def s_Interface_init_a : FS := mIfS (mNotT (mTest (mCallC (byPos 1 f_is_interface_name) (mCons (mVar 1) (mNil)) (mNil)))) (mNever) (mSkip)
def s_Interface_init_b : FS := mSet 5 (mDic0 false)
def s_Interface_init_c1a : FS := mIfS (mNotT (mTest (mCallC (byPos 1 f_is_member) (mCons (mVar 7) (mNil)) (mNil)))) (mNever) (mSkip)
def s_Interface_init_c1b : FS := mIfS (mTest (mOp dInD (mOp dIx (mVar 7) (mC (.int 0))) (mVar 5))) (mNever) (mSkip)
def s_Interface_init_c1c : FS := mSetItem (mVar 5) (mOp dIx (mVar 7) (mC (.int 0))) (mVar 7)
def s_Interface_init_c : FS := mForS (mEnum (mVar 2)) (aTup 2 (aCons (aName 6) (aCons (aName 7) (aNil)))) (mFgt [6, 7] (mSeq (s_Interface_init_c1a) (mSeq (s_Interface_init_c1b) (s_Interface_init_c1c))))
def s_Interface_init_d : FS := mIfS (mTest (mOp dGt (mBlt cLen (mCons (mVar 5) (mNil))) (mC (.int 12)))) (mNever) (mSkip)
def s_Interface_init_e : FS := mSetFld ["Interface"] "name" (mVar 0) (mVar 1)
def s_Interface_init_f : FS := mSetFld ["Interface"] "sealed" (mVar 0) (mVar 3)
def s_Interface_init_g : FS := mSetFld ["Interface"] "brands" (mVar 0) (mCallC (byPos 1 (mShut f_sorted_brands)) (mCons (mVar 4) (mNil)) (mNil))
def c_Interface_init_1 : FE := mOp dIx (mVar 5) (mVar 8)
def s_Interface_init_h : FS := mSetFld ["Interface"] "table" (mVar 0) (mDc false (mSeqI (mBlt cSorted (mCons (mVar 5) (mNil)))) (aName 8) (fun _ vh => .ok true vh) (mVar 8) (c_Interface_init_1) [8])
def s_Interface_init : FS := mSeq (s_Interface_init_a) (mSeq (s_Interface_init_b) (mSeq (s_Interface_init_c) (mSeq (s_Interface_init_d) (mSeq (s_Interface_init_e) (mSeq (s_Interface_init_f) (mSeq (s_Interface_init_g) (s_Interface_init_h)))))))
def f_Interface_init : FN := mFn 5 9 s_Interface_init
abbrev st_Interface_members : Stmt := inCls 24 5
abbrev N_Interface_members : List Str := ["self"]
def s_Interface_members_a : FS := mRet (mUn cVals1 (mFld ["Interface"] "table" (mVar 0)))
def s_Interface_members : FS := s_Interface_members_a
def f_Interface_members : FN := mFn 1 1 s_Interface_members
abbrev st_is_class : Stmt := top 26
abbrev N_is_class : List Str := ["interface", "member"]
def c_is_class_1 : FE := mOp dNe (mOp dIx (mVar 1) (mC (.int 1))) (mC (.str "optional"))
def s_is_class_a : FS := mRet (mAnd (mFld ["Interface"] "sealed" (mVar 0)) (mBlt cAll (mCons (mLc false (mSeqI (mMeth [("Interface", (byPos 1 f_Interface_members))] "members" (mVar 0) mNil)) (aName 1) (fun _ vh => .ok true vh) (c_is_class_1) [1]) (mNil))))
def s_is_class : FS := s_is_class_a
def f_is_class : FN := mFn 1 2 s_is_class
abbrev st_law_bag : Stmt := top 28
abbrev N_law_bag : List Str := ["_law_script"]
def s_law_bag_a : FS := mRet (mLstM (mCons (mBlt cList (mCons (mSl (mVar 0) mNoPart (mPart (mC (.int 63)))) (mNil))) (mCons (mC (.int 0)) (mCons (mC (.int 0)) (mCons (mC (.int 60289)) (mCons (mC (.int 0)) (mNil)))))))
def s_law_bag : FS := s_law_bag_a
def f_law_bag : FN := mFn 1 1 s_law_bag
abbrev st_law_draw : Stmt := top 29
abbrev N_law_draw : List Str := ["_law_bag_here", "_law_many", "_law_base", "_law_cell", "_law_digit"]
def s_law_draw_a1a : FS := mSet 3 (mOp dIx (mOp dIx (mVar 0) (mC (.int 0))) (mOp dIx (mVar 0) (mC (.int 1))))
def s_law_draw_a1b : FS := mSetItem (mVar 0) (mC (.int 1)) (mOp dAdd (mOp dIx (mVar 0) (mC (.int 1))) (mC (.int 1)))
def s_law_draw_a1c : FS := mSetItem (mVar 0) (mC (.int 3)) (mOp dMod (mBlt cInt (mCons (mOp dAdd (mOp dAdd (mOp dMul (mOp dIx (mVar 0) (mC (.int 3))) (mC (.int 40013))) (mOp dMul (mOp dMod (mBlt cInt (mCons (mVar 3) (mNil))) (mC (.int 2147483549))) (mC (.int 307)))) (mC (.int 1013))) (mNil))) (mC (.int 2147483629)))
def s_law_draw_a1d1a : FS := mSetItem (mVar 0) (mC (.int 2)) (mVar 3)
def s_law_draw_a1d : FS := mIfS (mTest (mOp dGe (mVar 3) (mOp dPow (mC (.int 10)) (mC (.int 18))))) (s_law_draw_a1d1a) (mSkip)
def s_law_draw_a : FS := mIfS (mAndT (mTest (mOp dEq (mOp dIx (mVar 0) (mC (.int 2))) (mC (.int 0)))) (mTest (mOp dLt (mOp dIx (mVar 0) (mC (.int 1))) (mBlt cLen (mCons (mOp dIx (mVar 0) (mC (.int 0))) (mNil)))))) (mSeq (s_law_draw_a1a) (mSeq (s_law_draw_a1b) (mSeq (s_law_draw_a1c) (s_law_draw_a1d)))) (mSkip)
def s_law_draw_b1a : FS := mSet 4 (mOp dMod (mBlt cInt (mCons (mOp dIx (mVar 0) (mC (.int 2))) (mNil))) (mVar 1))
def s_law_draw_b1b : FS := mSetItem (mVar 0) (mC (.int 2)) (mOp dFdiv (mOp dIx (mVar 0) (mC (.int 2))) (mVar 1))
def s_law_draw_b1c : FS := mRet (mVar 4)
def s_law_draw_b : FS := mIfS (mTest (mOp dGt (mOp dIx (mVar 0) (mC (.int 2))) (mC (.int 0)))) (mSeq (s_law_draw_b1a) (mSeq (s_law_draw_b1b) (s_law_draw_b1c))) (mSkip)
def s_law_draw_c : FS := mSetItem (mVar 0) (mC (.int 4)) (mOp dAdd (mOp dIx (mVar 0) (mC (.int 4))) (mC (.int 1)))
def s_law_draw_d : FS := mSet 2 (mOp dIx (mVar 0) (mC (.int 3)))
def s_law_draw_e : FS := mSetItem (mVar 0) (mC (.int 3)) (mOp dMod (mBlt cInt (mCons (mOp dAdd (mOp dAdd (mOp dAdd (mOp dMul (mVar 2) (mVar 2)) (mOp dMul (mC (.int 70001)) (mVar 2))) (mOp dMul (mC (.int 7907)) (mOp dIx (mVar 0) (mC (.int 4))))) (mC (.int 30011))) (mNil))) (mC (.int 2147483629)))
def s_law_draw_f : FS := mRet (mOp dMod (mBlt cInt (mCons (mOp dAdd (mOp dAdd (mOp dFdiv (mOp dIx (mVar 0) (mC (.int 3))) (mC (.int 59))) (mOp dMul (mVar 2) (mC (.int 33301)))) (mOp dIx (mVar 0) (mC (.int 4)))) (mNil))) (mVar 1))
def s_law_draw : FS := mSeq (s_law_draw_a) (mSeq (s_law_draw_b) (mSeq (s_law_draw_c) (mSeq (s_law_draw_d) (mSeq (s_law_draw_e) (s_law_draw_f)))))
def f_law_draw : FN := mFn 2 5 s_law_draw
abbrev st_law_of : Stmt := top 30
abbrev N_law_of : List Str := ["_law_bag_here", "_law_some_here"]
def s_law_of_a : FS := mRet (mOp dIx (mVar 1) (mCallC (byPos 2 f_law_draw) (mCons (mVar 0) (mCons (mBlt cLen (mCons (mVar 1) (mNil))) (mNil))) (mNil)))
def s_law_of : FS := s_law_of_a
def f_law_of : FN := mFn 2 2 s_law_of
abbrev st_law_mixed : Stmt := top 31
abbrev N_law_mixed : List Str := ["_law_bag_here", "_law_things", "_law_found", "_law_thing"]
def s_law_mixed_a : FS := mSet 2 (mLstM (mNil))
def s_law_mixed_b1a : FS := mDo (mMut gInsert (mVar 2) (mCons (mCallC (byPos 2 f_law_draw) (mCons (mVar 0) (mCons (mOp dAdd (mBlt cLen (mCons (mVar 2) (mNil))) (mC (.int 1))) (mNil))) (mNil)) (mCons (mVar 3) (mNil))))
def s_law_mixed_b : FS := mForS (mSeqI (mVar 1)) (aName 3) (mFgt [3] (s_law_mixed_b1a))
def s_law_mixed_c : FS := mRet (mVar 2)
def s_law_mixed : FS := mSeq (s_law_mixed_a) (mSeq (s_law_mixed_b) (s_law_mixed_c))
def f_law_mixed : FN := mFn 2 4 s_law_mixed
abbrev st_law_some : Stmt := top 32
abbrev N_law_some : List Str := ["_law_bag_here", "_law_things", "_law_thing"]
def t_law_some_1 : FT := mTest (mOp dEq (mCallC (byPos 2 f_law_draw) (mCons (mVar 0) (mCons (mC (.int 2)) (mNil))) (mNil)) (mC (.int 0)))
def s_law_some_a : FS := mRet (mLc false (mSeqI (mCallC (byPos 2 (mShut f_law_mixed)) (mCons (mVar 0) (mCons (mVar 1) (mNil))) (mNil))) (aName 2) (t_law_some_1) (mVar 2) [2])
def s_law_some : FS := s_law_some_a
def f_law_some : FN := mFn 2 3 s_law_some
abbrev st_law_same : Stmt := top 33
abbrev N_law_same : List Str := ["_law_found", "_law_due"]
def s_law_same_a : FS := mRet (mOp dEq (mBlt cRepA (mCons (mVar 0) (mNil))) (mBlt cRepA (mCons (mVar 1) (mNil))))
def s_law_same : FS := s_law_same_a
def f_law_same : FN := mFn 2 2 s_law_same
abbrev st_law_names : Stmt := top 34
abbrev N_law_names : List Str := ["_law_bag_here", "_law_many", "_law_great", "_law_letters", "_law_size", "_law_place", "_law_first", "_law_alike", "_law_found", "_law_k", "_law_long", "_law_row", "_law_word", "_law_at"]
def s_law_names_a : FS := mSet 3 (mC (.str "abcdefghijklmnopqrstuvwxyz"))
def s_law_names_b : FS := mSet 4 (mOp dAdd (mC (.int 1)) (mCallC (byPos 2 f_law_draw) (mCons (mVar 0) (mCons (mC (.int 8)) (mNil))) (mNil)))
def s_law_names_c : FS := mSet 5 (mCallC (byPos 2 f_law_draw) (mCons (mVar 0) (mCons (mVar 4) (mNil))) (mNil))
def c_law_names_1 : FE := mCallC (byPos 2 f_law_draw) (mCons (mVar 0) (mCons (mC (.int 26)) (mNil))) (mNil)
def s_law_names_d : FS := mSet 6 (mLc false (mRange1 (mVar 4)) (aName 9) (fun _ vh => .ok true vh) (c_law_names_1) [9])
def s_law_names_e : FS := mSet 7 (mOp dEq (mCallC (byPos 2 f_law_draw) (mCons (mVar 0) (mCons (mC (.int 2)) (mNil))) (mNil)) (mC (.int 0)))
def s_law_names_f : FS := mSet 8 (mLstM (mNil))
def s_law_names_g1a : FS := mSet 10 (mIf (mTest (mVar 7)) (mVar 4) (mOp dAdd (mOp dAdd (mVar 5) (mC (.int 1))) (mCallC (byPos 2 f_law_draw) (mCons (mVar 0) (mCons (mOp dSub (mVar 4) (mVar 5)) (mNil))) (mNil))))
def s_law_names_g1b : FS := mSet 11 (mListM (mCons (mVar 6) (mNil)))
def s_law_names_g1c : FS := mSetItem (mVar 11) (mVar 5) (mOp dMod (mBlt cInt (mCons (mOp dAdd (mOp dIx (mVar 6) (mVar 5)) (mOp dMul (mC (.int 11)) (mVar 9))) (mNil))) (mC (.int 26)))
def c_law_names_2 : FE := mOp dIx (mVar 3) (mVar 13)
def s_law_names_g1d : FS := mSet 12 (mMt "str" gJoin (mC (.str "")) (mCons (mLc false (mSeqI (mSl (mVar 11) mNoPart (mPart (mVar 10)))) (aName 13) (fun _ vh => .ok true vh) (c_law_names_2) [13]) (mNil)))
def s_law_names_g1e : FS := mSet 12 (mIf (mTest (mOp dEq (mVar 12) (mC (.str "writable")))) (mC (.str "writablr")) (mVar 12))
def s_law_names_g1f : FS := mDo (mMut gAppend (mVar 8) (mCons (mIf (mTest (mVar 2)) (mOp dAdd (mMt "str" gUpper (mSl (mVar 12) mNoPart (mPart (mC (.int 1)))) mNil) (mSl (mVar 12) (mPart (mC (.int 1))) mNoPart)) (mVar 12)) (mNil)))
def s_law_names_g : FS := mForS (mRange1 (mVar 1)) (aName 9) (mFgt [9, 10, 11, 12] (mSeq (s_law_names_g1a) (mSeq (s_law_names_g1b) (mSeq (s_law_names_g1c) (mSeq (s_law_names_g1d) (mSeq (s_law_names_g1e) (s_law_names_g1f)))))))
def s_law_names_h : FS := mRet (mVar 8)
def s_law_names : FS := mSeq (s_law_names_a) (mSeq (s_law_names_b) (mSeq (s_law_names_c) (mSeq (s_law_names_d) (mSeq (s_law_names_e) (mSeq (s_law_names_f) (mSeq (s_law_names_g) (s_law_names_h)))))))
def f_law_names : FN := mFn 3 14 s_law_names
abbrev st_law_value : Stmt := top 35
abbrev N_law_value : List Str := ["_law_bag_here", "_law_kinds"]
def s_law_value_a : FS := mRet (mCallC (byPos 2 f_law_of) (mCons (mVar 0) (mCons (mOp dAdd (mOp dAdd (mLst (mCons (mC (.str "int")) (mCons (mC (.str "str")) (mCons (mC (.str "bool")) (mCons (mC (.str "int")) (mNil)))))) (mVar 1)) (mVar 1)) (mNil))) (mNil))
def s_law_value : FS := s_law_value_a
def f_law_value : FN := mFn 2 2 s_law_value
abbrev st_law_content : Stmt := top 36
abbrev N_law_content : List Str := ["_law_bag_here", "_law_kinds", "_law_parameters", "_law_k"]
def s_law_content_a1a : FS := mRet (mCallC (byPos 2 f_law_value) (mCons (mVar 0) (mCons (mVar 1) (mNil))) (mNil))
def s_law_content_a : FS := mIfS (mTest (mOp dGt (mCallC (byPos 2 f_law_draw) (mCons (mVar 0) (mCons (mC (.int 4)) (mNil))) (mNil)) (mC (.int 0)))) (s_law_content_a1a) (mSkip)
def c_law_content_1 : FE := mCallC (byPos 2 f_law_value) (mCons (mVar 0) (mCons (mVar 1) (mNil))) (mNil)
def s_law_content_b : FS := mSet 2 (mBlt cTuple (mCons (mLc false (mRange1 (mCallC (byPos 2 f_law_draw) (mCons (mVar 0) (mCons (mC (.int 4)) (mNil))) (mNil))) (aName 3) (fun _ vh => .ok true vh) (c_law_content_1) [3]) (mNil)))
def s_law_content_c : FS := mRet (mTup (mCons (mC (.str "method")) (mCons (mVar 2) (mCons (mCallC (byPos 2 f_law_value) (mCons (mVar 0) (mCons (mVar 1) (mNil))) (mNil)) (mNil)))))
def s_law_content : FS := mSeq (s_law_content_a) (mSeq (s_law_content_b) (s_law_content_c))
def f_law_content : FN := mFn 2 4 s_law_content
abbrev st_law_member : Stmt := top 37
abbrev N_law_member : List Str := ["_law_bag_here", "_law_label", "_law_kinds", "_law_presence", "_law_content_here"]
def s_law_member_a : FS := mSet 3 (mCallC (byPos 2 f_law_of) (mCons (mVar 0) (mCons (mLst (mCons (mC (.str "required")) (mCons (mC (.str "required")) (mCons (mC (.str "optional")) (mCons (mC (.str "absent")) (mNil)))))) (mNil))) (mNil))
def s_law_member_b1a : FS := mRet (mTup (mCons (mVar 1) (mCons (mVar 3) (mCons (mC .non) (mCons (mC (.bl false)) (mNil))))))
def s_law_member_b : FS := mIfS (mTest (mOp dEq (mVar 3) (mC (.str "absent")))) (s_law_member_b1a) (mSkip)
def s_law_member_c : FS := mSet 4 (mCallC (byPos 2 f_law_content) (mCons (mVar 0) (mCons (mVar 2) (mNil))) (mNil))
def s_law_member_d : FS := mRet (mTup (mCons (mVar 1) (mCons (mVar 3) (mCons (mVar 4) (mCons (mAnd (mBlt cIsi (mCons (mVar 4) (mCons (mC (.ty "str")) (mNil)))) (mOp dEq (mCallC (byPos 2 f_law_draw) (mCons (mVar 0) (mCons (mC (.int 3)) (mNil))) (mNil)) (mC (.int 0)))) (mNil))))))
def s_law_member : FS := mSeq (s_law_member_a) (mSeq (s_law_member_b) (mSeq (s_law_member_c) (s_law_member_d)))
def f_law_member : FN := mFn 3 5 s_law_member
abbrev st_law_interface : Stmt := top 38
abbrev N_law_interface : List Str := ["_law_row"]
def s_law_interface_a : FS := mRet (mMake "Interface" true (byPar 3 2 [.p 0, .p 1, .p 2, .k 0, .k 1] [] f_Interface_init) (mCons (mOp dIx (mVar 0) (mC (.int 0))) (mCons (mBlt cList (mCons (mOp dIx (mVar 0) (mC (.int 1))) (mNil))) (mNil))) (mCons (mOp dIx (mVar 0) (mC (.int 2))) (mCons (mBlt cList (mCons (mOp dIx (mVar 0) (mC (.int 3))) (mNil))) (mNil))))
def s_law_interface : FS := s_law_interface_a
def f_law_interface : FN := mFn 1 1 s_law_interface
abbrev st_law : Stmt := top 39
abbrev N_law : List Str := ["_law_script", "_law_bag_here", "_law_kinds", "_law_names_here", "_law_turn", "_law_members", "_law_row", "_law_due", "_law_label", "_law_member_here"]
def s_law_a : FS := mSet 1 (mCallC (byPos 1 f_law_bag) (mCons (mVar 0) (mNil)) (mNil))
def s_law_b : FS := mAsg (mTup (mCons (mCallC (byPos 3 (mShut f_law_names)) (mCons (mVar 1) (mCons (mC (.int 3)) (mCons (mC (.bl true)) (mNil)))) (mNil)) (mCons (mCallC (byPos 3 (mShut f_law_names)) (mCons (mVar 1) (mCons (mC (.int 6)) (mCons (mC (.bl false)) (mNil)))) (mNil)) (mNil)))) (aTup 2 (aCons (aName 2) (aCons (aName 3) (aNil))))
def t_law_1 : FT := mTest (mOp dEq (mCallC (byPos 2 f_law_draw) (mCons (mVar 1) (mCons (mC (.int 3)) (mNil))) (mNil)) (mC (.int 0)))
def c_law_2 : FE := mCallC (byPos 3 f_law_member) (mCons (mVar 1) (mCons (mVar 8) (mCons (mVar 2) (mNil)))) (mNil)
def s_law_c1a : FS := mSet 5 (mLc false (mSeqI (mVar 3)) (aName 8) (t_law_1) (c_law_2) [8])
def s_law_c1b : FS := mSet 6 (mTup (mCons (mOp dIx (mVar 2) (mC (.int 0))) (mCons (mBlt cSorted (mCons (mVar 5) (mNil))) (mCons (mOp dGt (mCallC (byPos 2 f_law_draw) (mCons (mVar 1) (mCons (mC (.int 3)) (mNil))) (mNil)) (mC (.int 0))) (mCons (mBlt cTuple (mCons (mBlt cSorted (mCons (mCallC (byPos 2 f_law_some) (mCons (mVar 1) (mCons (mVar 3) (mNil))) (mNil)) (mNil))) (mNil))) (mNil))))))
def c_law_3 : FE := mOp dEq (mOp dIx (mVar 9) (mC (.int 1))) (mC (.str "optional"))
def s_law_c1c : FS := mSet 7 (mAnd (mOp dIx (mVar 6) (mC (.int 2))) (mNot (mBlt cAny (mCons (mLc false (mSeqI (mVar 5)) (aName 9) (fun _ vh => .ok true vh) (c_law_3) [9]) (mNil)))))
def s_law_c1d1a : FS := mRet (mC (.bl false))
def s_law_c1d : FS := mIfS (mNotT (mTest (mCallC (byPos 2 f_law_same) (mCons (mCallC (byPos 1 f_is_class) (mCons (mCallC (byPos 1 f_law_interface) (mCons (mVar 6) (mNil)) (mNil)) (mNil)) (mNil)) (mCons (mVar 7) (mNil))) (mNil)))) (s_law_c1d1a) (mSkip)
def s_law_c : FS := mForS (mRange1 (mC (.int 8))) (aName 4) (mFgt [4, 5, 6, 7] (mSeq (s_law_c1a) (mSeq (s_law_c1b) (mSeq (s_law_c1c) (s_law_c1d)))))
def s_law_d : FS := mRet (mC (.bl true))
def s_law : FS := mSeq (s_law_a) (mSeq (s_law_b) (mSeq (s_law_c) (s_law_d)))
def f_law : FN := mFn 1 10 s_law
structure Txt (K : PySem.W.Frag) (mg : Str → Option Value) (C_Interface : Addr) : Prop where
  no_all : mg "all" = none
  no_any : mg "any" = none
  no_enumerate : mg "enumerate" = none
  no_int : mg "int" = none
  no_isinstance : mg "isinstance" = none
  no_len : mg "len" = none
  no_list : mg "list" = none
  no_range : mg "range" = none
  no_repr : mg "repr" = none
  no_sorted : mg "sorted" = none
  no_str : mg "str" = none
  no_tuple : mg "tuple" = none
  k_LONGEST_NAME : Konst K mg "LONGEST_NAME" (.int 8)
  k_SMALL : Konst K mg "SMALL" (.str "abcdefghijklmnopqrstuvwxyz")
  k_FLAG : Konst K mg "FLAG" (.str "writable")
  k_GREAT : Konst K mg "GREAT" (.str "ABCDEFGHIJKLMNOPQRSTUVWXYZ")
  k_PLAIN : Konst K mg "PLAIN" (.ctp [(.str "int"), (.str "str"), (.str "bool")])
  k_MOST_PARAMETERS : Konst K mg "MOST_PARAMETERS" (.int 3)
  k_PRESENCES : Konst K mg "PRESENCES" (.ctp [(.str "required"), (.str "optional"), (.str "absent")])
  k_MOST_MEMBERS : Konst K mg "MOST_MEMBERS" (.int 12)
  c_Interface : KClass K mg "Interface" C_Interface
  n_Interface_name : NoAttr K C_Interface "name"
  n_Interface_sealed : NoAttr K C_Interface "sealed"
  n_Interface_brands : NoAttr K C_Interface "brands"
  n_Interface_table : NoAttr K C_Interface "table"
  mk_Interface : PySem.W.makesIn K C_Interface = true
  kc_Interface : PySem.W.keepIn K (.ref C_Interface) = true
section
variable {P : Program} {w : World} {K : PySem.W.Frag} {mg : Str → Option Value} {base : Heap} {C_Interface : Addr}
theorem p_is_member_name_1 (kV doc pm : Value) (an : Option Addr) (cdv ct : Value) (us : List Value) (h : us.length = 1) : bindArgs (PySem.W.fnOf "is_member_name" "is_member_name" (defArgs st_is_member_name) (defBody st_is_member_name) (defScope st_is_member_name) .none kV doc pm an cdv ct) ⟨us, []⟩ = pure ((["text"] : List Str).zip us) := match us, h with | [_], _ => rfl
theorem g_is_member_name (T : Txt K mg C_Interface) {f : Addr} {fd : FuncData} (D : GFun K mg "is_member_name" st_is_member_name [] [] f fd) : FnG P w K mg base 1 f fd ["text"] f_is_member_name := by
  have S : FnScope N_is_member_name ["text"] (defScope st_is_member_name) := ⟨rfl, rfl, rfl, by decide +kernel, rfl, by decide +kernel, by decide +kernel⟩
  have hN := S.nd
  refine FnG.df (N := N_is_member_name) (g := s_is_member_name) D.df S fun cdv A outer s H E hid hr ng tk => ?_
  have hu := hr.un
  have h65 : (A.deeper (envOfC "is_member_name" (defScope st_is_member_name) s.heap.objs.size f cdv)).units + 65 < cLine := by omega
  have h64 : (A.deeper (envOfC "is_member_name" (defScope st_is_member_name) s.heap.objs.size f cdv)).units + 64 < cLine := by omega
  have h1 : (A.deeper (envOfC "is_member_name" (defScope st_is_member_name) s.heap.objs.size f cdv)).units + 1 < cLine := by omega
  exact mss_one (ms_ret (me_and (me_chain (op_le) od_le (op_le) od_le (me_int) (me_callB (call_lenM) cd_len rfl T.no_len bt_len (ma_cons (me_var 0) (ma_nil))) (me_k T.k_LONGEST_NAME rfl rfl)) (me_and (me_callB (cr_all rfl) cd_all rfl T.no_all bt_all (ma_cons (me_lc false rfl hN (mi_seq rfl (me_var 0)) (blkOk_by (own := [("sign", 1)]) (by kernel_rfl)) (fun s H C cl fp hid => mg_name 1 hN) (fun s H C cl fp hid => mts_nil) (fun s H C cl fp hid => me_cmp (op_inM h65) od_in (me_var 1) (me_k T.k_SMALL rfl rfl) (by first | exact nobehind _ (by decide) (by decide) | rfl))) (ma_nil))) (me_one (me_cmp (op_neM h64) od_ne (me_var 0) (me_k T.k_FLAG rfl rfl) (by first | exact nobehind _ (by decide) (by decide) | rfl))))))
theorem p_is_interface_name_1 (kV doc pm : Value) (an : Option Addr) (cdv ct : Value) (us : List Value) (h : us.length = 1) : bindArgs (PySem.W.fnOf "is_interface_name" "is_interface_name" (defArgs st_is_interface_name) (defBody st_is_interface_name) (defScope st_is_interface_name) .none kV doc pm an cdv ct) ⟨us, []⟩ = pure ((["text"] : List Str).zip us) := match us, h with | [_], _ => rfl
theorem g_is_interface_name (T : Txt K mg C_Interface) {f : Addr} {fd : FuncData} (D : GFun K mg "is_interface_name" st_is_interface_name [] [] f fd) : FnG P w K mg base 1 f fd ["text"] f_is_interface_name := by
  have S : FnScope N_is_interface_name ["text"] (defScope st_is_interface_name) := ⟨rfl, rfl, rfl, by decide +kernel, rfl, by decide +kernel, by decide +kernel⟩
  have hN := S.nd
  refine FnG.df (N := N_is_interface_name) (g := s_is_interface_name) D.df S fun cdv A outer s H E hid hr ng tk => ?_
  have hu := hr.un
  have h65 : (A.deeper (envOfC "is_interface_name" (defScope st_is_interface_name) s.heap.objs.size f cdv)).units + 65 < cLine := by omega
  have h64 : (A.deeper (envOfC "is_interface_name" (defScope st_is_interface_name) s.heap.objs.size f cdv)).units + 64 < cLine := by omega
  have h1 : (A.deeper (envOfC "is_interface_name" (defScope st_is_interface_name) s.heap.objs.size f cdv)).units + 1 < cLine := by omega
  exact mss_one (ms_ret (me_and (me_chain (op_le) od_le (op_le) od_le (me_int) (me_callB (call_lenM) cd_len rfl T.no_len bt_len (ma_cons (me_var 0) (ma_nil))) (me_k T.k_LONGEST_NAME rfl rfl)) (me_and (me_cmp (op_inM h65) od_in (me_ix rfl h1 (me_var 0) (me_int)) (me_k T.k_GREAT rfl rfl) (by first | exact nobehind _ (by decide) (by decide) | rfl)) (me_one (me_callB (cr_all rfl) cd_all rfl T.no_all bt_all (ma_cons (me_lc false rfl hN (mi_seq rfl (me_slice rfl (me_var 0) (mo_some (me_int)) mo_none)) (blkOk_by (own := [("sign", 1)]) (by kernel_rfl)) (fun s H C cl fp hid => mg_name 1 hN) (fun s H C cl fp hid => mts_nil) (fun s H C cl fp hid => me_cmp (op_inM h65) od_in (me_var 1) (me_k T.k_SMALL rfl rfl) (by first | exact nobehind _ (by decide) (by decide) | rfl))) (ma_nil)))))))
theorem p_is_value_content_1 (kV doc pm : Value) (an : Option Addr) (cdv ct : Value) (us : List Value) (h : us.length = 1) : bindArgs (PySem.W.fnOf "is_value_content" "is_value_content" (defArgs st_is_value_content) (defBody st_is_value_content) (defScope st_is_value_content) .none kV doc pm an cdv ct) ⟨us, []⟩ = pure ((["content"] : List Str).zip us) := match us, h with | [_], _ => rfl
theorem g_is_value_content (T : Txt K mg C_Interface) {f : Addr} {fd : FuncData} (D : GFun K mg "is_value_content" st_is_value_content [] [] f fd) {a_is_interface_name : Addr} {fd_is_interface_name : FuncData} (D_is_interface_name : GFun K mg "is_interface_name" st_is_interface_name [] [] a_is_interface_name fd_is_interface_name) (G_is_interface_name : FnG P w K mg base 1 a_is_interface_name fd_is_interface_name ["text"] f_is_interface_name) : FnG P w K mg base 2 f fd ["content"] f_is_value_content := by
  have S : FnScope N_is_value_content ["content"] (defScope st_is_value_content) := ⟨rfl, rfl, rfl, by decide +kernel, rfl, by decide +kernel, by decide +kernel⟩
  have hN := S.nd
  refine FnG.df (N := N_is_value_content) (g := s_is_value_content) D.df S fun cdv A outer s H E hid hr ng tk => ?_
  have hu := hr.un
  have h65 : (A.deeper (envOfC "is_value_content" (defScope st_is_value_content) s.heap.objs.size f cdv)).units + 65 < cLine := by omega
  have h64 : (A.deeper (envOfC "is_value_content" (defScope st_is_value_content) s.heap.objs.size f cdv)).units + 64 < cLine := by omega
  have h1 : (A.deeper (envOfC "is_value_content" (defScope st_is_value_content) s.heap.objs.size f cdv)).units + 1 < cLine := by omega
  exact mss_one (ms_ret (me_and (me_callB (call_isi) cd_isi rfl T.no_isinstance bt_isinstance (ma_cons (me_var 0) (ma_cons (me_ty rfl T.no_str bt_str) (ma_nil)))) (me_one (me_or (me_cmp (op_inM h65) od_in (me_var 0) (me_k T.k_PLAIN rfl rfl) (by first | exact nobehind _ (by decide) (by decide) | rfl)) (me_one (mc_call rfl rfl (FnC.pos (n := 1) G_is_interface_name D_is_interface_name.df p_is_interface_name_1) (hr.mono (by decide)) ng tk rfl D_is_interface_name.m D_is_interface_name.df.kp (ma_cons (me_var 0) (ma_nil)) (mk_nil)))))))
theorem p_is_method_1 (kV doc pm : Value) (an : Option Addr) (cdv ct : Value) (us : List Value) (h : us.length = 1) : bindArgs (PySem.W.fnOf "is_method" "is_method" (defArgs st_is_method) (defBody st_is_method) (defScope st_is_method) .none kV doc pm an cdv ct) ⟨us, []⟩ = pure ((["content"] : List Str).zip us) := match us, h with | [_], _ => rfl
theorem g_is_method (T : Txt K mg C_Interface) {f : Addr} {fd : FuncData} (D : GFun K mg "is_method" st_is_method [] [] f fd) {a_is_value_content : Addr} {fd_is_value_content : FuncData} (D_is_value_content : GFun K mg "is_value_content" st_is_value_content [] [] a_is_value_content fd_is_value_content) (G_is_value_content : FnG P w K mg base 2 a_is_value_content fd_is_value_content ["content"] f_is_value_content) : FnG P w K mg base 3 f fd ["content"] f_is_method := by
  have S : FnScope N_is_method ["content"] (defScope st_is_method) := ⟨rfl, rfl, rfl, by decide +kernel, rfl, by decide +kernel, by decide +kernel⟩
  have hN := S.nd
  refine FnG.df (N := N_is_method) (g := s_is_method) D.df S fun cdv A outer s H E hid hr ng tk => ?_
  have hu := hr.un
  have h65 : (A.deeper (envOfC "is_method" (defScope st_is_method) s.heap.objs.size f cdv)).units + 65 < cLine := by omega
  have h64 : (A.deeper (envOfC "is_method" (defScope st_is_method) s.heap.objs.size f cdv)).units + 64 < cLine := by omega
  have h1 : (A.deeper (envOfC "is_method" (defScope st_is_method) s.heap.objs.size f cdv)).units + 1 < cLine := by omega
  exact mss_cons (ms_if (PW.pt (mw_or (mt_not (mt_val (me_callB (call_isi) cd_isi rfl T.no_isinstance bt_isinstance (ma_cons (me_var 0) (ma_cons (me_ty rfl T.no_tuple bt_tuple) (ma_nil)))))) (mw_or (mt_cmp (op_neM h64) od_ne (me_callB (call_lenM) cd_len rfl T.no_len bt_len (ma_cons (me_var 0) (ma_nil))) (me_int) (by first | exact nobehind _ (by decide) (by decide) | rfl)) (mw_or1 (mt_cmp (op_neM h64) od_ne (me_ix rfl h1 (me_var 0) (me_int)) (me_str) (by first | exact nobehind _ (by decide) (by decide) | rfl)))))) (mss_one (ms_ret (me_bl))) (mss_nil)) (mss_cons (ms_if (mt_cmp (op_gt) od_gt (me_callB (call_lenM) cd_len rfl T.no_len bt_len (ma_cons (me_ix rfl h1 (me_var 0) (me_int)) (ma_nil))) (me_k T.k_MOST_PARAMETERS rfl rfl) (by first | exact nobehind _ (by decide) (by decide) | rfl)) (mss_one (ms_ret (me_bl))) (mss_nil)) (mss_one (ms_ret (me_and (me_callB (cr_all rfl) cd_all rfl T.no_all bt_all (ma_cons (me_lc false rfl hN (mi_seq rfl (me_ix rfl h1 (me_var 0) (me_int))) (blkOk_by (own := [("one", 1)]) (by kernel_rfl)) (fun s H C cl fp hid => mg_name 1 hN) (fun s H C cl fp hid => mts_nil) (fun s H C cl fp hid => mc_call rfl rfl (FnC.pos (n := 1) G_is_value_content D_is_value_content.df p_is_value_content_1) (hr.mono (by decide)) ng takes0 rfl D_is_value_content.m D_is_value_content.df.kp (ma_cons (me_var 1) (ma_nil)) (mk_nil))) (ma_nil))) (me_one (mc_call rfl rfl (FnC.pos (n := 1) G_is_value_content D_is_value_content.df p_is_value_content_1) (hr.mono (by decide)) ng tk rfl D_is_value_content.m D_is_value_content.df.kp (ma_cons (me_ix rfl h1 (me_var 0) (me_int)) (ma_nil)) (mk_nil)))))))
theorem p_is_member_1 (kV doc pm : Value) (an : Option Addr) (cdv ct : Value) (us : List Value) (h : us.length = 1) : bindArgs (PySem.W.fnOf "is_member" "is_member" (defArgs st_is_member) (defBody st_is_member) (defScope st_is_member) .none kV doc pm an cdv ct) ⟨us, []⟩ = pure ((["member"] : List Str).zip us) := match us, h with | [_], _ => rfl
theorem g_is_member (T : Txt K mg C_Interface) {f : Addr} {fd : FuncData} (D : GFun K mg "is_member" st_is_member [] [] f fd) {a_is_member_name : Addr} {fd_is_member_name : FuncData} (D_is_member_name : GFun K mg "is_member_name" st_is_member_name [] [] a_is_member_name fd_is_member_name) (G_is_member_name : FnG P w K mg base 1 a_is_member_name fd_is_member_name ["text"] f_is_member_name) {a_is_value_content : Addr} {fd_is_value_content : FuncData} (D_is_value_content : GFun K mg "is_value_content" st_is_value_content [] [] a_is_value_content fd_is_value_content) (G_is_value_content : FnG P w K mg base 2 a_is_value_content fd_is_value_content ["content"] f_is_value_content) {a_is_method : Addr} {fd_is_method : FuncData} (D_is_method : GFun K mg "is_method" st_is_method [] [] a_is_method fd_is_method) (G_is_method : FnG P w K mg base 3 a_is_method fd_is_method ["content"] f_is_method) : FnG P w K mg base 4 f fd ["member"] f_is_member := by
  have S : FnScope N_is_member ["member"] (defScope st_is_member) := ⟨rfl, rfl, rfl, by decide +kernel, rfl, by decide +kernel, by decide +kernel⟩
  have hN := S.nd
  refine FnG.df (N := N_is_member) (g := s_is_member) D.df S fun cdv A outer s H E hid hr ng tk => ?_
  have hu := hr.un
  have h65 : (A.deeper (envOfC "is_member" (defScope st_is_member) s.heap.objs.size f cdv)).units + 65 < cLine := by omega
  have h64 : (A.deeper (envOfC "is_member" (defScope st_is_member) s.heap.objs.size f cdv)).units + 64 < cLine := by omega
  have h1 : (A.deeper (envOfC "is_member" (defScope st_is_member) s.heap.objs.size f cdv)).units + 1 < cLine := by omega
  exact mss_cons (ms_tup (me_var 0) (mg_tup rfl rfl (mgs_cons (mg_name 1 hN) (mgs_cons (mg_name 2 hN) (mgs_cons (mg_name 3 hN) (mgs_cons (mg_name 4 hN) (mgs_nil))))))) (mss_cons (ms_if (PW.pt (mw_or (mt_not (mt_val (mc_call rfl rfl (FnC.pos (n := 1) G_is_member_name D_is_member_name.df p_is_member_name_1) (hr.mono (by decide)) ng tk rfl D_is_member_name.m D_is_member_name.df.kp (ma_cons (me_var 1) (ma_nil)) (mk_nil)))) (mw_or1 (mt_cmp (op_notInM h65) od_notIn (me_var 2) (me_k T.k_PRESENCES rfl rfl) (by first | exact nobehind _ (by decide) (by decide) | rfl))))) (mss_one (ms_ret (me_bl))) (mss_nil)) (mss_cons (ms_if (mt_cmp (op_eqM h64) od_eq (me_var 2) (me_str) (by first | exact nobehind _ (by decide) (by decide) | rfl)) (mss_one (ms_ret (me_and (me_cmp (op_isN) od_isN (me_var 3) (me_non) (by first | exact nobehind _ (by decide) (by decide) | rfl)) (me_one (me_not (me_var 4)))))) (mss_nil)) (mss_one (ms_ret (me_or (mc_call rfl rfl (FnC.pos (n := 1) G_is_value_content D_is_value_content.df p_is_value_content_1) (hr.mono (by decide)) ng tk rfl D_is_value_content.m D_is_value_content.df.kp (ma_cons (me_var 3) (ma_nil)) (mk_nil)) (me_one (me_and (mc_call rfl rfl (FnC.pos (n := 1) G_is_method D_is_method.df p_is_method_1) (hr.mono (by decide)) ng tk rfl D_is_method.m D_is_method.df.kp (ma_cons (me_var 3) (ma_nil)) (mk_nil)) (me_one (me_not (me_var 4))))))))))
theorem p_sorted_brands_1 (kV doc pm : Value) (an : Option Addr) (cdv ct : Value) (us : List Value) (h : us.length = 1) : bindArgs (PySem.W.fnOf "sorted_brands" "sorted_brands" (defArgs st_sorted_brands) (defBody st_sorted_brands) (defScope st_sorted_brands) .none kV doc pm an cdv ct) ⟨us, []⟩ = pure ((["brands"] : List Str).zip us) := match us, h with | [_], _ => rfl
theorem g_sorted_brands (T : Txt K mg C_Interface) {f : Addr} {fd : FuncData} (D : GFun K mg "sorted_brands" st_sorted_brands [] [] f fd) {a_is_member_name : Addr} {fd_is_member_name : FuncData} (D_is_member_name : GFun K mg "is_member_name" st_is_member_name [] [] a_is_member_name fd_is_member_name) (G_is_member_name : FnG P w K mg base 1 a_is_member_name fd_is_member_name ["text"] f_is_member_name) : FnG P w K mg base 2 f fd ["brands"] f_sorted_brands := by
  have S : FnScope N_sorted_brands ["brands"] (defScope st_sorted_brands) := ⟨rfl, rfl, rfl, by decide +kernel, rfl, by decide +kernel, by decide +kernel⟩
  have hN := S.nd
  refine FnG.df (N := N_sorted_brands) (g := s_sorted_brands) D.df S fun cdv A outer s H E hid hr ng tk => ?_
  have hu := hr.un
  have h65 : (A.deeper (envOfC "sorted_brands" (defScope st_sorted_brands) s.heap.objs.size f cdv)).units + 65 < cLine := by omega
  have h64 : (A.deeper (envOfC "sorted_brands" (defScope st_sorted_brands) s.heap.objs.size f cdv)).units + 64 < cLine := by omega
  have h1 : (A.deeper (envOfC "sorted_brands" (defScope st_sorted_brands) s.heap.objs.size f cdv)).units + 1 < cLine := by omega
  have hp := passes_of (X := cxOf (L2.CX P w) P w K mg base N_sorted_brands "sorted_brands" (defScope st_sorted_brands) f cdv A outer s H E) rfl
  exact mss_cons (ms_set 1 hN (me_lstM (ma_nil))) (mss_cons (ms_for hp rfl (mi_seq rfl (me_var 0)) (mg_name 2 hN) (mss_fgt [2] (mss_cons (ms_if (mt_not (mt_val (mc_call rfl rfl (FnC.pos (n := 1) G_is_member_name D_is_member_name.df p_is_member_name_1) (hr.mono (by decide)) ng tk rfl D_is_member_name.m D_is_member_name.df.kp (ma_cons (me_var 2) (ma_nil)) (mk_nil)))) (mss_one (ms_never)) (mss_nil)) (mss_cons (ms_if (mt_cmp (op_inM h65) od_in (me_var 2) (me_var 1) (by first | exact nobehind _ (by decide) (by decide) | rfl)) (mss_one (ms_never)) (mss_nil)) (mss_one (ms_expr (me_mut rfl PySem.F.slot_list_append PySem.F.type_list_append mt_append mu_append (me_var 1) (ma_cons (me_var 2) (ma_nil))))))))) (mss_cons (ms_if (mt_cmp (op_gt) od_gt (me_callB (call_lenM) cd_len rfl T.no_len bt_len (ma_cons (me_var 1) (ma_nil))) (me_k T.k_MOST_MEMBERS rfl rfl) (by first | exact nobehind _ (by decide) (by decide) | rfl)) (mss_one (ms_never)) (mss_nil)) (mss_one (ms_ret (me_callTy (call_tuple_of) cd_tuple rfl T.no_tuple bt_tuple (ma_cons (me_callB (call_sortM rfl) cd_sorted rfl T.no_sorted bt_sorted (ma_cons (me_var 1) (ma_nil))) (ma_nil)))))))
theorem b_Interface_init_3_sealed_brands {f : Addr} {fd : FuncData} (D : GDf K mg "__init__" "Interface.__init__" st_Interface_init [] [("sealed", (.bl false)), ("brands", (.ctp []))] f fd) : BnB K mg fd ["self", "name", "members", "sealed", "brands"] 3 ["sealed", "brands"] [.p 0, .p 1, .p 2, .k 0, .k 1] [] := D.b0 (ps := ["self", "name", "members", "sealed", "brands"]) 3 ["sealed", "brands"] [.p 0, .p 1, .p 2, .k 0, .k 1] rfl fun _ _ _ _ _ _ us ws h1 h2 => match us, ws, h1, h2 with | [_, _, _], [_, _], _, _ => rfl
theorem g_Interface_init (T : Txt K mg C_Interface) {f : Addr} {fd : FuncData} (D : GMth K mg "__init__" "Interface.__init__" st_Interface_init [] [("sealed", (.bl false)), ("brands", (.ctp []))] C_Interface f fd) {a_is_interface_name : Addr} {fd_is_interface_name : FuncData} (D_is_interface_name : GFun K mg "is_interface_name" st_is_interface_name [] [] a_is_interface_name fd_is_interface_name) (G_is_interface_name : FnG P w K mg base 1 a_is_interface_name fd_is_interface_name ["text"] f_is_interface_name) {a_is_member : Addr} {fd_is_member : FuncData} (D_is_member : GFun K mg "is_member" st_is_member [] [] a_is_member fd_is_member) (G_is_member : FnG P w K mg base 4 a_is_member fd_is_member ["member"] f_is_member) {a_sorted_brands : Addr} {fd_sorted_brands : FuncData} (D_sorted_brands : GFun K mg "sorted_brands" st_sorted_brands [] [] a_sorted_brands fd_sorted_brands) (G_sorted_brands : FnG P w K mg base 2 a_sorted_brands fd_sorted_brands ["brands"] f_sorted_brands) : FnG P w K mg base 5 f fd ["self", "name", "members", "sealed", "brands"] f_Interface_init := by
  have S : FnScope N_Interface_init ["self", "name", "members", "sealed", "brands"] (defScope st_Interface_init) := ⟨rfl, rfl, rfl, by decide +kernel, rfl, by decide +kernel, by decide +kernel⟩
  have hN := S.nd
  refine FnG.df (N := N_Interface_init) (g := s_Interface_init) D.df S fun cdv A outer s H E hid hr ng tk => ?_
  have hu := hr.un
  have h65 : (A.deeper (envOfC "Interface.__init__" (defScope st_Interface_init) s.heap.objs.size f cdv)).units + 65 < cLine := by omega
  have h64 : (A.deeper (envOfC "Interface.__init__" (defScope st_Interface_init) s.heap.objs.size f cdv)).units + 64 < cLine := by omega
  have h1 : (A.deeper (envOfC "Interface.__init__" (defScope st_Interface_init) s.heap.objs.size f cdv)).units + 1 < cLine := by omega
  have hp := passes_of (X := cxOf (L2.CX P w) P w K mg base N_Interface_init "Interface.__init__" (defScope st_Interface_init) f cdv A outer s H E) rfl
  exact mss_cons (ms_if (mt_not (mt_val (mc_call rfl rfl (FnC.pos (n := 1) G_is_interface_name D_is_interface_name.df p_is_interface_name_1) (hr.mono (by decide)) ng tk rfl D_is_interface_name.m D_is_interface_name.df.kp (ma_cons (me_var 1) (ma_nil)) (mk_nil)))) (mss_one (ms_never)) (mss_nil)) (mss_cons (ms_set 5 hN (me_dic0)) (mss_cons (ms_for hp rfl (mi_enum rfl rfl T.no_enumerate (me_var 2)) (mg_tup rfl rfl (mgs_cons (mg_name 6 hN) (mgs_cons (mg_name 7 hN) (mgs_nil)))) (mss_fgt [6, 7] (mss_cons (ms_if (mt_not (mt_val (mc_call rfl rfl (FnC.pos (n := 1) G_is_member D_is_member.df p_is_member_1) (hr.mono (by decide)) ng tk rfl D_is_member.m D_is_member.df.kp (ma_cons (me_var 7) (ma_nil)) (mk_nil)))) (mss_one (ms_never)) (mss_nil)) (mss_cons (ms_if (mt_cmp (op_inM h65) od_in (me_ix rfl h1 (me_var 7) (me_int)) (me_var 5) (by first | exact nobehind _ (by decide) (by decide) | rfl)) (mss_one (ms_never)) (mss_nil)) (mss_one (ms_setItem h1 (me_var 5) (me_ix rfl h1 (me_var 7) (me_int)) (me_var 7))))))) (mss_cons (ms_if (mt_cmp (op_gt) od_gt (me_callB (call_lenM) cd_len rfl T.no_len bt_len (ma_cons (me_var 5) (ma_nil))) (me_k T.k_MOST_MEMBERS rfl rfl) (by first | exact nobehind _ (by decide) (by decide) | rfl)) (mss_one (ms_never)) (mss_nil)) (mss_cons (ms_fld rfl rfl (KFlds.cons (T.c_Interface.fld T.n_Interface_name) (KFlds.nil)) (me_var 0) (me_var 1)) (mss_cons (ms_fld rfl rfl (KFlds.cons (T.c_Interface.fld T.n_Interface_sealed) (KFlds.nil)) (me_var 0) (me_var 3)) (mss_cons (ms_fld rfl rfl (KFlds.cons (T.c_Interface.fld T.n_Interface_brands) (KFlds.nil)) (me_var 0) (mc_call rfl rfl (FnC.pos (n := 1) G_sorted_brands.shut D_sorted_brands.df p_sorted_brands_1) (hr.mono (by decide)) ng tk rfl D_sorted_brands.m D_sorted_brands.df.kp (ma_cons (me_var 4) (ma_nil)) (mk_nil))) (mss_one (ms_fld rfl rfl (KFlds.cons (T.c_Interface.fld T.n_Interface_table) (KFlds.nil)) (me_var 0) (me_dc false rfl hN (mi_seq rfl (me_callB (call_sortM rfl) cd_sorted rfl T.no_sorted bt_sorted (ma_cons (me_var 5) (ma_nil)))) (blkOk_by (own := [("key", 8)]) (by kernel_rfl)) (fun s H C cl fp hid => mg_name 8 hN) (fun s H C cl fp hid => mts_nil) (fun s H C cl fp hid => me_var 8) (fun s H C cl fp hid => me_ix rfl h1 (me_var 5) (me_var 8)))))))))))
theorem p_Interface_members_1 (kV doc pm : Value) (an : Option Addr) (cdv ct : Value) (us : List Value) (h : us.length = 1) : bindArgs (PySem.W.fnOf "members" "Interface.members" (defArgs st_Interface_members) (defBody st_Interface_members) (defScope st_Interface_members) .none kV doc pm an cdv ct) ⟨us, []⟩ = pure ((["self"] : List Str).zip us) := match us, h with | [_], _ => rfl
theorem g_Interface_members (T : Txt K mg C_Interface) {f : Addr} {fd : FuncData} (D : GMth K mg "members" "Interface.members" st_Interface_members [] [] C_Interface f fd) : FnG P w K mg base 1 f fd ["self"] f_Interface_members := by
  have S : FnScope N_Interface_members ["self"] (defScope st_Interface_members) := ⟨rfl, rfl, rfl, by decide +kernel, rfl, by decide +kernel, by decide +kernel⟩
  have hN := S.nd
  refine FnG.df (N := N_Interface_members) (g := s_Interface_members) D.df S fun cdv A outer s H E hid hr ng tk => ?_
  have hu := hr.un
  have h65 : (A.deeper (envOfC "Interface.members" (defScope st_Interface_members) s.heap.objs.size f cdv)).units + 65 < cLine := by omega
  have h64 : (A.deeper (envOfC "Interface.members" (defScope st_Interface_members) s.heap.objs.size f cdv)).units + 64 < cLine := by omega
  have h1 : (A.deeper (envOfC "Interface.members" (defScope st_Interface_members) s.heap.objs.size f cdv)).units + 1 < cLine := by omega
  exact mss_one (ms_ret (me_values rfl rfl T.no_list (me_fld rfl rfl (KFlds.cons (T.c_Interface.fld T.n_Interface_table) (KFlds.nil)) (me_var 0))))
theorem p_is_class_1 (kV doc pm : Value) (an : Option Addr) (cdv ct : Value) (us : List Value) (h : us.length = 1) : bindArgs (PySem.W.fnOf "is_class" "is_class" (defArgs st_is_class) (defBody st_is_class) (defScope st_is_class) .none kV doc pm an cdv ct) ⟨us, []⟩ = pure ((["interface"] : List Str).zip us) := match us, h with | [_], _ => rfl
theorem g_is_class (T : Txt K mg C_Interface) {f : Addr} {fd : FuncData} (D : GFun K mg "is_class" st_is_class [] [] f fd) {a_Interface_members : Addr} {fd_Interface_members : FuncData} (D_Interface_members : GMth K mg "members" "Interface.members" st_Interface_members [] [] C_Interface a_Interface_members fd_Interface_members) (G_Interface_members : FnG P w K mg base 1 a_Interface_members fd_Interface_members ["self"] f_Interface_members) : FnG P w K mg base 2 f fd ["interface"] f_is_class := by
  have S : FnScope N_is_class ["interface"] (defScope st_is_class) := ⟨rfl, rfl, rfl, by decide +kernel, rfl, by decide +kernel, by decide +kernel⟩
  have hN := S.nd
  refine FnG.df (N := N_is_class) (g := s_is_class) D.df S fun cdv A outer s H E hid hr ng tk => ?_
  have hu := hr.un
  have h65 : (A.deeper (envOfC "is_class" (defScope st_is_class) s.heap.objs.size f cdv)).units + 65 < cLine := by omega
  have h64 : (A.deeper (envOfC "is_class" (defScope st_is_class) s.heap.objs.size f cdv)).units + 64 < cLine := by omega
  have h1 : (A.deeper (envOfC "is_class" (defScope st_is_class) s.heap.objs.size f cdv)).units + 1 < cLine := by omega
  exact mss_one (ms_ret (me_and (me_fld rfl rfl (KFlds.cons (T.c_Interface.fld T.n_Interface_sealed) (KFlds.nil)) (me_var 0)) (me_one (me_callB (cr_all rfl) cd_all rfl T.no_all bt_all (ma_cons (me_lc false rfl hN (mi_seq rfl (me_meth0 (k := 1) rfl rfl (MOk.cons (D_Interface_members.mev T.c_Interface (FnC.mono (FnC.pos (n := 1) G_Interface_members D_Interface_members.df p_Interface_members_1) (by decide))) (MOk.nil)) (hr.mono (by decide)) ng tk (me_var 0))) (blkOk_by (own := [("member", 1)]) (by kernel_rfl)) (fun s H C cl fp hid => mg_name 1 hN) (fun s H C cl fp hid => mts_nil) (fun s H C cl fp hid => me_cmp (op_neM h64) od_ne (me_ix rfl h1 (me_var 1) (me_int)) (me_str) (by first | exact nobehind _ (by decide) (by decide) | rfl))) (ma_nil))))))
theorem p_law_bag_1 (kV doc pm : Value) (an : Option Addr) (cdv ct : Value) (us : List Value) (h : us.length = 1) : bindArgs (PySem.W.fnOf "_law_bag" "_law_bag" (defArgs st_law_bag) (defBody st_law_bag) (defScope st_law_bag) .none kV doc pm an cdv ct) ⟨us, []⟩ = pure ((["_law_script"] : List Str).zip us) := match us, h with | [_], _ => rfl
theorem g_law_bag (T : Txt K mg C_Interface) {f : Addr} {fd : FuncData} (D : GFun K mg "_law_bag" st_law_bag [] [] f fd) : FnG P w K mg base 1 f fd ["_law_script"] f_law_bag := by
  have S : FnScope N_law_bag ["_law_script"] (defScope st_law_bag) := ⟨rfl, rfl, rfl, by decide +kernel, rfl, by decide +kernel, by decide +kernel⟩
  have hN := S.nd
  refine FnG.df (N := N_law_bag) (g := s_law_bag) D.df S fun cdv A outer s H E hid hr ng tk => ?_
  have hu := hr.un
  have h65 : (A.deeper (envOfC "_law_bag" (defScope st_law_bag) s.heap.objs.size f cdv)).units + 65 < cLine := by omega
  have h64 : (A.deeper (envOfC "_law_bag" (defScope st_law_bag) s.heap.objs.size f cdv)).units + 64 < cLine := by omega
  have h1 : (A.deeper (envOfC "_law_bag" (defScope st_law_bag) s.heap.objs.size f cdv)).units + 1 < cLine := by omega
  exact mss_one (ms_ret (me_lstM (ma_cons (me_callTy (call_list_of) cd_list rfl T.no_list bt_list (ma_cons (me_slice rfl (me_var 0) mo_none (mo_some (me_int))) (ma_nil))) (ma_cons (me_int) (ma_cons (me_int) (ma_cons (me_int) (ma_cons (me_int) (ma_nil))))))))
theorem p_law_draw_2 (kV doc pm : Value) (an : Option Addr) (cdv ct : Value) (us : List Value) (h : us.length = 2) : bindArgs (PySem.W.fnOf "_law_draw" "_law_draw" (defArgs st_law_draw) (defBody st_law_draw) (defScope st_law_draw) .none kV doc pm an cdv ct) ⟨us, []⟩ = pure ((["_law_bag_here", "_law_many"] : List Str).zip us) := match us, h with | [_, _], _ => rfl
theorem g_law_draw (T : Txt K mg C_Interface) {f : Addr} {fd : FuncData} (D : GFun K mg "_law_draw" st_law_draw [] [] f fd) : FnG P w K mg base 1 f fd ["_law_bag_here", "_law_many"] f_law_draw := by
  have S : FnScope N_law_draw ["_law_bag_here", "_law_many"] (defScope st_law_draw) := ⟨rfl, rfl, rfl, by decide +kernel, rfl, by decide +kernel, by decide +kernel⟩
  have hN := S.nd
  refine FnG.df (N := N_law_draw) (g := s_law_draw) D.df S fun cdv A outer s H E hid hr ng tk => ?_
  have hu := hr.un
  have h65 : (A.deeper (envOfC "_law_draw" (defScope st_law_draw) s.heap.objs.size f cdv)).units + 65 < cLine := by omega
  have h64 : (A.deeper (envOfC "_law_draw" (defScope st_law_draw) s.heap.objs.size f cdv)).units + 64 < cLine := by omega
  have h1 : (A.deeper (envOfC "_law_draw" (defScope st_law_draw) s.heap.objs.size f cdv)).units + 1 < cLine := by omega
  exact mss_cons (ms_if (PW.pt (mw_and (mt_cmp (op_eqM h64) od_eq (me_ix rfl h1 (me_var 0) (me_int)) (me_int) (by first | exact nobehind _ (by decide) (by decide) | rfl)) (mw_and1 (mt_cmp (op_lt) od_lt (me_ix rfl h1 (me_var 0) (me_int)) (me_callB (call_lenM) cd_len rfl T.no_len bt_len (ma_cons (me_ix rfl h1 (me_var 0) (me_int)) (ma_nil))) (by first | exact nobehind _ (by decide) (by decide) | rfl))))) (mss_cons (ms_set 3 hN (me_ix rfl h1 (me_ix rfl h1 (me_var 0) (me_int)) (me_ix rfl h1 (me_var 0) (me_int)))) (mss_cons (ms_setItem h1 (me_var 0) (me_int) (me_op op_addM od_add (me_ix rfl h1 (me_var 0) (me_int)) (me_int))) (mss_cons (ms_setItem h1 (me_var 0) (me_int) (me_op op_mod od_mod (me_callTy (call_int1) cd_int rfl T.no_int bt_int (ma_cons (me_op op_addM od_add (me_op op_addM od_add (me_op op_mul od_mul (me_ix rfl h1 (me_var 0) (me_int)) (me_int)) (me_op op_mul od_mul (me_op op_mod od_mod (me_callTy (call_int1) cd_int rfl T.no_int bt_int (ma_cons (me_var 3) (ma_nil))) (me_int)) (me_int))) (me_int)) (ma_nil))) (me_int))) (mss_one (ms_if (mt_cmp (op_ge) od_ge (me_var 3) (me_op op_pow od_pow (me_int) (me_int)) (by first | exact nobehind _ (by decide) (by decide) | rfl)) (mss_one (ms_setItem h1 (me_var 0) (me_int) (me_var 3))) (mss_nil)))))) (mss_nil)) (mss_cons (ms_if (mt_cmp (op_gt) od_gt (me_ix rfl h1 (me_var 0) (me_int)) (me_int) (by first | exact nobehind _ (by decide) (by decide) | rfl)) (mss_cons (ms_set 4 hN (me_op op_mod od_mod (me_callTy (call_int1) cd_int rfl T.no_int bt_int (ma_cons (me_ix rfl h1 (me_var 0) (me_int)) (ma_nil))) (me_var 1))) (mss_cons (ms_setItem h1 (me_var 0) (me_int) (me_op op_fdiv od_fdiv (me_ix rfl h1 (me_var 0) (me_int)) (me_var 1))) (mss_one (ms_ret (me_var 4))))) (mss_nil)) (mss_cons (ms_setItem h1 (me_var 0) (me_int) (me_op op_addM od_add (me_ix rfl h1 (me_var 0) (me_int)) (me_int))) (mss_cons (ms_set 2 hN (me_ix rfl h1 (me_var 0) (me_int))) (mss_cons (ms_setItem h1 (me_var 0) (me_int) (me_op op_mod od_mod (me_callTy (call_int1) cd_int rfl T.no_int bt_int (ma_cons (me_op op_addM od_add (me_op op_addM od_add (me_op op_addM od_add (me_op op_mul od_mul (me_var 2) (me_var 2)) (me_op op_mul od_mul (me_int) (me_var 2))) (me_op op_mul od_mul (me_int) (me_ix rfl h1 (me_var 0) (me_int)))) (me_int)) (ma_nil))) (me_int))) (mss_one (ms_ret (me_op op_mod od_mod (me_callTy (call_int1) cd_int rfl T.no_int bt_int (ma_cons (me_op op_addM od_add (me_op op_addM od_add (me_op op_fdiv od_fdiv (me_ix rfl h1 (me_var 0) (me_int)) (me_int)) (me_op op_mul od_mul (me_var 2) (me_int))) (me_ix rfl h1 (me_var 0) (me_int))) (ma_nil))) (me_var 1))))))))
theorem p_law_of_2 (kV doc pm : Value) (an : Option Addr) (cdv ct : Value) (us : List Value) (h : us.length = 2) : bindArgs (PySem.W.fnOf "_law_of" "_law_of" (defArgs st_law_of) (defBody st_law_of) (defScope st_law_of) .none kV doc pm an cdv ct) ⟨us, []⟩ = pure ((["_law_bag_here", "_law_some_here"] : List Str).zip us) := match us, h with | [_, _], _ => rfl
theorem g_law_of (T : Txt K mg C_Interface) {f : Addr} {fd : FuncData} (D : GFun K mg "_law_of" st_law_of [] [] f fd) {a_law_draw : Addr} {fd_law_draw : FuncData} (D_law_draw : GFun K mg "_law_draw" st_law_draw [] [] a_law_draw fd_law_draw) (G_law_draw : FnG P w K mg base 1 a_law_draw fd_law_draw ["_law_bag_here", "_law_many"] f_law_draw) : FnG P w K mg base 2 f fd ["_law_bag_here", "_law_some_here"] f_law_of := by
  have S : FnScope N_law_of ["_law_bag_here", "_law_some_here"] (defScope st_law_of) := ⟨rfl, rfl, rfl, by decide +kernel, rfl, by decide +kernel, by decide +kernel⟩
  have hN := S.nd
  refine FnG.df (N := N_law_of) (g := s_law_of) D.df S fun cdv A outer s H E hid hr ng tk => ?_
  have hu := hr.un
  have h65 : (A.deeper (envOfC "_law_of" (defScope st_law_of) s.heap.objs.size f cdv)).units + 65 < cLine := by omega
  have h64 : (A.deeper (envOfC "_law_of" (defScope st_law_of) s.heap.objs.size f cdv)).units + 64 < cLine := by omega
  have h1 : (A.deeper (envOfC "_law_of" (defScope st_law_of) s.heap.objs.size f cdv)).units + 1 < cLine := by omega
  exact mss_one (ms_ret (me_ix rfl h1 (me_var 1) (mc_call rfl rfl (FnC.pos (n := 2) G_law_draw D_law_draw.df p_law_draw_2) (hr.mono (by decide)) ng tk rfl D_law_draw.m D_law_draw.df.kp (ma_cons (me_var 0) (ma_cons (me_callB (call_lenM) cd_len rfl T.no_len bt_len (ma_cons (me_var 1) (ma_nil))) (ma_nil))) (mk_nil))))
theorem p_law_mixed_2 (kV doc pm : Value) (an : Option Addr) (cdv ct : Value) (us : List Value) (h : us.length = 2) : bindArgs (PySem.W.fnOf "_law_mixed" "_law_mixed" (defArgs st_law_mixed) (defBody st_law_mixed) (defScope st_law_mixed) .none kV doc pm an cdv ct) ⟨us, []⟩ = pure ((["_law_bag_here", "_law_things"] : List Str).zip us) := match us, h with | [_, _], _ => rfl
theorem g_law_mixed (T : Txt K mg C_Interface) {f : Addr} {fd : FuncData} (D : GFun K mg "_law_mixed" st_law_mixed [] [] f fd) {a_law_draw : Addr} {fd_law_draw : FuncData} (D_law_draw : GFun K mg "_law_draw" st_law_draw [] [] a_law_draw fd_law_draw) (G_law_draw : FnG P w K mg base 1 a_law_draw fd_law_draw ["_law_bag_here", "_law_many"] f_law_draw) : FnG P w K mg base 2 f fd ["_law_bag_here", "_law_things"] f_law_mixed := by
  have S : FnScope N_law_mixed ["_law_bag_here", "_law_things"] (defScope st_law_mixed) := ⟨rfl, rfl, rfl, by decide +kernel, rfl, by decide +kernel, by decide +kernel⟩
  have hN := S.nd
  refine FnG.df (N := N_law_mixed) (g := s_law_mixed) D.df S fun cdv A outer s H E hid hr ng tk => ?_
  have hu := hr.un
  have h65 : (A.deeper (envOfC "_law_mixed" (defScope st_law_mixed) s.heap.objs.size f cdv)).units + 65 < cLine := by omega
  have h64 : (A.deeper (envOfC "_law_mixed" (defScope st_law_mixed) s.heap.objs.size f cdv)).units + 64 < cLine := by omega
  have h1 : (A.deeper (envOfC "_law_mixed" (defScope st_law_mixed) s.heap.objs.size f cdv)).units + 1 < cLine := by omega
  have hp := passes_of (X := cxOf (L2.CX P w) P w K mg base N_law_mixed "_law_mixed" (defScope st_law_mixed) f cdv A outer s H E) rfl
  exact mss_cons (ms_set 2 hN (me_lstM (ma_nil))) (mss_cons (ms_for hp rfl (mi_seq rfl (me_var 1)) (mg_name 3 hN) (mss_fgt [3] (mss_one (ms_expr (me_mut rfl PySem.F.slot_list_insert PySem.F.type_list_insert mt_insertM mu_insert (me_var 2) (ma_cons (mc_call rfl rfl (FnC.pos (n := 2) G_law_draw D_law_draw.df p_law_draw_2) (hr.mono (by decide)) ng tk rfl D_law_draw.m D_law_draw.df.kp (ma_cons (me_var 0) (ma_cons (me_op op_addM od_add (me_callB (call_lenM) cd_len rfl T.no_len bt_len (ma_cons (me_var 2) (ma_nil))) (me_int)) (ma_nil))) (mk_nil)) (ma_cons (me_var 3) (ma_nil)))))))) (mss_one (ms_ret (me_var 2))))
theorem p_law_some_2 (kV doc pm : Value) (an : Option Addr) (cdv ct : Value) (us : List Value) (h : us.length = 2) : bindArgs (PySem.W.fnOf "_law_some" "_law_some" (defArgs st_law_some) (defBody st_law_some) (defScope st_law_some) .none kV doc pm an cdv ct) ⟨us, []⟩ = pure ((["_law_bag_here", "_law_things"] : List Str).zip us) := match us, h with | [_, _], _ => rfl
theorem g_law_some (T : Txt K mg C_Interface) {f : Addr} {fd : FuncData} (D : GFun K mg "_law_some" st_law_some [] [] f fd) {a_law_mixed : Addr} {fd_law_mixed : FuncData} (D_law_mixed : GFun K mg "_law_mixed" st_law_mixed [] [] a_law_mixed fd_law_mixed) (G_law_mixed : FnG P w K mg base 2 a_law_mixed fd_law_mixed ["_law_bag_here", "_law_things"] f_law_mixed) {a_law_draw : Addr} {fd_law_draw : FuncData} (D_law_draw : GFun K mg "_law_draw" st_law_draw [] [] a_law_draw fd_law_draw) (G_law_draw : FnG P w K mg base 1 a_law_draw fd_law_draw ["_law_bag_here", "_law_many"] f_law_draw) : FnG P w K mg base 3 f fd ["_law_bag_here", "_law_things"] f_law_some := by
  have S : FnScope N_law_some ["_law_bag_here", "_law_things"] (defScope st_law_some) := ⟨rfl, rfl, rfl, by decide +kernel, rfl, by decide +kernel, by decide +kernel⟩
  have hN := S.nd
  refine FnG.df (N := N_law_some) (g := s_law_some) D.df S fun cdv A outer s H E hid hr ng tk => ?_
  have hu := hr.un
  have h65 : (A.deeper (envOfC "_law_some" (defScope st_law_some) s.heap.objs.size f cdv)).units + 65 < cLine := by omega
  have h64 : (A.deeper (envOfC "_law_some" (defScope st_law_some) s.heap.objs.size f cdv)).units + 64 < cLine := by omega
  have h1 : (A.deeper (envOfC "_law_some" (defScope st_law_some) s.heap.objs.size f cdv)).units + 1 < cLine := by omega
  exact mss_one (ms_ret (me_lc false rfl hN (mi_seq rfl (mc_call rfl rfl (FnC.pos (n := 2) G_law_mixed.shut D_law_mixed.df p_law_mixed_2) (hr.mono (by decide)) ng tk rfl D_law_mixed.m D_law_mixed.df.kp (ma_cons (me_var 0) (ma_cons (me_var 1) (ma_nil))) (mk_nil))) (blkOk_by (own := [("_law_thing", 2)]) (by kernel_rfl)) (fun s H C cl fp hid => mg_name 2 hN) (fun s H C cl fp hid => mts_one (mt_cmp (op_eqM h64) od_eq (mc_call rfl rfl (FnC.pos (n := 2) G_law_draw D_law_draw.df p_law_draw_2) (hr.mono (by decide)) ng takes0 rfl D_law_draw.m D_law_draw.df.kp (ma_cons (me_var 0) (ma_cons (me_int) (ma_nil))) (mk_nil)) (me_int) (by first | exact nobehind _ (by decide) (by decide) | rfl))) (fun s H C cl fp hid => me_var 2)))
theorem p_law_same_2 (kV doc pm : Value) (an : Option Addr) (cdv ct : Value) (us : List Value) (h : us.length = 2) : bindArgs (PySem.W.fnOf "_law_same" "_law_same" (defArgs st_law_same) (defBody st_law_same) (defScope st_law_same) .none kV doc pm an cdv ct) ⟨us, []⟩ = pure ((["_law_found", "_law_due"] : List Str).zip us) := match us, h with | [_, _], _ => rfl
theorem g_law_same (T : Txt K mg C_Interface) {f : Addr} {fd : FuncData} (D : GFun K mg "_law_same" st_law_same [] [] f fd) : FnG P w K mg base 1 f fd ["_law_found", "_law_due"] f_law_same := by
  have S : FnScope N_law_same ["_law_found", "_law_due"] (defScope st_law_same) := ⟨rfl, rfl, rfl, by decide +kernel, rfl, by decide +kernel, by decide +kernel⟩
  have hN := S.nd
  refine FnG.df (N := N_law_same) (g := s_law_same) D.df S fun cdv A outer s H E hid hr ng tk => ?_
  have hu := hr.un
  have h65 : (A.deeper (envOfC "_law_same" (defScope st_law_same) s.heap.objs.size f cdv)).units + 65 < cLine := by omega
  have h64 : (A.deeper (envOfC "_law_same" (defScope st_law_same) s.heap.objs.size f cdv)).units + 64 < cLine := by omega
  have h1 : (A.deeper (envOfC "_law_same" (defScope st_law_same) s.heap.objs.size f cdv)).units + 1 < cLine := by omega
  exact mss_one (ms_ret (me_cmp (op_eqM h64) od_eq (me_callB (call_reprA h64 ng) cd_repA rfl T.no_repr bt_repr (ma_cons (me_var 0) (ma_nil))) (me_callB (call_reprA h64 ng) cd_repA rfl T.no_repr bt_repr (ma_cons (me_var 1) (ma_nil))) (by first | exact nobehind _ (by decide) (by decide) | rfl)))
theorem p_law_names_3 (kV doc pm : Value) (an : Option Addr) (cdv ct : Value) (us : List Value) (h : us.length = 3) : bindArgs (PySem.W.fnOf "_law_names" "_law_names" (defArgs st_law_names) (defBody st_law_names) (defScope st_law_names) .none kV doc pm an cdv ct) ⟨us, []⟩ = pure ((["_law_bag_here", "_law_many", "_law_great"] : List Str).zip us) := match us, h with | [_, _, _], _ => rfl
theorem g_law_names (T : Txt K mg C_Interface) {f : Addr} {fd : FuncData} (D : GFun K mg "_law_names" st_law_names [] [] f fd) {a_law_draw : Addr} {fd_law_draw : FuncData} (D_law_draw : GFun K mg "_law_draw" st_law_draw [] [] a_law_draw fd_law_draw) (G_law_draw : FnG P w K mg base 1 a_law_draw fd_law_draw ["_law_bag_here", "_law_many"] f_law_draw) : FnG P w K mg base 2 f fd ["_law_bag_here", "_law_many", "_law_great"] f_law_names := by
  have S : FnScope N_law_names ["_law_bag_here", "_law_many", "_law_great"] (defScope st_law_names) := ⟨rfl, rfl, rfl, by decide +kernel, rfl, by decide +kernel, by decide +kernel⟩
  have hN := S.nd
  refine FnG.df (N := N_law_names) (g := s_law_names) D.df S fun cdv A outer s H E hid hr ng tk => ?_
  have hu := hr.un
  have h65 : (A.deeper (envOfC "_law_names" (defScope st_law_names) s.heap.objs.size f cdv)).units + 65 < cLine := by omega
  have h64 : (A.deeper (envOfC "_law_names" (defScope st_law_names) s.heap.objs.size f cdv)).units + 64 < cLine := by omega
  have h1 : (A.deeper (envOfC "_law_names" (defScope st_law_names) s.heap.objs.size f cdv)).units + 1 < cLine := by omega
  have hp := passes_of (X := cxOf (L2.CX P w) P w K mg base N_law_names "_law_names" (defScope st_law_names) f cdv A outer s H E) rfl
  exact mss_cons (ms_set 3 hN (me_str)) (mss_cons (ms_set 4 hN (me_op op_addM od_add (me_int) (mc_call rfl rfl (FnC.pos (n := 2) G_law_draw D_law_draw.df p_law_draw_2) (hr.mono (by decide)) ng tk rfl D_law_draw.m D_law_draw.df.kp (ma_cons (me_var 0) (ma_cons (me_int) (ma_nil))) (mk_nil)))) (mss_cons (ms_set 5 hN (mc_call rfl rfl (FnC.pos (n := 2) G_law_draw D_law_draw.df p_law_draw_2) (hr.mono (by decide)) ng tk rfl D_law_draw.m D_law_draw.df.kp (ma_cons (me_var 0) (ma_cons (me_var 4) (ma_nil))) (mk_nil))) (mss_cons (ms_setLc 6 false rfl hN (mi_range1 rfl T.no_range (me_var 4)) (blkOk_by (own := [("_law_k", 9)]) (by kernel_rfl)) (fun s H C cl fp hid => mg_name 9 hN) (fun s H C cl fp hid => mts_nil) (fun s H C cl fp hid => mc_call rfl rfl (FnC.pos (n := 2) G_law_draw D_law_draw.df p_law_draw_2) (hr.mono (by decide)) ng takes0 rfl D_law_draw.m D_law_draw.df.kp (ma_cons (me_var 0) (ma_cons (me_int) (ma_nil))) (mk_nil))) (mss_cons (ms_set 7 hN (me_cmp (op_eqM h64) od_eq (mc_call rfl rfl (FnC.pos (n := 2) G_law_draw D_law_draw.df p_law_draw_2) (hr.mono (by decide)) ng tk rfl D_law_draw.m D_law_draw.df.kp (ma_cons (me_var 0) (ma_cons (me_int) (ma_nil))) (mk_nil)) (me_int) (by first | exact nobehind _ (by decide) (by decide) | rfl))) (mss_cons (ms_set 8 hN (me_lstM (ma_nil))) (mss_cons (ms_for hp rfl (mi_range1 rfl T.no_range (me_var 1)) (mg_name 9 hN) (mss_fgt [9, 10, 11, 12] (mss_cons (ms_set 10 hN (me_ifExp (mt_val (me_var 7)) (me_var 4) (me_op op_addM od_add (me_op op_addM od_add (me_var 5) (me_int)) (mc_call rfl rfl (FnC.pos (n := 2) G_law_draw D_law_draw.df p_law_draw_2) (hr.mono (by decide)) ng tk rfl D_law_draw.m D_law_draw.df.kp (ma_cons (me_var 0) (ma_cons (me_op op_sub od_sub (me_var 4) (me_var 5)) (ma_nil))) (mk_nil))))) (mss_cons (ms_set 11 hN (me_listM rfl rfl T.no_list bt_list (ma_cons (me_var 6) (ma_nil)))) (mss_cons (ms_setItem h1 (me_var 11) (me_var 5) (me_op op_mod od_mod (me_callTy (call_int1) cd_int rfl T.no_int bt_int (ma_cons (me_op op_addM od_add (me_ix rfl h1 (me_var 6) (me_var 5)) (me_op op_mul od_mul (me_int) (me_var 9))) (ma_nil))) (me_int))) (mss_cons (ms_set 12 hN (me_mt rfl PySem.F.plainAttrs_str PySem.F.slot_str_join PySem.F.type_str_join mt_join md_join (me_str) (ma_cons (me_lc false rfl hN (mi_seq rfl (me_slice rfl (me_var 11) mo_none (mo_some (me_var 10)))) (blkOk_by (own := [("_law_at", 13)]) (by kernel_rfl)) (fun s H C cl fp hid => mg_name 13 hN) (fun s H C cl fp hid => mts_nil) (fun s H C cl fp hid => me_ix rfl h1 (me_var 3) (me_var 13))) (ma_nil)))) (mss_cons (ms_set 12 hN (me_ifExp (mt_cmp (op_eqM h64) od_eq (me_var 12) (me_str) (by first | exact nobehind _ (by decide) (by decide) | rfl)) (me_str) (me_var 12))) (mss_one (ms_expr (me_mut rfl PySem.F.slot_list_append PySem.F.type_list_append mt_append mu_append (me_var 8) (ma_cons (me_ifExp (mt_val (me_var 2)) (me_op op_addM od_add (me_mt0 rfl PySem.F.plainAttrs_str PySem.F.slot_str_upper PySem.F.type_str_upper mt_upper md_upper (me_slice rfl (me_var 12) mo_none (mo_some (me_int)))) (me_slice rfl (me_var 12) (mo_some (me_int)) mo_none)) (me_var 12)) (ma_nil)))))))))))) (mss_one (ms_ret (me_var 8)))))))))
theorem p_law_value_2 (kV doc pm : Value) (an : Option Addr) (cdv ct : Value) (us : List Value) (h : us.length = 2) : bindArgs (PySem.W.fnOf "_law_value" "_law_value" (defArgs st_law_value) (defBody st_law_value) (defScope st_law_value) .none kV doc pm an cdv ct) ⟨us, []⟩ = pure ((["_law_bag_here", "_law_kinds"] : List Str).zip us) := match us, h with | [_, _], _ => rfl
theorem g_law_value (T : Txt K mg C_Interface) {f : Addr} {fd : FuncData} (D : GFun K mg "_law_value" st_law_value [] [] f fd) {a_law_of : Addr} {fd_law_of : FuncData} (D_law_of : GFun K mg "_law_of" st_law_of [] [] a_law_of fd_law_of) (G_law_of : FnG P w K mg base 2 a_law_of fd_law_of ["_law_bag_here", "_law_some_here"] f_law_of) : FnG P w K mg base 3 f fd ["_law_bag_here", "_law_kinds"] f_law_value := by
  have S : FnScope N_law_value ["_law_bag_here", "_law_kinds"] (defScope st_law_value) := ⟨rfl, rfl, rfl, by decide +kernel, rfl, by decide +kernel, by decide +kernel⟩
  have hN := S.nd
  refine FnG.df (N := N_law_value) (g := s_law_value) D.df S fun cdv A outer s H E hid hr ng tk => ?_
  have hu := hr.un
  have h65 : (A.deeper (envOfC "_law_value" (defScope st_law_value) s.heap.objs.size f cdv)).units + 65 < cLine := by omega
  have h64 : (A.deeper (envOfC "_law_value" (defScope st_law_value) s.heap.objs.size f cdv)).units + 64 < cLine := by omega
  have h1 : (A.deeper (envOfC "_law_value" (defScope st_law_value) s.heap.objs.size f cdv)).units + 1 < cLine := by omega
  exact mss_one (ms_ret (mc_call rfl rfl (FnC.pos (n := 2) G_law_of D_law_of.df p_law_of_2) (hr.mono (by decide)) ng tk rfl D_law_of.m D_law_of.df.kp (ma_cons (me_var 0) (ma_cons (me_op op_addM od_add (me_op op_addM od_add (me_lst (ma_cons (me_str) (ma_cons (me_str) (ma_cons (me_str) (ma_cons (me_str) (ma_nil)))))) (me_var 1)) (me_var 1)) (ma_nil))) (mk_nil)))
theorem p_law_content_2 (kV doc pm : Value) (an : Option Addr) (cdv ct : Value) (us : List Value) (h : us.length = 2) : bindArgs (PySem.W.fnOf "_law_content" "_law_content" (defArgs st_law_content) (defBody st_law_content) (defScope st_law_content) .none kV doc pm an cdv ct) ⟨us, []⟩ = pure ((["_law_bag_here", "_law_kinds"] : List Str).zip us) := match us, h with | [_, _], _ => rfl
theorem g_law_content (T : Txt K mg C_Interface) {f : Addr} {fd : FuncData} (D : GFun K mg "_law_content" st_law_content [] [] f fd) {a_law_draw : Addr} {fd_law_draw : FuncData} (D_law_draw : GFun K mg "_law_draw" st_law_draw [] [] a_law_draw fd_law_draw) (G_law_draw : FnG P w K mg base 1 a_law_draw fd_law_draw ["_law_bag_here", "_law_many"] f_law_draw) {a_law_value : Addr} {fd_law_value : FuncData} (D_law_value : GFun K mg "_law_value" st_law_value [] [] a_law_value fd_law_value) (G_law_value : FnG P w K mg base 3 a_law_value fd_law_value ["_law_bag_here", "_law_kinds"] f_law_value) : FnG P w K mg base 4 f fd ["_law_bag_here", "_law_kinds"] f_law_content := by
  have S : FnScope N_law_content ["_law_bag_here", "_law_kinds"] (defScope st_law_content) := ⟨rfl, rfl, rfl, by decide +kernel, rfl, by decide +kernel, by decide +kernel⟩
  have hN := S.nd
  refine FnG.df (N := N_law_content) (g := s_law_content) D.df S fun cdv A outer s H E hid hr ng tk => ?_
  have hu := hr.un
  have h65 : (A.deeper (envOfC "_law_content" (defScope st_law_content) s.heap.objs.size f cdv)).units + 65 < cLine := by omega
  have h64 : (A.deeper (envOfC "_law_content" (defScope st_law_content) s.heap.objs.size f cdv)).units + 64 < cLine := by omega
  have h1 : (A.deeper (envOfC "_law_content" (defScope st_law_content) s.heap.objs.size f cdv)).units + 1 < cLine := by omega
  exact mss_cons (ms_if (mt_cmp (op_gt) od_gt (mc_call rfl rfl (FnC.pos (n := 2) G_law_draw D_law_draw.df p_law_draw_2) (hr.mono (by decide)) ng tk rfl D_law_draw.m D_law_draw.df.kp (ma_cons (me_var 0) (ma_cons (me_int) (ma_nil))) (mk_nil)) (me_int) (by first | exact nobehind _ (by decide) (by decide) | rfl)) (mss_one (ms_ret (mc_call rfl rfl (FnC.pos (n := 2) G_law_value D_law_value.df p_law_value_2) (hr.mono (by decide)) ng tk rfl D_law_value.m D_law_value.df.kp (ma_cons (me_var 0) (ma_cons (me_var 1) (ma_nil))) (mk_nil)))) (mss_nil)) (mss_cons (ms_set 2 hN (me_callTy (call_tuple_of) cd_tuple rfl T.no_tuple bt_tuple (ma_cons (me_lc false rfl hN (mi_range1 rfl T.no_range (mc_call rfl rfl (FnC.pos (n := 2) G_law_draw D_law_draw.df p_law_draw_2) (hr.mono (by decide)) ng tk rfl D_law_draw.m D_law_draw.df.kp (ma_cons (me_var 0) (ma_cons (me_int) (ma_nil))) (mk_nil))) (blkOk_by (own := [("_law_k", 3)]) (by kernel_rfl)) (fun s H C cl fp hid => mg_name 3 hN) (fun s H C cl fp hid => mts_nil) (fun s H C cl fp hid => mc_call rfl rfl (FnC.pos (n := 2) G_law_value D_law_value.df p_law_value_2) (hr.mono (by decide)) ng takes0 rfl D_law_value.m D_law_value.df.kp (ma_cons (me_var 0) (ma_cons (me_var 1) (ma_nil))) (mk_nil))) (ma_nil)))) (mss_one (ms_ret (me_tup (ma_cons (me_str) (ma_cons (me_var 2) (ma_cons (mc_call rfl rfl (FnC.pos (n := 2) G_law_value D_law_value.df p_law_value_2) (hr.mono (by decide)) ng tk rfl D_law_value.m D_law_value.df.kp (ma_cons (me_var 0) (ma_cons (me_var 1) (ma_nil))) (mk_nil)) (ma_nil))))))))
theorem p_law_member_3 (kV doc pm : Value) (an : Option Addr) (cdv ct : Value) (us : List Value) (h : us.length = 3) : bindArgs (PySem.W.fnOf "_law_member" "_law_member" (defArgs st_law_member) (defBody st_law_member) (defScope st_law_member) .none kV doc pm an cdv ct) ⟨us, []⟩ = pure ((["_law_bag_here", "_law_label", "_law_kinds"] : List Str).zip us) := match us, h with | [_, _, _], _ => rfl
theorem g_law_member (T : Txt K mg C_Interface) {f : Addr} {fd : FuncData} (D : GFun K mg "_law_member" st_law_member [] [] f fd) {a_law_of : Addr} {fd_law_of : FuncData} (D_law_of : GFun K mg "_law_of" st_law_of [] [] a_law_of fd_law_of) (G_law_of : FnG P w K mg base 2 a_law_of fd_law_of ["_law_bag_here", "_law_some_here"] f_law_of) {a_law_content : Addr} {fd_law_content : FuncData} (D_law_content : GFun K mg "_law_content" st_law_content [] [] a_law_content fd_law_content) (G_law_content : FnG P w K mg base 4 a_law_content fd_law_content ["_law_bag_here", "_law_kinds"] f_law_content) {a_law_draw : Addr} {fd_law_draw : FuncData} (D_law_draw : GFun K mg "_law_draw" st_law_draw [] [] a_law_draw fd_law_draw) (G_law_draw : FnG P w K mg base 1 a_law_draw fd_law_draw ["_law_bag_here", "_law_many"] f_law_draw) : FnG P w K mg base 5 f fd ["_law_bag_here", "_law_label", "_law_kinds"] f_law_member := by
  have S : FnScope N_law_member ["_law_bag_here", "_law_label", "_law_kinds"] (defScope st_law_member) := ⟨rfl, rfl, rfl, by decide +kernel, rfl, by decide +kernel, by decide +kernel⟩
  have hN := S.nd
  refine FnG.df (N := N_law_member) (g := s_law_member) D.df S fun cdv A outer s H E hid hr ng tk => ?_
  have hu := hr.un
  have h65 : (A.deeper (envOfC "_law_member" (defScope st_law_member) s.heap.objs.size f cdv)).units + 65 < cLine := by omega
  have h64 : (A.deeper (envOfC "_law_member" (defScope st_law_member) s.heap.objs.size f cdv)).units + 64 < cLine := by omega
  have h1 : (A.deeper (envOfC "_law_member" (defScope st_law_member) s.heap.objs.size f cdv)).units + 1 < cLine := by omega
  exact mss_cons (ms_set 3 hN (mc_call rfl rfl (FnC.pos (n := 2) G_law_of D_law_of.df p_law_of_2) (hr.mono (by decide)) ng tk rfl D_law_of.m D_law_of.df.kp (ma_cons (me_var 0) (ma_cons (me_lst (ma_cons (me_str) (ma_cons (me_str) (ma_cons (me_str) (ma_cons (me_str) (ma_nil)))))) (ma_nil))) (mk_nil))) (mss_cons (ms_if (mt_cmp (op_eqM h64) od_eq (me_var 3) (me_str) (by first | exact nobehind _ (by decide) (by decide) | rfl)) (mss_one (ms_ret (me_tup (ma_cons (me_var 1) (ma_cons (me_var 3) (ma_cons (me_non) (ma_cons (me_bl) (ma_nil)))))))) (mss_nil)) (mss_cons (ms_set 4 hN (mc_call rfl rfl (FnC.pos (n := 2) G_law_content D_law_content.df p_law_content_2) (hr.mono (by decide)) ng tk rfl D_law_content.m D_law_content.df.kp (ma_cons (me_var 0) (ma_cons (me_var 2) (ma_nil))) (mk_nil))) (mss_one (ms_ret (me_tup (ma_cons (me_var 1) (ma_cons (me_var 3) (ma_cons (me_var 4) (ma_cons (me_and (me_callB (call_isi) cd_isi rfl T.no_isinstance bt_isinstance (ma_cons (me_var 4) (ma_cons (me_ty rfl T.no_str bt_str) (ma_nil)))) (me_one (me_cmp (op_eqM h64) od_eq (mc_call rfl rfl (FnC.pos (n := 2) G_law_draw D_law_draw.df p_law_draw_2) (hr.mono (by decide)) ng tk rfl D_law_draw.m D_law_draw.df.kp (ma_cons (me_var 0) (ma_cons (me_int) (ma_nil))) (mk_nil)) (me_int) (by first | exact nobehind _ (by decide) (by decide) | rfl)))) (ma_nil))))))))))
theorem p_law_interface_1 (kV doc pm : Value) (an : Option Addr) (cdv ct : Value) (us : List Value) (h : us.length = 1) : bindArgs (PySem.W.fnOf "_law_interface" "_law_interface" (defArgs st_law_interface) (defBody st_law_interface) (defScope st_law_interface) .none kV doc pm an cdv ct) ⟨us, []⟩ = pure ((["_law_row"] : List Str).zip us) := match us, h with | [_], _ => rfl
theorem g_law_interface (T : Txt K mg C_Interface) {f : Addr} {fd : FuncData} (D : GFun K mg "_law_interface" st_law_interface [] [] f fd) {a_Interface_init : Addr} {fd_Interface_init : FuncData} (D_Interface_init : GMth K mg "__init__" "Interface.__init__" st_Interface_init [] [("sealed", (.bl false)), ("brands", (.ctp []))] C_Interface a_Interface_init fd_Interface_init) (G_Interface_init : FnG P w K mg base 5 a_Interface_init fd_Interface_init ["self", "name", "members", "sealed", "brands"] f_Interface_init) : FnG P w K mg base 7 f fd ["_law_row"] f_law_interface := by
  have b_Interface_init_3_sealed_brands := b_Interface_init_3_sealed_brands D_Interface_init.df
  have S : FnScope N_law_interface ["_law_row"] (defScope st_law_interface) := ⟨rfl, rfl, rfl, by decide +kernel, rfl, by decide +kernel, by decide +kernel⟩
  have hN := S.nd
  refine FnG.df (N := N_law_interface) (g := s_law_interface) D.df S fun cdv A outer s H E hid hr ng tk => ?_
  have hu := hr.un
  have h65 : (A.deeper (envOfC "_law_interface" (defScope st_law_interface) s.heap.objs.size f cdv)).units + 65 < cLine := by omega
  have h64 : (A.deeper (envOfC "_law_interface" (defScope st_law_interface) s.heap.objs.size f cdv)).units + 64 < cLine := by omega
  have h1 : (A.deeper (envOfC "_law_interface" (defScope st_law_interface) s.heap.objs.size f cdv)).units + 1 < cLine := by omega
  exact mss_one (ms_ret (me_make (fz := true) rfl rfl (D_Interface_init.toMk T.mk_Interface T.kc_Interface) (FnC.of G_Interface_init b_Interface_init_3_sealed_brands) (hr.mono (by decide)) ng tk rfl T.c_Interface.m (ma_cons (me_ix rfl h1 (me_var 0) (me_int)) (ma_cons (me_callTy (call_list_of) cd_list rfl T.no_list bt_list (ma_cons (me_ix rfl h1 (me_var 0) (me_int)) (ma_nil))) (ma_nil))) (mk_cons (me_ix rfl h1 (me_var 0) (me_int)) (mk_cons (me_callTy (call_list_of) cd_list rfl T.no_list bt_list (ma_cons (me_ix rfl h1 (me_var 0) (me_int)) (ma_nil))) (mk_nil)))))
theorem g_law (T : Txt K mg C_Interface) {f : Addr} {fd : FuncData} (D : GFun K mg "law" st_law [] [] f fd) {a_law_bag : Addr} {fd_law_bag : FuncData} (D_law_bag : GFun K mg "_law_bag" st_law_bag [] [] a_law_bag fd_law_bag) (G_law_bag : FnG P w K mg base 1 a_law_bag fd_law_bag ["_law_script"] f_law_bag) {a_law_names : Addr} {fd_law_names : FuncData} (D_law_names : GFun K mg "_law_names" st_law_names [] [] a_law_names fd_law_names) (G_law_names : FnG P w K mg base 2 a_law_names fd_law_names ["_law_bag_here", "_law_many", "_law_great"] f_law_names) {a_law_draw : Addr} {fd_law_draw : FuncData} (D_law_draw : GFun K mg "_law_draw" st_law_draw [] [] a_law_draw fd_law_draw) (G_law_draw : FnG P w K mg base 1 a_law_draw fd_law_draw ["_law_bag_here", "_law_many"] f_law_draw) {a_law_member : Addr} {fd_law_member : FuncData} (D_law_member : GFun K mg "_law_member" st_law_member [] [] a_law_member fd_law_member) (G_law_member : FnG P w K mg base 5 a_law_member fd_law_member ["_law_bag_here", "_law_label", "_law_kinds"] f_law_member) {a_law_some : Addr} {fd_law_some : FuncData} (D_law_some : GFun K mg "_law_some" st_law_some [] [] a_law_some fd_law_some) (G_law_some : FnG P w K mg base 3 a_law_some fd_law_some ["_law_bag_here", "_law_things"] f_law_some) {a_law_same : Addr} {fd_law_same : FuncData} (D_law_same : GFun K mg "_law_same" st_law_same [] [] a_law_same fd_law_same) (G_law_same : FnG P w K mg base 1 a_law_same fd_law_same ["_law_found", "_law_due"] f_law_same) {a_is_class : Addr} {fd_is_class : FuncData} (D_is_class : GFun K mg "is_class" st_is_class [] [] a_is_class fd_is_class) (G_is_class : FnG P w K mg base 2 a_is_class fd_is_class ["interface"] f_is_class) {a_law_interface : Addr} {fd_law_interface : FuncData} (D_law_interface : GFun K mg "_law_interface" st_law_interface [] [] a_law_interface fd_law_interface) (G_law_interface : FnG P w K mg base 7 a_law_interface fd_law_interface ["_law_row"] f_law_interface) : FnG P w K mg base 8 f fd ["_law_script"] f_law := by
  have S : FnScope N_law ["_law_script"] (defScope st_law) := ⟨rfl, rfl, rfl, by decide +kernel, rfl, by decide +kernel, by decide +kernel⟩
  have hN := S.nd
  refine FnG.df (N := N_law) (g := s_law) D.df S fun cdv A outer s H E hid hr ng tk => ?_
  have hu := hr.un
  have h65 : (A.deeper (envOfC "law" (defScope st_law) s.heap.objs.size f cdv)).units + 65 < cLine := by omega
  have h64 : (A.deeper (envOfC "law" (defScope st_law) s.heap.objs.size f cdv)).units + 64 < cLine := by omega
  have h1 : (A.deeper (envOfC "law" (defScope st_law) s.heap.objs.size f cdv)).units + 1 < cLine := by omega
  have hp := passes_of (X := cxOf (L2.CX P w) P w K mg base N_law "law" (defScope st_law) f cdv A outer s H E) rfl
  exact mss_cons (ms_set 1 hN (mc_call rfl rfl (FnC.pos (n := 1) G_law_bag D_law_bag.df p_law_bag_1) (hr.mono (by decide)) ng tk rfl D_law_bag.m D_law_bag.df.kp (ma_cons (me_var 0) (ma_nil)) (mk_nil))) (mss_cons (ms_tup (me_tup (ma_cons (mc_call rfl rfl (FnC.pos (n := 3) G_law_names.shut D_law_names.df p_law_names_3) (hr.mono (by decide)) ng tk rfl D_law_names.m D_law_names.df.kp (ma_cons (me_var 1) (ma_cons (me_int) (ma_cons (me_bl) (ma_nil)))) (mk_nil)) (ma_cons (mc_call rfl rfl (FnC.pos (n := 3) G_law_names.shut D_law_names.df p_law_names_3) (hr.mono (by decide)) ng tk rfl D_law_names.m D_law_names.df.kp (ma_cons (me_var 1) (ma_cons (me_int) (ma_cons (me_bl) (ma_nil)))) (mk_nil)) (ma_nil)))) (mg_tup rfl rfl (mgs_cons (mg_name 2 hN) (mgs_cons (mg_name 3 hN) (mgs_nil))))) (mss_cons (ms_for hp rfl (mi_range1 rfl T.no_range (me_int)) (mg_name 4 hN) (mss_fgt [4, 5, 6, 7] (mss_cons (ms_setLc 5 false rfl hN (mi_seq rfl (me_var 3)) (blkOk_by (own := [("_law_label", 8)]) (by kernel_rfl)) (fun s H C cl fp hid => mg_name 8 hN) (fun s H C cl fp hid => mts_one (mt_cmp (op_eqM h64) od_eq (mc_call rfl rfl (FnC.pos (n := 2) G_law_draw D_law_draw.df p_law_draw_2) (hr.mono (by decide)) ng takes0 rfl D_law_draw.m D_law_draw.df.kp (ma_cons (me_var 1) (ma_cons (me_int) (ma_nil))) (mk_nil)) (me_int) (by first | exact nobehind _ (by decide) (by decide) | rfl))) (fun s H C cl fp hid => mc_call rfl rfl (FnC.pos (n := 3) G_law_member D_law_member.df p_law_member_3) (hr.mono (by decide)) ng takes0 rfl D_law_member.m D_law_member.df.kp (ma_cons (me_var 1) (ma_cons (me_var 8) (ma_cons (me_var 2) (ma_nil)))) (mk_nil))) (mss_cons (ms_set 6 hN (me_tup (ma_cons (me_ix rfl h1 (me_var 2) (me_int)) (ma_cons (me_callB (call_sortM rfl) cd_sorted rfl T.no_sorted bt_sorted (ma_cons (me_var 5) (ma_nil))) (ma_cons (me_cmp (op_gt) od_gt (mc_call rfl rfl (FnC.pos (n := 2) G_law_draw D_law_draw.df p_law_draw_2) (hr.mono (by decide)) ng tk rfl D_law_draw.m D_law_draw.df.kp (ma_cons (me_var 1) (ma_cons (me_int) (ma_nil))) (mk_nil)) (me_int) (by first | exact nobehind _ (by decide) (by decide) | rfl)) (ma_cons (me_callTy (call_tuple_of) cd_tuple rfl T.no_tuple bt_tuple (ma_cons (me_callB (call_sortM rfl) cd_sorted rfl T.no_sorted bt_sorted (ma_cons (mc_call rfl rfl (FnC.pos (n := 2) G_law_some D_law_some.df p_law_some_2) (hr.mono (by decide)) ng tk rfl D_law_some.m D_law_some.df.kp (ma_cons (me_var 1) (ma_cons (me_var 3) (ma_nil))) (mk_nil)) (ma_nil))) (ma_nil))) (ma_nil))))))) (mss_cons (ms_set 7 hN (me_and (me_ix rfl h1 (me_var 6) (me_int)) (me_one (me_not (me_callB (cr_any rfl) cd_any rfl T.no_any bt_any (ma_cons (me_lc false rfl hN (mi_seq rfl (me_var 5)) (blkOk_by (own := [("_law_member_here", 9)]) (by kernel_rfl)) (fun s H C cl fp hid => mg_name 9 hN) (fun s H C cl fp hid => mts_nil) (fun s H C cl fp hid => me_cmp (op_eqM h64) od_eq (me_ix rfl h1 (me_var 9) (me_int)) (me_str) (by first | exact nobehind _ (by decide) (by decide) | rfl))) (ma_nil))))))) (mss_one (ms_if (mt_not (mt_val (mc_call rfl rfl (FnC.pos (n := 2) G_law_same D_law_same.df p_law_same_2) (hr.mono (by decide)) ng tk rfl D_law_same.m D_law_same.df.kp (ma_cons (mc_call rfl rfl (FnC.pos (n := 1) G_is_class D_is_class.df p_is_class_1) (hr.mono (by decide)) ng tk rfl D_is_class.m D_is_class.df.kp (ma_cons (mc_call rfl rfl (FnC.pos (n := 1) G_law_interface D_law_interface.df p_law_interface_1) (hr.mono (by decide)) ng tk rfl D_law_interface.m D_law_interface.df.kp (ma_cons (me_var 6) (ma_nil)) (mk_nil)) (ma_nil)) (mk_nil)) (ma_cons (me_var 7) (ma_nil))) (mk_nil)))) (mss_one (ms_ret (me_bl))) (mss_nil)))))))) (mss_one (ms_ret (me_bl)))))
end
theorem all (K : PySem.W.Frag) (mg : Str → Option Value) {h : Heap} (X : K.In h) (G : h.Ns mainGlobals mg) {fa : Addr} (hfa : mg "law" = some (.ref fa)) {P : Program} {w : World}
    (no_all : PySem.W.nsIn K mainGlobals "all" = some none)
    (no_any : PySem.W.nsIn K mainGlobals "any" = some none)
    (no_enumerate : PySem.W.nsIn K mainGlobals "enumerate" = some none)
    (no_int : PySem.W.nsIn K mainGlobals "int" = some none)
    (no_isinstance : PySem.W.nsIn K mainGlobals "isinstance" = some none)
    (no_len : PySem.W.nsIn K mainGlobals "len" = some none)
    (no_list : PySem.W.nsIn K mainGlobals "list" = some none)
    (no_range : PySem.W.nsIn K mainGlobals "range" = some none)
    (no_repr : PySem.W.nsIn K mainGlobals "repr" = some none)
    (no_sorted : PySem.W.nsIn K mainGlobals "sorted" = some none)
    (no_str : PySem.W.nsIn K mainGlobals "str" = some none)
    (no_tuple : PySem.W.nsIn K mainGlobals "tuple" = some none)
    {u_LONGEST_NAME : Value}
    (e1_LONGEST_NAME : PySem.W.nsIn K mainGlobals "LONGEST_NAME" = some (some u_LONGEST_NAME))
    (e2_LONGEST_NAME : valD u_LONGEST_NAME = some (.int 8))
    {u_SMALL : Value}
    (e1_SMALL : PySem.W.nsIn K mainGlobals "SMALL" = some (some u_SMALL))
    (e2_SMALL : valD u_SMALL = some (.str "abcdefghijklmnopqrstuvwxyz"))
    {u_FLAG : Value}
    (e1_FLAG : PySem.W.nsIn K mainGlobals "FLAG" = some (some u_FLAG))
    (e2_FLAG : valD u_FLAG = some (.str "writable"))
    {u_GREAT : Value}
    (e1_GREAT : PySem.W.nsIn K mainGlobals "GREAT" = some (some u_GREAT))
    (e2_GREAT : valD u_GREAT = some (.str "ABCDEFGHIJKLMNOPQRSTUVWXYZ"))
    {ak_PLAIN : Addr} {odk_PLAIN : Option Addr} {its_PLAIN : Array Value} {nk_PLAIN : Nat} {slk_PLAIN : Array (Option Value)}
    (e1_PLAIN : PySem.W.nsIn K mainGlobals "PLAIN" = some (some (.ref ak_PLAIN)))
    (e2_PLAIN : K.lookup ak_PLAIN = some ⟨.type "tuple", odk_PLAIN, .seq its_PLAIN nk_PLAIN, slk_PLAIN⟩)
    (e3_PLAIN : valsD its_PLAIN.toList = some [(.str "int"), (.str "str"), (.str "bool")])
    (e4_PLAIN : decide (its_PLAIN.size ≤ sizeLine) = true)
    {u_MOST_PARAMETERS : Value}
    (e1_MOST_PARAMETERS : PySem.W.nsIn K mainGlobals "MOST_PARAMETERS" = some (some u_MOST_PARAMETERS))
    (e2_MOST_PARAMETERS : valD u_MOST_PARAMETERS = some (.int 3))
    {ak_PRESENCES : Addr} {odk_PRESENCES : Option Addr} {its_PRESENCES : Array Value} {nk_PRESENCES : Nat} {slk_PRESENCES : Array (Option Value)}
    (e1_PRESENCES : PySem.W.nsIn K mainGlobals "PRESENCES" = some (some (.ref ak_PRESENCES)))
    (e2_PRESENCES : K.lookup ak_PRESENCES = some ⟨.type "tuple", odk_PRESENCES, .seq its_PRESENCES nk_PRESENCES, slk_PRESENCES⟩)
    (e3_PRESENCES : valsD its_PRESENCES.toList = some [(.str "required"), (.str "optional"), (.str "absent")])
    (e4_PRESENCES : decide (its_PRESENCES.size ≤ sizeLine) = true)
    {u_MOST_MEMBERS : Value}
    (e1_MOST_MEMBERS : PySem.W.nsIn K mainGlobals "MOST_MEMBERS" = some (some u_MOST_MEMBERS))
    (e2_MOST_MEMBERS : valD u_MOST_MEMBERS = some (.int 12))
    {C_Interface : Addr}
    (x_C_Interface : PySem.W.nsIn K mainGlobals "Interface" = some (some (.ref C_Interface)))
    (c1_Interface : PySem.W.plainGet K C_Interface Str.empty = true)
    (c2_Interface : PySem.W.hasDictIn K C_Interface = true)
    (c3_Interface : PySem.W.plainOver K C_Interface = true)
    (c4_Interface : PySem.W.findIn K (.ref C_Interface) "__setattr__" = some (some (.builtin "object.__setattr__")))
    (n_Interface_name : PySem.W.findIn K (.ref C_Interface) "name" = some none)
    (n_Interface_sealed : PySem.W.findIn K (.ref C_Interface) "sealed" = some none)
    (n_Interface_brands : PySem.W.findIn K (.ref C_Interface) "brands" = some none)
    (n_Interface_table : PySem.W.findIn K (.ref C_Interface) "table" = some none)
    (mk_Interface : PySem.W.makesIn K C_Interface = true)
    (kc_Interface : PySem.W.keepIn K (.ref C_Interface) = true)
    {a_is_member_name : Addr} {oc_is_member_name : Value} {od_is_member_name an_is_member_name : Option Addr} {osl_is_member_name : Array (Option Value)} {doc_is_member_name pm_is_member_name cdv_is_member_name ct_is_member_name : Value}
    {kV_is_member_name : Value}
    (x_is_member_name : PySem.W.nsIn K mainGlobals "is_member_name" = some (some (.ref a_is_member_name)))
    (l_is_member_name : K.lookup a_is_member_name = some ⟨oc_is_member_name, od_is_member_name, .func (PySem.W.fnOf "is_member_name" "is_member_name" (defArgs st_is_member_name) (defBody st_is_member_name) (defScope st_is_member_name) .none kV_is_member_name doc_is_member_name pm_is_member_name an_is_member_name cdv_is_member_name ct_is_member_name), osl_is_member_name⟩)
    (co_is_member_name : PySem.W.codeIn K cdv_is_member_name "is_member_name" = true)
    (kp_is_member_name : PySem.W.keepIn K (.ref a_is_member_name) = true)
    {a_is_interface_name : Addr} {oc_is_interface_name : Value} {od_is_interface_name an_is_interface_name : Option Addr} {osl_is_interface_name : Array (Option Value)} {doc_is_interface_name pm_is_interface_name cdv_is_interface_name ct_is_interface_name : Value}
    {kV_is_interface_name : Value}
    (x_is_interface_name : PySem.W.nsIn K mainGlobals "is_interface_name" = some (some (.ref a_is_interface_name)))
    (l_is_interface_name : K.lookup a_is_interface_name = some ⟨oc_is_interface_name, od_is_interface_name, .func (PySem.W.fnOf "is_interface_name" "is_interface_name" (defArgs st_is_interface_name) (defBody st_is_interface_name) (defScope st_is_interface_name) .none kV_is_interface_name doc_is_interface_name pm_is_interface_name an_is_interface_name cdv_is_interface_name ct_is_interface_name), osl_is_interface_name⟩)
    (co_is_interface_name : PySem.W.codeIn K cdv_is_interface_name "is_interface_name" = true)
    (kp_is_interface_name : PySem.W.keepIn K (.ref a_is_interface_name) = true)
    {a_is_value_content : Addr} {oc_is_value_content : Value} {od_is_value_content an_is_value_content : Option Addr} {osl_is_value_content : Array (Option Value)} {doc_is_value_content pm_is_value_content cdv_is_value_content ct_is_value_content : Value}
    {kV_is_value_content : Value}
    (x_is_value_content : PySem.W.nsIn K mainGlobals "is_value_content" = some (some (.ref a_is_value_content)))
    (l_is_value_content : K.lookup a_is_value_content = some ⟨oc_is_value_content, od_is_value_content, .func (PySem.W.fnOf "is_value_content" "is_value_content" (defArgs st_is_value_content) (defBody st_is_value_content) (defScope st_is_value_content) .none kV_is_value_content doc_is_value_content pm_is_value_content an_is_value_content cdv_is_value_content ct_is_value_content), osl_is_value_content⟩)
    (co_is_value_content : PySem.W.codeIn K cdv_is_value_content "is_value_content" = true)
    (kp_is_value_content : PySem.W.keepIn K (.ref a_is_value_content) = true)
    {a_is_method : Addr} {oc_is_method : Value} {od_is_method an_is_method : Option Addr} {osl_is_method : Array (Option Value)} {doc_is_method pm_is_method cdv_is_method ct_is_method : Value}
    {kV_is_method : Value}
    (x_is_method : PySem.W.nsIn K mainGlobals "is_method" = some (some (.ref a_is_method)))
    (l_is_method : K.lookup a_is_method = some ⟨oc_is_method, od_is_method, .func (PySem.W.fnOf "is_method" "is_method" (defArgs st_is_method) (defBody st_is_method) (defScope st_is_method) .none kV_is_method doc_is_method pm_is_method an_is_method cdv_is_method ct_is_method), osl_is_method⟩)
    (co_is_method : PySem.W.codeIn K cdv_is_method "is_method" = true)
    (kp_is_method : PySem.W.keepIn K (.ref a_is_method) = true)
    {a_is_member : Addr} {oc_is_member : Value} {od_is_member an_is_member : Option Addr} {osl_is_member : Array (Option Value)} {doc_is_member pm_is_member cdv_is_member ct_is_member : Value}
    {kV_is_member : Value}
    (x_is_member : PySem.W.nsIn K mainGlobals "is_member" = some (some (.ref a_is_member)))
    (l_is_member : K.lookup a_is_member = some ⟨oc_is_member, od_is_member, .func (PySem.W.fnOf "is_member" "is_member" (defArgs st_is_member) (defBody st_is_member) (defScope st_is_member) .none kV_is_member doc_is_member pm_is_member an_is_member cdv_is_member ct_is_member), osl_is_member⟩)
    (co_is_member : PySem.W.codeIn K cdv_is_member "is_member" = true)
    (kp_is_member : PySem.W.keepIn K (.ref a_is_member) = true)
    {a_sorted_brands : Addr} {oc_sorted_brands : Value} {od_sorted_brands an_sorted_brands : Option Addr} {osl_sorted_brands : Array (Option Value)} {doc_sorted_brands pm_sorted_brands cdv_sorted_brands ct_sorted_brands : Value}
    {kV_sorted_brands : Value}
    (x_sorted_brands : PySem.W.nsIn K mainGlobals "sorted_brands" = some (some (.ref a_sorted_brands)))
    (l_sorted_brands : K.lookup a_sorted_brands = some ⟨oc_sorted_brands, od_sorted_brands, .func (PySem.W.fnOf "sorted_brands" "sorted_brands" (defArgs st_sorted_brands) (defBody st_sorted_brands) (defScope st_sorted_brands) .none kV_sorted_brands doc_sorted_brands pm_sorted_brands an_sorted_brands cdv_sorted_brands ct_sorted_brands), osl_sorted_brands⟩)
    (co_sorted_brands : PySem.W.codeIn K cdv_sorted_brands "sorted_brands" = true)
    (kp_sorted_brands : PySem.W.keepIn K (.ref a_sorted_brands) = true)
    {a_Interface_init : Addr} {oc_Interface_init : Value} {od_Interface_init an_Interface_init : Option Addr} {osl_Interface_init : Array (Option Value)} {doc_Interface_init pm_Interface_init cdv_Interface_init ct_Interface_init : Value}
    {Z_Interface_init : Addr}
    (x_Interface_init : PySem.W.findIn K (.ref C_Interface) "__init__" = some (some (.ref a_Interface_init)))
    (l_Interface_init : K.lookup a_Interface_init = some ⟨oc_Interface_init, od_Interface_init, .func (PySem.W.fnOf "__init__" "Interface.__init__" (defArgs st_Interface_init) (defBody st_Interface_init) (defScope st_Interface_init) .none (.ref Z_Interface_init) doc_Interface_init pm_Interface_init an_Interface_init cdv_Interface_init ct_Interface_init), osl_Interface_init⟩)
    (co_Interface_init : PySem.W.codeIn K cdv_Interface_init "Interface.__init__" = true)
    (kp_Interface_init : PySem.W.keepIn K (.ref a_Interface_init) = true)
    (fn_Interface_init : PySem.W.isFn K (.ref a_Interface_init) = true)
    (fi_Interface_init : PySem.W.fnIn K a_Interface_init = true)
    {uk_Interface_init_0 : Value}
    (ke1_Interface_init_0 : PySem.W.nsIn K Z_Interface_init "sealed" = some (some uk_Interface_init_0))
    (ke2_Interface_init_0 : valD uk_Interface_init_0 = some (.bl false))
    {ak_Interface_init_1 : Addr} {odk_Interface_init_1 : Option Addr} {itk_Interface_init_1 : Array Value} {nk_Interface_init_1 : Nat} {slk_Interface_init_1 : Array (Option Value)}
    (ke1_Interface_init_1 : PySem.W.nsIn K Z_Interface_init "brands" = some (some (.ref ak_Interface_init_1)))
    (ke2_Interface_init_1 : K.lookup ak_Interface_init_1 = some ⟨.type "tuple", odk_Interface_init_1, .seq itk_Interface_init_1 nk_Interface_init_1, slk_Interface_init_1⟩)
    (ke3_Interface_init_1 : valsD itk_Interface_init_1.toList = some [])
    (ke4_Interface_init_1 : decide (itk_Interface_init_1.size ≤ sizeLine) = true)
    {a_Interface_members : Addr} {oc_Interface_members : Value} {od_Interface_members an_Interface_members : Option Addr} {osl_Interface_members : Array (Option Value)} {doc_Interface_members pm_Interface_members cdv_Interface_members ct_Interface_members : Value}
    {kV_Interface_members : Value}
    (x_Interface_members : PySem.W.findIn K (.ref C_Interface) "members" = some (some (.ref a_Interface_members)))
    (l_Interface_members : K.lookup a_Interface_members = some ⟨oc_Interface_members, od_Interface_members, .func (PySem.W.fnOf "members" "Interface.members" (defArgs st_Interface_members) (defBody st_Interface_members) (defScope st_Interface_members) .none kV_Interface_members doc_Interface_members pm_Interface_members an_Interface_members cdv_Interface_members ct_Interface_members), osl_Interface_members⟩)
    (co_Interface_members : PySem.W.codeIn K cdv_Interface_members "Interface.members" = true)
    (kp_Interface_members : PySem.W.keepIn K (.ref a_Interface_members) = true)
    (fn_Interface_members : PySem.W.isFn K (.ref a_Interface_members) = true)
    (fi_Interface_members : PySem.W.fnIn K a_Interface_members = true)
    {a_is_class : Addr} {oc_is_class : Value} {od_is_class an_is_class : Option Addr} {osl_is_class : Array (Option Value)} {doc_is_class pm_is_class cdv_is_class ct_is_class : Value}
    {kV_is_class : Value}
    (x_is_class : PySem.W.nsIn K mainGlobals "is_class" = some (some (.ref a_is_class)))
    (l_is_class : K.lookup a_is_class = some ⟨oc_is_class, od_is_class, .func (PySem.W.fnOf "is_class" "is_class" (defArgs st_is_class) (defBody st_is_class) (defScope st_is_class) .none kV_is_class doc_is_class pm_is_class an_is_class cdv_is_class ct_is_class), osl_is_class⟩)
    (co_is_class : PySem.W.codeIn K cdv_is_class "is_class" = true)
    (kp_is_class : PySem.W.keepIn K (.ref a_is_class) = true)
    {a_law_bag : Addr} {oc_law_bag : Value} {od_law_bag an_law_bag : Option Addr} {osl_law_bag : Array (Option Value)} {doc_law_bag pm_law_bag cdv_law_bag ct_law_bag : Value}
    {kV_law_bag : Value}
    (x_law_bag : PySem.W.nsIn K mainGlobals "_law_bag" = some (some (.ref a_law_bag)))
    (l_law_bag : K.lookup a_law_bag = some ⟨oc_law_bag, od_law_bag, .func (PySem.W.fnOf "_law_bag" "_law_bag" (defArgs st_law_bag) (defBody st_law_bag) (defScope st_law_bag) .none kV_law_bag doc_law_bag pm_law_bag an_law_bag cdv_law_bag ct_law_bag), osl_law_bag⟩)
    (co_law_bag : PySem.W.codeIn K cdv_law_bag "_law_bag" = true)
    (kp_law_bag : PySem.W.keepIn K (.ref a_law_bag) = true)
    {a_law_draw : Addr} {oc_law_draw : Value} {od_law_draw an_law_draw : Option Addr} {osl_law_draw : Array (Option Value)} {doc_law_draw pm_law_draw cdv_law_draw ct_law_draw : Value}
    {kV_law_draw : Value}
    (x_law_draw : PySem.W.nsIn K mainGlobals "_law_draw" = some (some (.ref a_law_draw)))
    (l_law_draw : K.lookup a_law_draw = some ⟨oc_law_draw, od_law_draw, .func (PySem.W.fnOf "_law_draw" "_law_draw" (defArgs st_law_draw) (defBody st_law_draw) (defScope st_law_draw) .none kV_law_draw doc_law_draw pm_law_draw an_law_draw cdv_law_draw ct_law_draw), osl_law_draw⟩)
    (co_law_draw : PySem.W.codeIn K cdv_law_draw "_law_draw" = true)
    (kp_law_draw : PySem.W.keepIn K (.ref a_law_draw) = true)
    {a_law_of : Addr} {oc_law_of : Value} {od_law_of an_law_of : Option Addr} {osl_law_of : Array (Option Value)} {doc_law_of pm_law_of cdv_law_of ct_law_of : Value}
    {kV_law_of : Value}
    (x_law_of : PySem.W.nsIn K mainGlobals "_law_of" = some (some (.ref a_law_of)))
    (l_law_of : K.lookup a_law_of = some ⟨oc_law_of, od_law_of, .func (PySem.W.fnOf "_law_of" "_law_of" (defArgs st_law_of) (defBody st_law_of) (defScope st_law_of) .none kV_law_of doc_law_of pm_law_of an_law_of cdv_law_of ct_law_of), osl_law_of⟩)
    (co_law_of : PySem.W.codeIn K cdv_law_of "_law_of" = true)
    (kp_law_of : PySem.W.keepIn K (.ref a_law_of) = true)
    {a_law_mixed : Addr} {oc_law_mixed : Value} {od_law_mixed an_law_mixed : Option Addr} {osl_law_mixed : Array (Option Value)} {doc_law_mixed pm_law_mixed cdv_law_mixed ct_law_mixed : Value}
    {kV_law_mixed : Value}
    (x_law_mixed : PySem.W.nsIn K mainGlobals "_law_mixed" = some (some (.ref a_law_mixed)))
    (l_law_mixed : K.lookup a_law_mixed = some ⟨oc_law_mixed, od_law_mixed, .func (PySem.W.fnOf "_law_mixed" "_law_mixed" (defArgs st_law_mixed) (defBody st_law_mixed) (defScope st_law_mixed) .none kV_law_mixed doc_law_mixed pm_law_mixed an_law_mixed cdv_law_mixed ct_law_mixed), osl_law_mixed⟩)
    (co_law_mixed : PySem.W.codeIn K cdv_law_mixed "_law_mixed" = true)
    (kp_law_mixed : PySem.W.keepIn K (.ref a_law_mixed) = true)
    {a_law_some : Addr} {oc_law_some : Value} {od_law_some an_law_some : Option Addr} {osl_law_some : Array (Option Value)} {doc_law_some pm_law_some cdv_law_some ct_law_some : Value}
    {kV_law_some : Value}
    (x_law_some : PySem.W.nsIn K mainGlobals "_law_some" = some (some (.ref a_law_some)))
    (l_law_some : K.lookup a_law_some = some ⟨oc_law_some, od_law_some, .func (PySem.W.fnOf "_law_some" "_law_some" (defArgs st_law_some) (defBody st_law_some) (defScope st_law_some) .none kV_law_some doc_law_some pm_law_some an_law_some cdv_law_some ct_law_some), osl_law_some⟩)
    (co_law_some : PySem.W.codeIn K cdv_law_some "_law_some" = true)
    (kp_law_some : PySem.W.keepIn K (.ref a_law_some) = true)
    {a_law_same : Addr} {oc_law_same : Value} {od_law_same an_law_same : Option Addr} {osl_law_same : Array (Option Value)} {doc_law_same pm_law_same cdv_law_same ct_law_same : Value}
    {kV_law_same : Value}
    (x_law_same : PySem.W.nsIn K mainGlobals "_law_same" = some (some (.ref a_law_same)))
    (l_law_same : K.lookup a_law_same = some ⟨oc_law_same, od_law_same, .func (PySem.W.fnOf "_law_same" "_law_same" (defArgs st_law_same) (defBody st_law_same) (defScope st_law_same) .none kV_law_same doc_law_same pm_law_same an_law_same cdv_law_same ct_law_same), osl_law_same⟩)
    (co_law_same : PySem.W.codeIn K cdv_law_same "_law_same" = true)
    (kp_law_same : PySem.W.keepIn K (.ref a_law_same) = true)
    {a_law_names : Addr} {oc_law_names : Value} {od_law_names an_law_names : Option Addr} {osl_law_names : Array (Option Value)} {doc_law_names pm_law_names cdv_law_names ct_law_names : Value}
    {kV_law_names : Value}
    (x_law_names : PySem.W.nsIn K mainGlobals "_law_names" = some (some (.ref a_law_names)))
    (l_law_names : K.lookup a_law_names = some ⟨oc_law_names, od_law_names, .func (PySem.W.fnOf "_law_names" "_law_names" (defArgs st_law_names) (defBody st_law_names) (defScope st_law_names) .none kV_law_names doc_law_names pm_law_names an_law_names cdv_law_names ct_law_names), osl_law_names⟩)
    (co_law_names : PySem.W.codeIn K cdv_law_names "_law_names" = true)
    (kp_law_names : PySem.W.keepIn K (.ref a_law_names) = true)
    {a_law_value : Addr} {oc_law_value : Value} {od_law_value an_law_value : Option Addr} {osl_law_value : Array (Option Value)} {doc_law_value pm_law_value cdv_law_value ct_law_value : Value}
    {kV_law_value : Value}
    (x_law_value : PySem.W.nsIn K mainGlobals "_law_value" = some (some (.ref a_law_value)))
    (l_law_value : K.lookup a_law_value = some ⟨oc_law_value, od_law_value, .func (PySem.W.fnOf "_law_value" "_law_value" (defArgs st_law_value) (defBody st_law_value) (defScope st_law_value) .none kV_law_value doc_law_value pm_law_value an_law_value cdv_law_value ct_law_value), osl_law_value⟩)
    (co_law_value : PySem.W.codeIn K cdv_law_value "_law_value" = true)
    (kp_law_value : PySem.W.keepIn K (.ref a_law_value) = true)
    {a_law_content : Addr} {oc_law_content : Value} {od_law_content an_law_content : Option Addr} {osl_law_content : Array (Option Value)} {doc_law_content pm_law_content cdv_law_content ct_law_content : Value}
    {kV_law_content : Value}
    (x_law_content : PySem.W.nsIn K mainGlobals "_law_content" = some (some (.ref a_law_content)))
    (l_law_content : K.lookup a_law_content = some ⟨oc_law_content, od_law_content, .func (PySem.W.fnOf "_law_content" "_law_content" (defArgs st_law_content) (defBody st_law_content) (defScope st_law_content) .none kV_law_content doc_law_content pm_law_content an_law_content cdv_law_content ct_law_content), osl_law_content⟩)
    (co_law_content : PySem.W.codeIn K cdv_law_content "_law_content" = true)
    (kp_law_content : PySem.W.keepIn K (.ref a_law_content) = true)
    {a_law_member : Addr} {oc_law_member : Value} {od_law_member an_law_member : Option Addr} {osl_law_member : Array (Option Value)} {doc_law_member pm_law_member cdv_law_member ct_law_member : Value}
    {kV_law_member : Value}
    (x_law_member : PySem.W.nsIn K mainGlobals "_law_member" = some (some (.ref a_law_member)))
    (l_law_member : K.lookup a_law_member = some ⟨oc_law_member, od_law_member, .func (PySem.W.fnOf "_law_member" "_law_member" (defArgs st_law_member) (defBody st_law_member) (defScope st_law_member) .none kV_law_member doc_law_member pm_law_member an_law_member cdv_law_member ct_law_member), osl_law_member⟩)
    (co_law_member : PySem.W.codeIn K cdv_law_member "_law_member" = true)
    (kp_law_member : PySem.W.keepIn K (.ref a_law_member) = true)
    {a_law_interface : Addr} {oc_law_interface : Value} {od_law_interface an_law_interface : Option Addr} {osl_law_interface : Array (Option Value)} {doc_law_interface pm_law_interface cdv_law_interface ct_law_interface : Value}
    {kV_law_interface : Value}
    (x_law_interface : PySem.W.nsIn K mainGlobals "_law_interface" = some (some (.ref a_law_interface)))
    (l_law_interface : K.lookup a_law_interface = some ⟨oc_law_interface, od_law_interface, .func (PySem.W.fnOf "_law_interface" "_law_interface" (defArgs st_law_interface) (defBody st_law_interface) (defScope st_law_interface) .none kV_law_interface doc_law_interface pm_law_interface an_law_interface cdv_law_interface ct_law_interface), osl_law_interface⟩)
    (co_law_interface : PySem.W.codeIn K cdv_law_interface "_law_interface" = true)
    (kp_law_interface : PySem.W.keepIn K (.ref a_law_interface) = true)
    {a_law : Addr} {oc_law : Value} {od_law an_law : Option Addr} {osl_law : Array (Option Value)} {doc_law pm_law cdv_law ct_law : Value}
    {kV_law : Value}
    (x_law : PySem.W.nsIn K mainGlobals "law" = some (some (.ref a_law)))
    (l_law : K.lookup a_law = some ⟨oc_law, od_law, .func (PySem.W.fnOf "law" "law" (defArgs st_law) (defBody st_law) (defScope st_law) .none kV_law doc_law pm_law an_law cdv_law ct_law), osl_law⟩)
    (co_law : PySem.W.codeIn K cdv_law "law" = true)
    (kp_law : PySem.W.keepIn K (.ref a_law) = true)
    : ∃ fd : FuncData, (∀ (s : Shared) (u : Value), BindsTo s fd ⟨[u], []⟩ [("_law_script", u)]) ∧ ∀ base : Heap, K.In base → base.Ns mainGlobals mg → FnG P w K mg base 8 fa fd ["_law_script"] f_law := by
  have T : Txt K mg C_Interface := ⟨konst_no X G no_all, konst_no X G no_any, konst_no X G no_enumerate, konst_no X G no_int, konst_no X G no_isinstance, konst_no X G no_len, konst_no X G no_list, konst_no X G no_range, konst_no X G no_repr, konst_no X G no_sorted, konst_no X G no_str, konst_no X G no_tuple, konst_flat X G e1_LONGEST_NAME e2_LONGEST_NAME, konst_flat X G e1_SMALL e2_SMALL, konst_flat X G e1_FLAG e2_FLAG, konst_flat X G e1_GREAT e2_GREAT, konst_tup X G e1_PLAIN e2_PLAIN e3_PLAIN e4_PLAIN, konst_flat X G e1_MOST_PARAMETERS e2_MOST_PARAMETERS, konst_tup X G e1_PRESENCES e2_PRESENCES e3_PRESENCES e4_PRESENCES, konst_flat X G e1_MOST_MEMBERS e2_MOST_MEMBERS, kclass_of X G x_C_Interface c1_Interface c2_Interface c3_Interface c4_Interface, n_Interface_name, n_Interface_sealed, n_Interface_brands, n_Interface_table, mk_Interface, kc_Interface⟩
  have D_is_member_name := gfun_of X G x_is_member_name (gdf_of (mg := mg) (st := st_is_member_name) (dd := []) (kd := []) l_is_member_name co_is_member_name kp_is_member_name pos_no kwd_no)
  have D_is_interface_name := gfun_of X G x_is_interface_name (gdf_of (mg := mg) (st := st_is_interface_name) (dd := []) (kd := []) l_is_interface_name co_is_interface_name kp_is_interface_name pos_no kwd_no)
  have D_is_value_content := gfun_of X G x_is_value_content (gdf_of (mg := mg) (st := st_is_value_content) (dd := []) (kd := []) l_is_value_content co_is_value_content kp_is_value_content pos_no kwd_no)
  have D_is_method := gfun_of X G x_is_method (gdf_of (mg := mg) (st := st_is_method) (dd := []) (kd := []) l_is_method co_is_method kp_is_method pos_no kwd_no)
  have D_is_member := gfun_of X G x_is_member (gdf_of (mg := mg) (st := st_is_member) (dd := []) (kd := []) l_is_member co_is_member kp_is_member pos_no kwd_no)
  have D_sorted_brands := gfun_of X G x_sorted_brands (gdf_of (mg := mg) (st := st_sorted_brands) (dd := []) (kd := []) l_sorted_brands co_sorted_brands kp_sorted_brands pos_no kwd_no)
  have D_Interface_init := gmth_of (gdf_of (mg := mg) (st := st_Interface_init) (dd := []) (kd := [("sealed", (.bl false)), ("brands", (.ctp []))]) l_Interface_init co_Interface_init kp_Interface_init pos_no (kwd_of ⟨kw_flat ke1_Interface_init_0 ke2_Interface_init_0, ⟨kw_tup ke1_Interface_init_1 ke2_Interface_init_1 ke3_Interface_init_1 ke4_Interface_init_1, trivial⟩⟩)) x_Interface_init fn_Interface_init fi_Interface_init
  have D_Interface_members := gmth_of (gdf_of (mg := mg) (st := st_Interface_members) (dd := []) (kd := []) l_Interface_members co_Interface_members kp_Interface_members pos_no kwd_no) x_Interface_members fn_Interface_members fi_Interface_members
  have D_is_class := gfun_of X G x_is_class (gdf_of (mg := mg) (st := st_is_class) (dd := []) (kd := []) l_is_class co_is_class kp_is_class pos_no kwd_no)
  have D_law_bag := gfun_of X G x_law_bag (gdf_of (mg := mg) (st := st_law_bag) (dd := []) (kd := []) l_law_bag co_law_bag kp_law_bag pos_no kwd_no)
  have D_law_draw := gfun_of X G x_law_draw (gdf_of (mg := mg) (st := st_law_draw) (dd := []) (kd := []) l_law_draw co_law_draw kp_law_draw pos_no kwd_no)
  have D_law_of := gfun_of X G x_law_of (gdf_of (mg := mg) (st := st_law_of) (dd := []) (kd := []) l_law_of co_law_of kp_law_of pos_no kwd_no)
  have D_law_mixed := gfun_of X G x_law_mixed (gdf_of (mg := mg) (st := st_law_mixed) (dd := []) (kd := []) l_law_mixed co_law_mixed kp_law_mixed pos_no kwd_no)
  have D_law_some := gfun_of X G x_law_some (gdf_of (mg := mg) (st := st_law_some) (dd := []) (kd := []) l_law_some co_law_some kp_law_some pos_no kwd_no)
  have D_law_same := gfun_of X G x_law_same (gdf_of (mg := mg) (st := st_law_same) (dd := []) (kd := []) l_law_same co_law_same kp_law_same pos_no kwd_no)
  have D_law_names := gfun_of X G x_law_names (gdf_of (mg := mg) (st := st_law_names) (dd := []) (kd := []) l_law_names co_law_names kp_law_names pos_no kwd_no)
  have D_law_value := gfun_of X G x_law_value (gdf_of (mg := mg) (st := st_law_value) (dd := []) (kd := []) l_law_value co_law_value kp_law_value pos_no kwd_no)
  have D_law_content := gfun_of X G x_law_content (gdf_of (mg := mg) (st := st_law_content) (dd := []) (kd := []) l_law_content co_law_content kp_law_content pos_no kwd_no)
  have D_law_member := gfun_of X G x_law_member (gdf_of (mg := mg) (st := st_law_member) (dd := []) (kd := []) l_law_member co_law_member kp_law_member pos_no kwd_no)
  have D_law_interface := gfun_of X G x_law_interface (gdf_of (mg := mg) (st := st_law_interface) (dd := []) (kd := []) l_law_interface co_law_interface kp_law_interface pos_no kwd_no)
  have D_law := gfun_of X G x_law (gdf_of (mg := mg) (st := st_law) (dd := []) (kd := []) l_law co_law kp_law pos_no kwd_no)
  cases hfa.symm.trans D_law.m
  refine ⟨PySem.W.fnOf "law" "law" (defArgs st_law) (defBody st_law) (defScope st_law) .none kV_law doc_law pm_law an_law cdv_law ct_law, fun s u => .of_eq rfl, fun base _ _ => ?_⟩
  have G_is_member_name := g_is_member_name (P := P) (w := w) (base := base) T D_is_member_name
  have G_is_interface_name := g_is_interface_name (P := P) (w := w) (base := base) T D_is_interface_name
  have G_is_value_content := g_is_value_content (P := P) (w := w) (base := base) T D_is_value_content D_is_interface_name G_is_interface_name
  have G_is_method := g_is_method (P := P) (w := w) (base := base) T D_is_method D_is_value_content G_is_value_content
  have G_is_member := g_is_member (P := P) (w := w) (base := base) T D_is_member D_is_member_name G_is_member_name D_is_value_content G_is_value_content D_is_method G_is_method
  have G_sorted_brands := g_sorted_brands (P := P) (w := w) (base := base) T D_sorted_brands D_is_member_name G_is_member_name
  have G_Interface_init := g_Interface_init (P := P) (w := w) (base := base) T D_Interface_init D_is_interface_name G_is_interface_name D_is_member G_is_member D_sorted_brands G_sorted_brands
  have G_Interface_members := g_Interface_members (P := P) (w := w) (base := base) T D_Interface_members
  have G_is_class := g_is_class (P := P) (w := w) (base := base) T D_is_class D_Interface_members G_Interface_members
  have G_law_bag := g_law_bag (P := P) (w := w) (base := base) T D_law_bag
  have G_law_draw := g_law_draw (P := P) (w := w) (base := base) T D_law_draw
  have G_law_of := g_law_of (P := P) (w := w) (base := base) T D_law_of D_law_draw G_law_draw
  have G_law_mixed := g_law_mixed (P := P) (w := w) (base := base) T D_law_mixed D_law_draw G_law_draw
  have G_law_some := g_law_some (P := P) (w := w) (base := base) T D_law_some D_law_mixed G_law_mixed D_law_draw G_law_draw
  have G_law_same := g_law_same (P := P) (w := w) (base := base) T D_law_same
  have G_law_names := g_law_names (P := P) (w := w) (base := base) T D_law_names D_law_draw G_law_draw
  have G_law_value := g_law_value (P := P) (w := w) (base := base) T D_law_value D_law_of G_law_of
  have G_law_content := g_law_content (P := P) (w := w) (base := base) T D_law_content D_law_draw G_law_draw D_law_value G_law_value
  have G_law_member := g_law_member (P := P) (w := w) (base := base) T D_law_member D_law_of G_law_of D_law_content G_law_content D_law_draw G_law_draw
  have G_law_interface := g_law_interface (P := P) (w := w) (base := base) T D_law_interface D_Interface_init G_Interface_init
  have G_law := g_law (P := P) (w := w) (base := base) T D_law D_law_bag G_law_bag D_law_names G_law_names D_law_draw G_law_draw D_law_member G_law_member D_law_some G_law_some D_law_same G_law_same D_is_class G_is_class D_law_interface G_law_interface
  exact G_law
end Law
namespace Law
open PySem PySem.Spec PyProof.Rows L2 Mn
/-! ### the bag of draws -/
structure Bag where
  ns : List Int
  at_ : Int
  big : Int
  st : Int
  cnt : Int
def Bag.ok (B : Bag) : Prop := 0 ≤ B.at_ ∧ 0 ≤ B.st ∧ B.st < 2147483629 ∧ B.ns.length ≤ 63
def Bag.vo (B : Bag) : VO := .lst [.lst (B.ns.map D.int), .int B.at_, .int B.big, .int B.st, .int B.cnt]

theorem draw_ok {rest : VH} {B : Bag} {n : Int} (hB : B.ok) (h0 : 0 < n) (h1 : n < 1000000) :
    ∃ (d : Int) (B' : Bag), f_law_draw [.ref 0, .d (.int n)] (B.vo :: rest) = .ok (.d (.int d)) (B'.vo :: rest) ∧ 0 ≤ d ∧ d < n ∧ B'.ok := by
  obtain ⟨ns, p, g, st, cnt⟩ := B
  obtain ⟨b1, b2, b3, b4⟩ := hB
  unfold Bag.vo
  -- the first part
  have A : ∃ (p' g' st' : Int) (o : Option W), s_law_draw_a (entry 2 5 [.ref 0, .d (.int n)]) (.lst [.lst (ns.map D.int), .int p, .int g, .int st, .int cnt] :: rest) =
      .nx [some (.ref 0), some (.d (.int n)), none, o, none] (.lst [.lst (ns.map D.int), .int p', .int g', .int st', .int cnt] :: rest) ∧ 0 ≤ p' ∧ 0 ≤ st' ∧ st' < 2147483629 := by
    rw [entry22]
    unfold s_law_draw_a
    by_cases c : g = 0 ∧ p < ns.length
    · obtain ⟨rfl, hp⟩ := c
      simp only at b1
      have hv : ∃ v : Int, dIx (.lst (ns.map D.int)) (.int p) = some (.int v) := by
        rw [dIx_lst, atI_of b1 (by simpa using hp)]
        have : p.toNat < ns.length := by omega
        exact ⟨ns[p.toNat], by simp [this]⟩
      obtain ⟨v, hv⟩ := hv
      have m1 : dMul (.int st) (.int 40013) = some (.int (st * 40013)) := dMul_int (.inr (by decide))
      have m2 : dMul (.int (v % 2147483549)) (.int 307) = some (.int (v % 2147483549 * 307)) := dMul_int (.inr (by decide))
      have q1 : dMod (.int v) (.int 2147483549) = some (.int (v % 2147483549)) := dMod_int (by decide)
      have q2 : ∀ u, dMod (.int u) (.int 2147483629) = some (.int (u % 2147483629)) := fun u => dMod_int (by decide)
      by_cases hv2 : 1000000000000000000 ≤ v
      · exact ⟨p + 1, v, (st * 40013 + v % 2147483549 * 307 + 1013) % 2147483629, some (.d (.int v)), by simp [dEq_int, hp, s_law_draw_a1a, s_law_draw_a1b, s_law_draw_a1c, s_law_draw_a1d, s_law_draw_a1d1a, hv, m1, m2, q1, q2, hv2], by omega, by omega, by omega⟩
      · exact ⟨p + 1, 0, (st * 40013 + v % 2147483549 * 307 + 1013) % 2147483629, some (.d (.int v)), by simp [dEq_int, hp, s_law_draw_a1a, s_law_draw_a1b, s_law_draw_a1c, s_law_draw_a1d, s_law_draw_a1d1a, hv, m1, m2, q1, q2, hv2], by omega, by omega, by omega⟩
    · refine ⟨p, g, st, none, ?_, b1, b2, b3⟩
      by_cases hg : g = 0
      · have hp : ¬ p < ns.length := fun h => c ⟨hg, h⟩
        subst hg
        simp [dEq_int, hp]
      · simp [dEq_int, hg]
  obtain ⟨p', g', st', o, hA, c1, c2, c3⟩ := A
  have u1 : ∀ u, dMod (.int u) (.int n) = some (.int (u % n)) := fun u => dMod_int h0
  have u2 : ∀ u, dFdiv (.int u) (.int n) = some (.int (u / n)) := fun u => dFdiv_int ⟨h0, by omega⟩
  have r1 : ∀ u : Int, 0 ≤ u % n ∧ u % n < n := fun u => ⟨Int.emod_nonneg _ (by omega), Int.emod_lt_of_pos _ h0⟩
  unfold f_law_draw
  rw [ev_fn (np := 2) (by rfl)]
  unfold s_law_draw
  rw [ev_seq, hA, seqR_nx]
  by_cases hg : 0 < g'
  · refine ⟨g' % n, ⟨ns, p', g' / n, st', cnt⟩, ?_, (r1 _).1, (r1 _).2, c1, c2, c3, b4⟩
    simp [s_law_draw_b, s_law_draw_b1a, s_law_draw_b1b, s_law_draw_b1c, hg, u1, u2]
  · have m1 : dMul (.int st') (.int st') = some (.int (st' * st')) := dMul_int (.inr ⟨by omega, by omega⟩)
    have m2 : dMul (.int 70001) (.int st') = some (.int (70001 * st')) := dMul_int (.inl (by decide))
    have m3 : dMul (.int 7907) (.int (cnt + 1)) = some (.int (7907 * (cnt + 1))) := dMul_int (.inl (by decide))
    have m4 : dMul (.int st') (.int 33301) = some (.int (st' * 33301)) := dMul_int (.inr (by decide))
    have q2 : ∀ u, dMod (.int u) (.int 2147483629) = some (.int (u % 2147483629)) := fun u => dMod_int (by decide)
    have q3 : ∀ u, dFdiv (.int u) (.int 59) = some (.int (u / 59)) := fun u => dFdiv_int (by decide)
    refine ⟨((st' * st' + 70001 * st' + 7907 * (cnt + 1) + 30011) % 2147483629 / 59 + st' * 33301 + (cnt + 1)) % n, ⟨ns, p', g', (st' * st' + 70001 * st' + 7907 * (cnt + 1) + 30011) % 2147483629, cnt + 1⟩, ?_, (r1 _).1, (r1 _).2, c1, by simp only; omega, by simp only; omega, b4⟩
    simp [s_law_draw_b, s_law_draw_c, s_law_draw_d, s_law_draw_e, s_law_draw_f, hg, u1, u2, m1, m2, m3, m4, q2, q3]
/-! ### names drawn -/
abbrev lets : Str := Str.ofString "abcdefghijklmnopqrstuvwxyz"
theorem let_ix {i : Nat} (h : i < 26) : dIx (.str lets) (.int i) = some (sgn (97 + i)) := by
  have := List.all_eq_true.mp (show (List.range 26).all (fun i => decide (lets.cps.toList[i]? = some (97 + i))) = true by decide +kernel) i (List.mem_range.mpr h)
  rw [dIx_str, atI_of (by omega) (by have : lets.cps.toList.length = 26 := by decide +kernel
                                     omega)]
  rw [Int.toNat_natCast, of_decide_eq_true this]; rfl
abbrev iD (i : Nat) : D := .int i
def cWritable : List Nat := (Str.ofString "writable").cps.toList
def cWritablr : List Nat := (Str.ofString "writablr").cps.toList
/-- the k-th name: fs the first letters, p the place, l the length -/
def name0 (fs : List Nat) (p k l : Nat) : List Nat := ((fs.set p ((fs[p]?.getD 0 + 11 * k) % 26)).take l).map (97 + ·)
def name1 (fs : List Nat) (p k l : Nat) : List Nat := if name0 fs p k l = cWritable then cWritablr else name0 fs p k l
def great1 : List Nat → List Nat
  | [] => []
  | c :: cs => (c - 32) :: cs
def name2 (g : Bool) (fs : List Nat) (p k l : Nat) : List Nat := if g then great1 (name1 fs p k l) else name1 fs p k l
theorem name0_all {fs : List Nat} {p k l : Nat} (hf : ∀ x ∈ fs, x < 26) : ∀ c ∈ name0 fs p k l, 97 ≤ c ∧ c < 123 := by
  intro c hc
  obtain ⟨x, hx, rfl⟩ := List.mem_map.mp hc
  have : x < 26 := by
    rcases List.mem_or_eq_of_mem_set (List.mem_of_mem_take hx) with h | h
    · exact hf x h
    · rw [h]; omega
  omega
theorem name0_len {fs : List Nat} {p k l : Nat} (hl : l ≤ fs.length) : (name0 fs p k l).length = l := by simp [name0]; omega
theorem name1_all {fs : List Nat} {p k l : Nat} (hf : ∀ x ∈ fs, x < 26) : ∀ c ∈ name1 fs p k l, 97 ≤ c ∧ c < 123 := by
  unfold name1
  split
  · have := List.all_eq_true.mp (show cWritablr.all (fun c => decide (97 ≤ c ∧ c < 123)) = true by decide +kernel)
    exact fun c hc => of_decide_eq_true (this c hc)
  · exact name0_all hf
theorem name1_len {fs : List Nat} {p k l : Nat} (hl : l ≤ fs.length) : (name1 fs p k l).length = l := by
  unfold name1
  split
  · rename_i h
    have := congrArg List.length h
    rw [name0_len hl] at this
    rw [this]; decide +kernel
  · exact name0_len hl
theorem name1_ne {fs : List Nat} {p k l : Nat} : name1 fs p k l ≠ cWritable := by
  unfold name1
  split
  · decide +kernel
  · assumption
theorem name2_len {g : Bool} {fs : List Nat} {p k l : Nat} (hl : l ≤ fs.length) : (name2 g fs p k l).length = l := by
  unfold name2
  split
  · have := name1_len (p := p) (k := k) hl
    cases h : name1 fs p k l <;> rw [h] at this <;> exact this
  · exact name1_len hl
theorem up_let {c : Nat} (h : 97 ≤ c ∧ c < 123) : up1 c = c - 32 := by
  unfold up1
  rw [if_pos ⟨h.1, by omega⟩]
theorem upper_one {c : Nat} (h : 97 ≤ c ∧ c < 123) : gUpper (.str (SX.S [c])) [] = some (.str (SX.S [c - 32])) := by
  have e : Txt.upper (SX.S [c]) = SX.S [c - 32] := by
    rw [SX.upper_S (by simp; omega)]
    simp [up_let h]
  unfold gUpper
  simp only [e]
  rw [if_pos ⟨by rw [SX.S_len]; simp, by rw [SX.S_len]; exact Nat.le_trans (show _ ≤ 1 by simp) (by decide), strOk_iff.mpr fun x hx => by
    have : x = c - 32 := by simpa using hx
    omega⟩]
theorem sl_head (w : List Nat) : dSl (.str (SX.S w)) none (some 1) = some (.str (SX.S (w.take 1))) := by
  have h1 : HT.sIx (SX.S w).length 0 none = 0 := rfl
  have h2 : HT.sIx (SX.S w).length (SX.S w).length (some 1) = min 1 w.length := by simp [HT.sIx, SX.S_len]
  simp only [dSl, cutS, h1, h2]
  cases w <;> simp
theorem sl_rest (w : List Nat) : dSl (.str (SX.S w)) (some 1) none = some (.str (SX.S (w.drop 1))) := by
  have h1 : HT.sIx (SX.S w).length 0 (some 1) = min 1 w.length := by simp [HT.sIx, SX.S_len]
  have h2 : HT.sIx (SX.S w).length (SX.S w).length none = w.length := by simp [HT.sIx, SX.S_len]
  simp only [dSl, cutS, h1, h2]
  cases w <;> simp
theorem add_S (a b : List Nat) (h : a.length + b.length ≤ 1000) : dAdd (.str (SX.S a)) (.str (SX.S b)) = some (.str (SX.S (a ++ b))) := by
  show (if (SX.S a).length + (SX.S b).length ≤ sizeLine then some (D.str (SX.S a ++ SX.S b)) else none) = _
  rw [if_pos (by rw [SX.S_len, SX.S_len]; exact Nat.le_trans h (by decide)), SX.S_cat]
theorem sl_to (ds : List D) (l : Nat) (h : l ≤ ds.length) : dSl (.lst ds) none (some (l : Int)) = some (.lst (ds.take l)) := by
  have h1 : HT.sIx ds.length 0 none = 0 := rfl
  have h2 : HT.sIx ds.length ds.length (some (l : Int)) = l := by rw [HT.sIx_nat]; omega
  simp only [dSl, Mn.cutD, h1, h2, List.drop_zero, Nat.sub_zero]
theorem ints_map {xs : List D} {m : Nat} (h : ∀ x ∈ xs, ∃ n : Nat, n < m ∧ x = iD n) : ∃ fs : List Nat, xs = fs.map iD ∧ ∀ c ∈ fs, c < m := by
  induction xs with
  | nil => exact ⟨[], rfl, fun _ h => nomatch h⟩
  | cons x xs ih =>
    obtain ⟨n, hn, rfl⟩ := h x List.mem_cons_self
    obtain ⟨cs, rfl, hc⟩ := ih fun y hy => h y (List.mem_cons_of_mem _ hy)
    refine ⟨n :: cs, rfl, fun c hc' => ?_⟩
    rcases List.mem_cons.mp hc' with rfl | h
    · exact hn
    · exact hc c h
/-- draws, as numbers -/
theorem drawN {rest : VH} {B : Bag} {n : Nat} (hB : B.ok) (h0 : 0 < n) (h1 : n < 1000000) : ∃ (d : Nat) (B' : Bag), f_law_draw [.ref 0, .d (.int n)] (B.vo :: rest) = .ok (.d (.int d)) (B'.vo :: rest) ∧ d < n ∧ B'.ok := by
  obtain ⟨d, B', e, h2, h3, h4⟩ := draw_ok (rest := rest) (n := n) hB (by omega) (by omega)
  exact ⟨d.toNat, B', by rw [e, Int.toNat_of_nonneg h2], by omega, h4⟩
abbrev envN (many : W) (g al : Bool) (fs : List Nat) (p k n : Nat) (a b c d : Option W) : Mn.Env := [some (.ref 0), some many, some (.d (.bl g)), some (.d (.str lets)), some (.d (iD fs.length)), some (.d (iD p)), some (.d (.lst (fs.map iD))), some (.d (.bl al)), some (.ref (n + 1)), some (.d (iD k)), a, b, c, d]
/-- one round of the names: the heap's tail t holds the found names at n, the row at its end -/
theorem names_round {B : Bag} {t : VH} {fs : List Nat} {p k n : Nat} {many : W} {g al : Bool} {found : List D} {a b c d : Option W} (hB : B.ok) (hf : ∀ x ∈ fs, x < 26) (hp : p < fs.length) (h8 : fs.length ≤ 8) (hk : k ≤ 1000)
    (ht : t[n]? = some (.lst found)) (hfd : found.length ≤ 1000) :
    ∃ (B' : Bag) (l : Nat) (row : List D) (a' b' c' : Option W), (mSeq s_law_names_g1a (mSeq s_law_names_g1b (mSeq s_law_names_g1c (mSeq s_law_names_g1d (mSeq s_law_names_g1e s_law_names_g1f)))))
      (envN many g al fs p k n a b c d) (B.vo :: t) =
      .nx (envN many g al fs p k n a' b' c' d)
        (B'.vo :: List.set (t ++ [VO.lst row]) n (VO.lst (found ++ [D.str (SX.S (name2 g fs p k l))]))) ∧ B'.ok ∧ p < l ∧ l ≤ fs.length := by
  -- how long
  have sa : ∃ (B' : Bag) (l : Nat), s_law_names_g1a (envN many g al fs p k n a b c d) (B.vo :: t) =
      .nx (envN many g al fs p k n (some (.d (iD l))) b c d) (B'.vo :: t) ∧ B'.ok ∧ p < l ∧ l ≤ fs.length := by
    unfold s_law_names_g1a
    cases al with
    | true => exact ⟨B, fs.length, by simp, hB, hp, Nat.le_refl _⟩
    | false =>
      obtain ⟨q, B', h1, h2, h3⟩ := drawN (rest := t) (n := fs.length - p) hB (by omega) (by omega)
      have hs : dSub (iD fs.length) (iD p) = some (iD (fs.length - p)) := by
        show some (D.int ((fs.length : Int) - (p : Int))) = _
        rw [show ((fs.length : Int) - (p : Int)) = ((fs.length - p : Nat) : Int) by omega]
      refine ⟨B', p + 1 + q, ?_, h3, by omega, by omega⟩
      simp [hs, h1]
  obtain ⟨B1, l, sa, hB1, l1, l2⟩ := sa
  have hn : n < t.length := by
    rcases Nat.lt_or_ge n t.length with h | h
    · exact h
    · rw [List.getElem?_eq_none h] at ht; cases ht
  refine ⟨B1, l, (fs.set p ((fs[p] + 11 * k) % 26)).map iD, some (.d (iD l)), some (.ref (t.length + 1)), some (.d (.str (SX.S (name1 fs p k l)))), ?_, hB1, l1, l2⟩
  rw [ev_seq, sa, seqR_nx]
  have v : fs[p]? = some fs[p] := List.getElem?_eq_getElem hp
  have hx : dIx (.lst (fs.map iD)) (iD p) = some (iD fs[p]) := by
    rw [dIx_lst, atI_of (by omega) (by simpa using hp)]
    simp [v]
  have hm : dMul (.int 11) (iD k) = some (.int (11 * k)) := dMul_int (.inl (by decide))
  have hmod : dMod (.int (fs[p] + 11 * k)) (.int 26) = some (iD ((fs[p] + 11 * k) % 26)) := by
    rw [dMod_int (by decide)]
    rfl
  have see1 : ∀ (B : Bag) (r : List D), see (B.vo :: (t ++ [.lst r])) (.ref (t.length + 1)) = some (.lst r) := fun B r => by simp [see]
  have seeN : ∀ (B : Bag) (r : List D), see (B.vo :: (t ++ [.lst r])) (.ref (n + 1)) = some (.lst found) := fun B r => by simp [see, List.getElem?_append_left hn, ht]
  have st : ∀ (E : Mn.Env) (B : Bag) (r : List D) (x : D), r.length = fs.length → storeW (.ref (t.length + 1)) (.d x) (some (iD p)) E (B.vo :: (t ++ [.lst r])) = .nx E (B.vo :: (t ++ [.lst (r.set p x)])) := fun E B r x hr => by
    have h0 : (B.vo :: (t ++ [.lst r]))[t.length + 1]? = some (VO.lst r) := by simp
    rw [storeW_d, h0, storeAt_lst]
    unfold storeL
    have : ixN r.length (p : Int) = some p := by unfold ixN; rw [if_pos (by omega), if_pos (by omega)]; simp
    rw [this]
    simp
  have fixed : (fs.map iD).set p (iD ((fs[p] + 11 * k) % 26)) = (fs.set p ((fs[p] + 11 * k) % 26)).map iD := by rw [List.map_set]
  have hlt : ∀ y ∈ fs.set p ((fs[p] + 11 * k) % 26), y < 26 := fun y hy => by
    rcases List.mem_or_eq_of_mem_set hy with h | h
    · exact hf y h
    · rw [h]; omega
  have cmp : ∀ (ys : List Nat) (E : Mn.Env) (vh : VH), (∀ y ∈ ys, y < 26) → E[3]? = some (some (.d (.str lets))) → E.length = 14 → mComp (aName 13) (fun _ vh => .ok true vh) c_law_names_2 E (ys.map iD) vh = .ok ((ys.map (97 + ·)).map sgn) vh := fun ys E vh hy hE hl => by
    induction ys with
    | nil => rfl
    | cons y ys ih =>
      have h3 : (E.set 13 (some (.d (iD y))))[3]? = some (some (.d (.str lets))) := by rw [List.getElem?_set_ne (by omega)]; exact hE
      have h13 : (E.set 13 (some (.d (iD y))))[13]? = some (some (.d (iD y))) := by rw [List.getElem?_set_self (by omega)]
      have hlx := let_ix (hy y List.mem_cons_self)
      rw [List.map_cons, lc_cons (x := sgn (97 + y)) (vh1 := vh) (vh2 := vh) rfl rfl (by simp [c_law_names_2, h3, h13, hlx]), ih fun z hz => hy z (List.mem_cons_of_mem _ hz)]
      rfl
  have wlen := name1_len (p := p) (k := k) l2
  have wall := name1_all (p := p) (k := k) (l := l) hf
  have join := join_sgn (cs := name0 fs p k l) (fun c hc => by have := name0_all hf c hc; omega) (by rw [name0_len l2]; omega)
  obtain ⟨gs, hgs⟩ : ∃ gs, gs = fs.set p ((fs[p] + 11 * k) % 26) := ⟨_, rfl⟩
  have n0 : name0 fs p k l = (gs.take l).map (97 + ·) := by rw [hgs]; unfold name0; simp [v]
  have glen : gs.length = fs.length := by rw [hgs]; simp
  rw [← hgs] at hlt
  have join2 : gJoin (.str (SX.S [])) [.lst ((gs.take l).map fun y => sgn (97 + y))] = some (.str (SX.S (name0 fs p k l))) := by
    rw [n0] at join ⊢
    rw [← join, List.map_map]; rfl
  have sb : ∀ B : Bag, s_law_names_g1b (envN many g al fs p k n (some (.d (iD l))) b c d) (B.vo :: t) = .nx (envN many g al fs p k n (some (.d (iD l))) (some (.ref (t.length + 1))) c d) (B.vo :: (t ++ [.lst (fs.map iD)])) := fun B => by
    unfold s_law_names_g1b
    simp [envN, seqOf, asSeq]
  have sc : ∀ B : Bag, s_law_names_g1c (envN many g al fs p k n (some (.d (iD l))) (some (.ref (t.length + 1))) c d) (B.vo :: (t ++ [.lst (fs.map iD)])) =
      .nx (envN many g al fs p k n (some (.d (iD l))) (some (.ref (t.length + 1))) c d) (B.vo :: (t ++ [.lst (gs.map iD)])) := fun B => by
    unfold s_law_names_g1c
    have hst := fun E => st E B (fs.map iD) (iD ((fs[p] + 11 * k) % 26)) (by simp)
    rw [hgs, ← fixed]
    simp [envN, hx, hm, hmod, hst]
  have sd : ∀ B : Bag, s_law_names_g1d (envN many g al fs p k n (some (.d (iD l))) (some (.ref (t.length + 1))) c d) (B.vo :: (t ++ [.lst (gs.map iD)])) =
      .nx (envN many g al fs p k n (some (.d (iD l))) (some (.ref (t.length + 1))) (some (.d (.str (SX.S (name0 fs p k l))))) d) (B.vo :: (t ++ [.lst (gs.map iD)])) := fun B => by
    unfold s_law_names_g1d
    have hs := sl_to (gs.map iD) l (by rw [List.length_map, glen]; exact l2)
    rw [← List.map_take] at hs
    have hw : wipeE (envN many g al fs p k n (some (.d (iD l))) (some (.ref (t.length + 1))) c d) [13] = envN many g al fs p k n (some (.d (iD l))) (some (.ref (t.length + 1))) c none := rfl
    have hc := cmp ((gs).take l) (envN many g al fs p k n (some (.d (iD l))) (some (.ref (t.length + 1))) c none) (B.vo :: (t ++ [.lst ((gs).map iD)])) (fun y hy => hlt y (List.mem_of_mem_take hy)) rfl rfl
    have he : (Str.ofString "") = SX.S [] := rfl
    have hlc := lcR_false (xs := ((((gs).take l).map (97 + ·)).map sgn)) (vh := B.vo :: (t ++ [.lst ((gs).map iD)])) (by simp; omega)
    have see2 := see1 B ((gs).map iD)
    simp only [envN] at hw hc
    simp only [ev_set, ev_mt, ev_c, ev_cons, ev_nil, ev_lc, ev_seqI, ev_sl, ev_var, ev_noPart, ev_part, hw]
    simp [envN, see2, tyName]
    simp only [List.map_map] at hc hlc
    simp only [hs, opt_some, bnd_ok, seqI_lst, hc]
    rw [hlc]
    simp [he]
    rw [show (sgn ∘ fun x => 97 + x) = (fun y => sgn (97 + y)) from rfl, ← List.map_take, join2]
    simp
  have se : ∀ B : Bag, s_law_names_g1e (envN many g al fs p k n (some (.d (iD l))) (some (.ref (t.length + 1))) (some (.d (.str (SX.S (name0 fs p k l))))) d) (B.vo :: (t ++ [.lst (gs.map iD)])) =
      .nx (envN many g al fs p k n (some (.d (iD l))) (some (.ref (t.length + 1))) (some (.d (.str (SX.S (name1 fs p k l))))) d) (B.vo :: (t ++ [.lst (gs.map iD)])) := fun B => by
    unfold s_law_names_g1e
    have e1 : Str.ofString "writable" = SX.S cWritable := rfl
    have e2 : Str.ofString "writablr" = SX.S cWritablr := rfl
    have hq := dEq_str (SX.S (name0 fs p k l)) (SX.S cWritable)
    rw [SX.S_beq_eq] at hq
    unfold name1
    by_cases h : name0 fs p k l = cWritable
    · simp [envN, e1, e2, dEq_str, SX.S_beq_eq, h]
    · simp [envN, e1, e2, dEq_str, SX.S_beq_eq, h]
  have sf : ∀ B : Bag, s_law_names_g1f (envN many g al fs p k n (some (.d (iD l))) (some (.ref (t.length + 1))) (some (.d (.str (SX.S (name1 fs p k l))))) d) (B.vo :: (t ++ [.lst (gs.map iD)])) =
      .nx (envN many g al fs p k n (some (.d (iD l))) (some (.ref (t.length + 1))) (some (.d (.str (SX.S (name1 fs p k l))))) d) (B.vo :: List.set (t ++ [.lst (gs.map iD)]) n (.lst (found ++ [.str (SX.S (name2 g fs p k l))]))) := fun B => by
    unfold s_law_names_g1f
    have hn2 : (B.vo :: (t ++ [.lst (gs.map iD)]))[n + 1]? = some (VO.lst found) := by simp [List.getElem?_append_left hn, ht]
    have hm := fun fa E => mutW_ref (g := gAppend) (fa := fa) (e := E) hn2
    have ga : ∀ x : D, gAppend found [x] = some (.non, found ++ [x]) := fun x => if_pos (Nat.lt_of_le_of_lt hfd (by decide))
    cases g with
    | false => simp [envN, hm, hn2, ga, name2]
    | true =>
      have h1 := sl_head (name1 fs p k l)
      have h2 := sl_rest (name1 fs p k l)
      cases hw : name1 fs p k l with
      | nil => rw [hw] at wlen; simp at wlen; omega
      | cons q qs =>
        have hu := upper_one (wall q (by rw [hw]; exact List.mem_cons_self))
        rw [hw] at h1 h2 wlen
        have hadd := add_S [q - 32] qs (by simp at wlen ⊢; omega)
        simp at h1 h2 hadd
        simp [envN, hm, hn2, ga, name2, hw, h1, h2, hu, hadd, tyName, great1]
  rw [← hgs]
  rw [ev_seq, sb, seqR_nx, ev_seq, sc, seqR_nx, ev_seq, sd, seqR_nx, ev_seq, se, seqR_nx, sf]
abbrev env0N (many : W) (g al : Bool) (fs : List Nat) (p n : Nat) : Mn.Env := [some (.ref 0), some many, some (.d (.bl g)), some (.d (.str lets)), some (.d (iD fs.length)), some (.d (iD p)), some (.d (.lst (fs.map iD))), some (.d (.bl al)), some (.ref (n + 1)), none, none, none, none, none]
theorem names_loop {fs : List Nat} {p n : Nat} {many : W} {g al : Bool} (hf : ∀ x ∈ fs, x < 26) (hp : p < fs.length) (h8 : fs.length ≤ 8) :
    ∀ (ks : List Nat) (k0 : Nat) (B : Bag) (t : VH) (found : List D), ks = List.range' k0 ks.length → k0 + ks.length ≤ 1000 → B.ok → t[n]? = some (.lst found) → found.length = k0 →
      ∃ (B' : Bag) (t' : VH) (ls : List Nat), mFor (aName 9) (mFgt [9, 10, 11, 12] (mSeq s_law_names_g1a (mSeq s_law_names_g1b (mSeq s_law_names_g1c (mSeq s_law_names_g1d (mSeq s_law_names_g1e s_law_names_g1f)))))) (ks.map iD)
        (env0N many g al fs p n) (B.vo :: t) = .nx (env0N many g al fs p n) (B'.vo :: t') ∧
        B'.ok ∧ ls.length = ks.length ∧ (∀ l ∈ ls, p < l ∧ l ≤ fs.length) ∧ t'[n]? = some (.lst (found ++ (ks.zip ls).map fun q => .str (SX.S (name2 g fs p q.1 q.2)))) ∧ t.length ≤ t'.length ∧ t'.take n = t.take n
  | [], k0, B, t, found, _, _, hB, ht, _ => ⟨B, t, [], rfl, hB, rfl, fun _ h => (nomatch h), by simpa using ht, Nat.le_refl _, rfl⟩
  | k :: ks, k0, B, t, found, hks, hz, hB, ht, hfd => by
    have hk : k = k0 ∧ ks = List.range' (k0 + 1) ks.length := by
      rw [List.length_cons, List.range'_succ] at hks
      exact ⟨(List.cons.inj hks).1, (List.cons.inj hks).2⟩
    obtain ⟨rfl, hks'⟩ := hk
    simp only [List.length_cons] at hz
    have hn : n < t.length := by
      rcases Nat.lt_or_ge n t.length with h | h
      · exact h
      · rw [List.getElem?_eq_none h] at ht; cases ht
    obtain ⟨B1, l, row, a1, b1, c1, h1, h2, h3, h4⟩ := names_round (many := many) (g := g) (al := al) (a := none) (b := none) (c := none) (d := none) (k := k) hB hf hp h8 (by omega) ht (by omega)
    have ht1 : (List.set (t ++ [VO.lst row]) n (VO.lst (found ++ [D.str (SX.S (name2 g fs p k l))])))[n]? = some (.lst (found ++ [D.str (SX.S (name2 g fs p k l))])) := by
      rw [List.getElem?_set_self (by simp; omega)]
    obtain ⟨B2, t2, ls, g1, g2, g3, g4, g5, g6, g7⟩ := names_loop (many := many) (g := g) (al := al) hf hp h8 ks (k + 1) B1 _ _ hks' (by omega) h2 ht1 (by simp [hfd])
    refine ⟨B2, t2, l :: ls, ?_, g2, by simp [g3], fun x hx => ?_, ?_, ?_, ?_⟩
    · simp only [envN] at h1
      rw [List.map_cons, for_cons rfl]
      simp only [env0N, List.set_cons_zero, List.set_cons_succ] at g1 ⊢
      rw [ev_fgt, h1, fgtR_nx]
      simp only [wipeE_cons, wipeE_nil, List.set_cons_zero, List.set_cons_succ]
      rw [forR_nx]
      rw [g1]
    · rcases List.mem_cons.mp hx with rfl | hx
      · exact ⟨h3, h4⟩
      · exact g4 x hx
    · rw [g5]; simp
    · simp at g6; omega
    · rw [g7, List.take_set_of_le (Nat.le_refl _), List.take_append_of_le_length (by omega)]

/-! ### what names are good for -/
def small (c : Nat) : Prop := 97 ≤ c ∧ c < 123
/-- the name of a member, or of an interface (g) -/
def NameOk (g : Bool) (z : Str) : Prop := ∃ c cs, z = SX.S (c :: cs) ∧ cs.length ≤ 7 ∧ (∀ x ∈ cs, small x) ∧ (if g then 65 ≤ c ∧ c < 91 else small c) ∧ (g = false → c :: cs ≠ cWritable)
theorem name0_at {fs : List Nat} {p k l : Nat} (hp : p < l) (hl : l ≤ fs.length) : (name0 fs p k l)[p]? = some (97 + (fs[p]?.getD 0 + 11 * k) % 26) := by
  unfold name0
  rw [List.getElem?_map, List.getElem?_take_of_lt hp, List.getElem?_set_self (by omega)]
  rfl
theorem wr_at {p : Nat} (hp : p < 8) : cWritable[p]? = some (if p = 0 then 119 else if p = 1 then 114 else if p = 2 then 105 else if p = 3 then 116 else if p = 4 then 97 else if p = 5 then 98 else if p = 6 then 108 else 101) ∧ cWritablr[p]? = some (if p = 0 then 119 else if p = 1 then 114 else if p = 2 then 105 else if p = 3 then 116 else if p = 4 then 97 else if p = 5 then 98 else if p = 6 then 108 else 114) := by
  match p, hp with
  | 0, _ | 1, _ | 2, _ | 3, _ | 4, _ | 5, _ | 6, _ | 7, _ => exact ⟨by decide +kernel, by decide +kernel⟩
theorem name1_inj {fs : List Nat} {p k k' l l' : Nat} (h8 : fs.length ≤ 8) (hp : p < l) (hl : l ≤ fs.length) (hp' : p < l') (hl' : l' ≤ fs.length) (hk : k < k') (hd : k' ≤ k + 12) : name1 fs p k l ≠ name1 fs p k' l' := by
  intro e
  have a := name0_at (k := k) hp hl
  have a' := name0_at (k := k') hp' hl'
  obtain ⟨w1, w2⟩ := wr_at (p := p) (by omega)
  unfold name1 at e
  split at e
  · rename_i h
    rw [h, w1] at a
    have a := Option.some.inj a
    split at e
    · rename_i h'
      rw [h', w1] at a'
      have a' := Option.some.inj a'
      omega
    · rw [← e, w2] at a'
      have a' := Option.some.inj a'
      rcases (show p = 0 ∨ p = 1 ∨ p = 2 ∨ p = 3 ∨ p = 4 ∨ p = 5 ∨ p = 6 ∨ p = 7 by omega) with q | q | q | q | q | q | q | q <;> subst q <;> simp at a a' <;> omega
  · split at e
    · rename_i h'
      rw [h', w1] at a'
      rw [e, w2] at a
      have a := Option.some.inj a
      have a' := Option.some.inj a'
      have : p ≤ 7 := by omega
      rcases (show p = 0 ∨ p = 1 ∨ p = 2 ∨ p = 3 ∨ p = 4 ∨ p = 5 ∨ p = 6 ∨ p = 7 by omega) with q | q | q | q | q | q | q | q <;> subst q <;> simp at a a' <;> omega
    · rw [e, a'] at a
      have a := Option.some.inj a
      omega
theorem great1_inj {a b : List Nat} (ha : ∀ x ∈ a, 97 ≤ x) (hb : ∀ x ∈ b, 97 ≤ x) (e : great1 a = great1 b) : a = b := by
  cases a with
  | nil => cases b with
    | nil => rfl
    | cons y ys => cases e
  | cons x xs => cases b with
    | nil => cases e
    | cons y ys =>
      simp only [great1, List.cons.injEq] at e
      have h1 := ha x List.mem_cons_self
      have h2 := hb y List.mem_cons_self
      rw [e.2, show x = y by omega]
theorem name2_inj {g : Bool} {fs : List Nat} {p k k' l l' : Nat} (hf : ∀ x ∈ fs, x < 26) (h8 : fs.length ≤ 8) (hp : p < l) (hl : l ≤ fs.length) (hp' : p < l') (hl' : l' ≤ fs.length) (hk : k < k') (hd : k' ≤ k + 12) : name2 g fs p k l ≠ name2 g fs p k' l' := fun e => by
  unfold name2 at e
  cases g with
  | false => exact name1_inj h8 hp hl hp' hl' hk hd (by simpa using e)
  | true => exact name1_inj h8 hp hl hp' hl' hk hd (great1_inj (fun x h => (name1_all hf x h).1) (fun x h => (name1_all hf x h).1) (by simpa using e))
theorem name2_ok {g : Bool} {fs : List Nat} {p k l : Nat} (hf : ∀ x ∈ fs, x < 26) (h8 : fs.length ≤ 8) (hp : p < l) (hl : l ≤ fs.length) : NameOk g (SX.S (name2 g fs p k l)) := by
  have h1 := name1_all (p := p) (k := k) (l := l) hf
  have h2 := name1_len (p := p) (k := k) hl
  have h3 := name1_ne (fs := fs) (p := p) (k := k) (l := l)
  unfold name2
  cases hw : name1 fs p k l with
  | nil => rw [hw] at h2; simp at h2; omega
  | cons c cs =>
    rw [hw] at h1 h2 h3
    have hc := h1 c List.mem_cons_self
    simp at h2
    cases g with
    | false => exact ⟨c, cs, rfl, by omega, fun x hx => h1 x (List.mem_cons_of_mem _ hx), hc, fun _ => h3⟩
    | true => exact ⟨c - 32, cs, rfl, by omega, fun x hx => h1 x (List.mem_cons_of_mem _ hx), by simp; omega, fun h => nomatch h⟩
theorem S_inj {a b : List Nat} (h : SX.S a = SX.S b) : a = b := by
  have := congrArg (fun z : Str => z.cps.toList) h
  simpa using this
theorem zip_get {k0 : Nat} : ∀ {ls : List Nat} {i a b : Nat}, ((List.range' k0 ls.length).zip ls)[i]? = some (a, b) → a = k0 + i ∧ b ∈ ls ∧ i < ls.length
  | [], i, a, b, h => by simp at h
  | l :: ls, 0, a, b, h => by
    rw [List.length_cons, List.range'_succ] at h
    simp at h
    obtain ⟨rfl, rfl⟩ := h
    exact ⟨rfl, List.mem_cons_self, by simp⟩
  | l :: ls, i + 1, a, b, h => by
    rw [List.length_cons, List.range'_succ, List.zip_cons_cons, List.getElem?_cons_succ] at h
    obtain ⟨h1, h2, h3⟩ := zip_get h
    exact ⟨by omega, List.mem_cons_of_mem _ h2, by simp; omega⟩
theorem names_nodup {g : Bool} {fs ls : List Nat} {p : Nat} (hf : ∀ x ∈ fs, x < 26) (h8 : fs.length ≤ 8) (hl : ∀ l ∈ ls, p < l ∧ l ≤ fs.length) (hm : ls.length ≤ 13) : (((List.range ls.length).zip ls).map fun q => SX.S (name2 g fs p q.1 q.2)).Nodup := by
  rw [List.range_eq_range']
  refine List.pairwise_map.mpr (List.pairwise_iff_getElem.mpr fun i j hi hj hij => ?_)
  obtain ⟨a1, a2, a3⟩ := zip_get (List.getElem?_eq_getElem hi)
  obtain ⟨b1, b2, b3⟩ := zip_get (List.getElem?_eq_getElem hj)
  simp only [List.get_eq_getElem] at *
  intro e
  exact name2_inj hf h8 (hl _ a2).1 (hl _ a2).2 (hl _ b2).1 (hl _ b2).2 (by omega) (by omega) (S_inj e)
theorem names_ok {B : Bag} {rest : VH} {many : Int} {g : Bool} (hB : B.ok) (h0 : 0 ≤ many) (hm : many ≤ 100) (hr : rest.all (okRef (rest.length + 1)) = true) :
    ∃ (B' : Bag) (zs : List Str), mShut f_law_names [.ref 0, .d (.int many), .d (.bl g)] (B.vo :: rest) = .ok (.d (.lst (zs.map .str))) (B'.vo :: rest) ∧ B'.ok ∧ zs.length = many.toNat ∧ (∀ z ∈ zs, NameOk g z) ∧ (many ≤ 13 → zs.Nodup) := by
  obtain ⟨s0, B1, a1, a2, a2', a3⟩ := draw_ok (rest := rest) (n := 8) hB (by omega) (by omega)
  obtain ⟨p, B2, b1, b2, b2', b3⟩ := draw_ok (rest := rest) (n := 1 + s0) a3 (by omega) (by omega)
  have hr1 := rangeI_ok (vh := B2.vo :: rest) (j := 1 + s0) ⟨by omega, by omega⟩
  obtain ⟨xs, vh2, c1, ⟨B3, rfl, c2⟩, c3, c4⟩ := comp_inv (A := aName 9) (ft := fun _ vh => .ok true vh) (f := c_law_names_1) (e := [some (.ref 0), some (.d (.int many)), some (.d (.bl g)), some (.d (.str lets)), some (.d (.int (1 + s0))), some (.d (.int p)), none, none, none, none, none, none, none, none])
    (fun vh => ∃ B : Bag, vh = B.vo :: rest ∧ B.ok) (fun x => ∃ n : Nat, n < 26 ∧ x = iD n) (ds := (List.range (1 + s0).toNat).map fun (i : Nat) => .int (i : Int)) (vh := B2.vo :: rest) (fun d hd vh ⟨B, e, hB⟩ => by
      subst e
      obtain ⟨k, B1, h1, h2, h3⟩ := drawN (rest := rest) (n := 26) hB (by decide) (by decide)
      have h1' : f_law_draw [W.ref 0, W.d (D.int 26)] (B.vo :: rest) = Res.ok (W.d (D.int ↑k)) (B1.vo :: rest) := h1
      exact ⟨_, rfl, rfl, iD k, B1.vo :: rest, by simp [c_law_names_1, h1'], ⟨B1, rfl, h3⟩, k, h2, rfl⟩) ⟨B2, rfl, b3⟩
  obtain ⟨fs, rfl, hf⟩ := ints_map c4
  have fl : fs.length = (1 + s0).toNat := by simpa using c3
  obtain ⟨q, B4, d1, d2, d2', d3⟩ := draw_ok (rest := rest) (n := 2) c2 (by omega) (by omega)
  obtain ⟨B5, t', ls, e1, e2, e3, e4, e5, e6, e7⟩ := names_loop (fs := fs) (p := p.toNat) (n := rest.length) (many := .d (.int many)) (g := g) (al := decide (q = 0)) hf (by omega) (by omega) (List.range many.toNat) 0 B4 (rest ++ [.lst []]) [] (by rw [List.range_eq_range']; simp) (by simp; omega) d3 (by simp) rfl
  have lsl : ls.length = many.toNat := by simpa using e3
  refine ⟨B5, ((List.range ls.length).zip ls).map fun q => SX.S (name2 g fs p.toNat q.1 q.2), ?_, e2, by simp [lsl], fun z hz => ?_, fun h13 => names_nodup hf (by omega) e4 (by omega)⟩
  rotate_left
  · obtain ⟨⟨a, b⟩, hq, rfl⟩ := List.mem_map.mp hz
    have hb := e4 b (List.of_mem_zip hq).2
    exact name2_ok hf (by omega) hb.1 hb.2
  have main : f_law_names [.ref 0, .d (.int many), .d (.bl g)] (B.vo :: rest) = .ok (.ref (rest.length + 1)) (B5.vo :: t') := by
    unfold f_law_names
    rw [ev_fn (np := 3) (by rfl)]
    have e0 : entry 3 14 [W.ref 0, .d (.int many), .d (.bl g)] = [some (.ref 0), some (.d (.int many)), some (.d (.bl g)), none, none, none, none, none, none, none, none, none, none, none] := rfl
    have hr2 := rangeI_ok (vh := B4.vo :: (rest ++ [VO.lst []])) (j := many) ⟨by omega, by omega⟩
    have hlc := lcR_false (xs := fs.map iD) (vh := B3.vo :: rest) (by simp; omega)
    have hp : (p.toNat : Int) = p := by omega
    have hs : ((fs.length : Nat) : Int) = 1 + s0 := by omega
    simp only [env0N, iD, hp, hs] at e1
    have sz : Mn.sizeOk 0 = id := by funext r; exact if_pos (Nat.zero_le _)
    rw [e0]
    simp -implicitDefEqProofs only [s_law_names, ev_seq, s_law_names_a, ev_set, ev_c, lft_ok, List.set_cons_zero, List.set_cons_succ, seqR_nx, s_law_names_b, ev_op, ev_callC, ev_cons, ev_nil, ev_var, List.getElem?_cons_zero, List.getElem?_cons_succ, getW_some, bnd_ok, byPos_2, a1, see_d, opt_some, Mn.add_int,
      s_law_names_c, b1, s_law_names_d, ev_lc, ev_range1, hr1, wipeE_cons, wipeE_nil, c1, hlc, s_law_names_e, d1, dEq_int, s_law_names_f, ev_lstM, datas_nil, List.length_nil, sz, id, s_law_names_g, ev_forS, List.length_cons, List.cons_append, hr2]
    rw [e1]
    rfl
  have htl : rest.length < t'.length := by simp at e6; omega
  have htk : t'.take rest.length = rest := by rw [e7]; simp
  unfold mShut
  rw [main]
  simp only [List.length_cons]
  have tm : tame (rest.length + 1) (B5.vo :: t') = true := by
    unfold tame
    rw [List.take_succ_cons, htk, List.all_cons, hr]; rfl
  rw [if_pos ⟨by omega, tm⟩]
  have hz : froz (rest.length + 1) (B5.vo :: t') (.ref (rest.length + 1)) = some (.d (.lst ((((List.range ls.length).zip ls).map fun q => SX.S (name2 g fs p.toNat q.1 q.2)).map .str))) := by
    simp [froz, e5, lsl]
  rw [hz, List.take_succ_cons, htk]
  rfl
/-! ### one of some, a value, a content -/
theorem of_ok {rest : VH} {B : Bag} {ds : List D} (hB : B.ok) (h0 : 0 < ds.length) (h1 : ds.length < 1000000) :
    ∃ (d : D) (B' : Bag), f_law_of [.ref 0, .d (.lst ds)] (B.vo :: rest) = .ok (.d d) (B'.vo :: rest) ∧ d ∈ ds ∧ B'.ok := by
  obtain ⟨i, B', h2, h3, h4⟩ := drawN (rest := rest) (n := ds.length) hB h0 h1
  refine ⟨ds[i], B', ?_, List.getElem_mem h3, h4⟩
  unfold f_law_of
  rw [ev_fn (np := 2) (by rfl)]
  have e0 : entry 2 2 [W.ref 0, .d (.lst ds)] = [some (.ref 0), some (.d (.lst ds))] := rfl
  rw [e0]
  unfold s_law_of s_law_of_a
  have hx : dIx (.lst ds) (.int i) = some ds[i] := by
    rw [dIx_lst, atI_of (by omega) (by omega), Int.toNat_natCast, List.getElem?_eq_getElem h3]
  simp [h2, hx]
theorem value_ok {rest : VH} {B : Bag} {ks : List D} (hB : B.ok) (hk : ks.length ≤ 1000) :
    ∃ (d : D) (B' : Bag), f_law_value [.ref 0, .d (.lst ks)] (B.vo :: rest) = .ok (.d d) (B'.vo :: rest) ∧ (d ∈ [D.str (Str.ofString "int"), .str (Str.ofString "str"), .str (Str.ofString "bool")] ∨ d ∈ ks) ∧ B'.ok := by
  obtain ⟨d, B', h2, h3, h4⟩ := of_ok (rest := rest) (ds := [.str (Str.ofString "int"), .str (Str.ofString "str"), .str (Str.ofString "bool"), .str (Str.ofString "int")] ++ ks ++ ks) hB (by simp) (by simp; omega)
  refine ⟨d, B', ?_, ?_, h4⟩
  · unfold f_law_value
    rw [ev_fn (np := 2) (by rfl)]
    have e0 : entry 2 2 [W.ref 0, .d (.lst ks)] = [some (.ref 0), some (.d (.lst ks))] := rfl
    rw [e0]
    unfold s_law_value s_law_value_a
    have a1 : dAdd (.lst [.str (Str.ofString "int"), .str (Str.ofString "str"), .str (Str.ofString "bool"), .str (Str.ofString "int")]) (.lst ks) = some (.lst ([.str (Str.ofString "int"), .str (Str.ofString "str"), .str (Str.ofString "bool"), .str (Str.ofString "int")] ++ ks)) := if_pos (Nat.le_trans (show _ ≤ 2000 by simp; omega) (by decide))
    have a2 : dAdd (.lst ([.str (Str.ofString "int"), .str (Str.ofString "str"), .str (Str.ofString "bool"), .str (Str.ofString "int")] ++ ks)) (.lst ks) = some (.lst ([.str (Str.ofString "int"), .str (Str.ofString "str"), .str (Str.ofString "bool"), .str (Str.ofString "int")] ++ ks ++ ks)) := if_pos (Nat.le_trans (show _ ≤ 4000 by simp; omega) (by decide))
    simp at a1 a2 h2
    simp [Mn.sizeOk, sizeLine, a1, a2, h2]
  · rw [List.mem_append, List.mem_append] at h3
    rcases h3 with (h | h) | h
    · refine .inl ?_
      simp at h ⊢
      rcases h with h | h | h | h <;> simp [h]
    · exact .inr h
    · exact .inr h
/-- a content over the names ks -/
def IsVal (ks : List D) (d : D) : Prop := d ∈ [D.str (Str.ofString "int"), .str (Str.ofString "str"), .str (Str.ofString "bool")] ∨ d ∈ ks
def IsCon (ks : List D) (d : D) : Prop := IsVal ks d ∨ ∃ (ps : List D) (r : D), d = .tup [.str (Str.ofString "method"), .tup ps, r] ∧ ps.length ≤ 3 ∧ (∀ x ∈ ps, IsVal ks x) ∧ IsVal ks r
theorem content_ok {rest : VH} {B : Bag} {ks : List D} (hB : B.ok) (hk : ks.length ≤ 1000) :
    ∃ (d : D) (B' : Bag), f_law_content [.ref 0, .d (.lst ks)] (B.vo :: rest) = .ok (.d d) (B'.vo :: rest) ∧ IsCon ks d ∧ B'.ok := by
  obtain ⟨q, B1, a1, a2, a3⟩ := drawN (rest := rest) (n := 4) hB (by omega) (by omega)
  have a1' : f_law_draw [W.ref 0, W.d (D.int 4)] (B.vo :: rest) = Res.ok (W.d (D.int ↑q)) (B1.vo :: rest) := a1
  have e0 : entry 2 4 [W.ref 0, .d (.lst ks)] = [some (.ref 0), some (.d (.lst ks)), none, none] := rfl
  by_cases hq : 0 < q
  · obtain ⟨d, B2, b1, b2, b3⟩ := value_ok (rest := rest) a3 hk
    refine ⟨d, B2, ?_, .inl b2, b3⟩
    unfold f_law_content
    rw [ev_fn (np := 2) (by rfl), e0]
    unfold s_law_content s_law_content_a s_law_content_a1a
    simp [a1', hq, b1]
  · obtain ⟨m, B2, b1, b2, b3⟩ := drawN (rest := rest) (n := 4) a3 (by omega) (by omega)
    have b1' : f_law_draw [W.ref 0, W.d (D.int 4)] (B1.vo :: rest) = Res.ok (W.d (D.int ↑m)) (B2.vo :: rest) := b1
    obtain ⟨xs, vh2, c1, ⟨B3, rfl, c2⟩, c3, c4⟩ := comp_inv (A := aName 3) (ft := fun _ vh => .ok true vh) (f := c_law_content_1) (e := [some (.ref 0), some (.d (.lst ks)), none, none])
      (fun vh => ∃ B : Bag, vh = B.vo :: rest ∧ B.ok) (IsVal ks) (ds := (List.range m).map fun (i : Nat) => .int (i : Int)) (vh := B2.vo :: rest) (fun d hd vh ⟨B, e, hB⟩ => by
        subst e
        obtain ⟨k, B1, h1, h2, h3⟩ := value_ok (rest := rest) hB hk
        exact ⟨_, rfl, rfl, k, B1.vo :: rest, by simp [c_law_content_1, h1], ⟨B1, rfl, h3⟩, h2⟩) ⟨B2, rfl, b3⟩
    obtain ⟨r, B4, d1, d2, d3⟩ := value_ok (rest := rest) c2 hk
    have xl : xs.length = m := by simpa using c3
    refine ⟨.tup [.str (Str.ofString "method"), .tup xs, r], B4, ?_, .inr ⟨xs, r, rfl, by omega, c4, d2⟩, d3⟩
    unfold f_law_content
    rw [ev_fn (np := 2) (by rfl), e0]
    have hr := rangeI_ok (vh := B2.vo :: rest) (j := (m : Int)) ⟨by omega, by omega⟩
    rw [Int.toNat_natCast] at hr
    have hw : wipeE [some (W.ref 0), some (.d (.lst ks)), none, none] [3] = [some (.ref 0), some (.d (.lst ks)), none, none] := rfl
    have hlc := lcR_false (xs := xs) (vh := B3.vo :: rest) (by omega)
    have ht : cTuple [.lst xs] = some (.tup xs) := rfl
    have sa : s_law_content_a [some (.ref 0), some (.d (.lst ks)), none, none] (B.vo :: rest) = .nx [some (.ref 0), some (.d (.lst ks)), none, none] (B1.vo :: rest) := by
      unfold s_law_content_a
      simp [a1', hq]
    have sb : s_law_content_b [some (.ref 0), some (.d (.lst ks)), none, none] (B1.vo :: rest) = .nx [some (.ref 0), some (.d (.lst ks)), some (.d (.tup xs)), none] (B3.vo :: rest) := by
      unfold s_law_content_b
      simp -implicitDefEqProofs [b1', hr, hw, c1, hlc, ht]
    have sc : s_law_content_c [some (.ref 0), some (.d (.lst ks)), some (.d (.tup xs)), none] (B3.vo :: rest) = .rt (.d (.tup [.str (Str.ofString "method"), .tup xs, r])) (B4.vo :: rest) := by
      unfold s_law_content_c
      simp [d1, Mn.sizeOk, sizeLine]
    unfold s_law_content
    rw [ev_seq, sa, seqR_nx, ev_seq, sb, seqR_nx, sc, endFn_rt]
/-! ### the judgements -/
theorem in_sgn (n : Nat) (z : Str) : dInD (sgn n) (.str z) = some (.bl (decide (n ∈ z.cps.toList))) := rfl
theorem notin_sgn (n : Nat) (z : Str) : dNotInD (sgn n) (.str z) = some (.bl (!decide (n ∈ z.cps.toList))) := rfl
theorem all_sgn (z : Str) (cs : List Nat) : cAll [.lst (cs.map fun n => .bl (decide (n ∈ z.cps.toList)))] = some (.bl (cs.all fun n => decide (n ∈ z.cps.toList))) := by
  have : asBools (cs.map fun n => .bl (decide (n ∈ z.cps.toList))) = some (cs.map fun n => decide (n ∈ z.cps.toList)) := by
    induction cs with
    | nil => rfl
    | cons c cs ih => simp only [List.map_cons, asBools] at ih ⊢; rw [ih]; rfl
  simp only [cAll, this, Option.map_some, List.all_map]
  rfl
theorem lc_in {z : Str} {cs : List Nat} {e : Mn.Env} {vh : VH} {f : FE} (hl : cs.length ≤ 1000) (hf : ∀ n vh, f (e.set 1 (some (.d (sgn n)))) vh = .ok (.d (.bl (decide (n ∈ z.cps.toList)))) vh) :
    lcR false (mComp (aName 1) (fun _ vh => .ok true vh) f e (cs.map sgn) vh) = .ok (.d (.lst (cs.map fun n => .bl (decide (n ∈ z.cps.toList))))) vh := by
  have h : mComp (aName 1) (fun _ vh => .ok true vh) f e (cs.map sgn) vh = .ok (cs.map fun n => .bl (decide (n ∈ z.cps.toList))) vh := by
    induction cs with
    | nil => rfl
    | cons c cs ih => rw [List.map_cons, lc_cons rfl rfl (hf c vh), ih (by simp at hl; omega)]; rfl
  rw [h, lcR_false (by simp; omega)]
abbrev Az : Str := Str.ofString "abcdefghijklmnopqrstuvwxyz"
abbrev AZ : Str := Str.ofString "ABCDEFGHIJKLMNOPQRSTUVWXYZ"
def vSmall (cs : List Nat) : Bool := decide (1 ≤ cs.length) && decide (cs.length ≤ 8) && (cs.all fun n => decide (n ∈ Az.cps.toList)) && !(SX.S cs == Str.ofString "writable")
theorem small_val (cs : List Nat) (vh : VH) (hl : cs.length ≤ 1000) : f_is_member_name [.d (.str (SX.S cs))] vh = .ok (.d (.bl (vSmall cs))) vh := by
  unfold f_is_member_name
  rw [ev_fn (np := 1) (by rfl)]
  unfold s_is_member_name s_is_member_name_a
  have e0 : entry 1 2 [W.d (.str (SX.S cs))] = [some (.d (.str (SX.S cs))), none] := rfl
  have hw : wipeE [some (W.d (.str (SX.S cs))), none] [1] = [some (.d (.str (SX.S cs))), none] := rfl
  have hc := lc_in (z := Az) (vh := vh) (f := c_is_member_name_1) (e := [some (.d (.str (SX.S cs))), none]) hl fun n vh => by simp [c_is_member_name_1, in_sgn]
  have ha := all_sgn Az cs
  unfold vSmall
  generalize (cs.all fun n => decide (n ∈ Az.cps.toList)) = q at ha ⊢
  simp only [Az] at hc ha
  simp at hc ha
  rw [e0]
  by_cases h1 : 1 ≤ cs.length <;> by_cases h2 : cs.length ≤ 8 <;> cases q <;>
    simp [SX.S_len, hw, hc, ha, dNe_str, h1, h2, show (1:Int) ≤ cs.length ↔ 1 ≤ cs.length by omega, show (cs.length : Int) ≤ 8 ↔ cs.length ≤ 8 by omega]
def vGreat : List Nat → Bool
  | [] => false
  | c :: cs => decide (cs.length + 1 ≤ 8) && decide (c ∈ AZ.cps.toList) && (cs.all fun n => decide (n ∈ Az.cps.toList))
theorem sl_tail (c : Nat) (cs : List Nat) : dSl (.str (SX.S (c :: cs))) (some 1) none = some (.str (SX.S cs)) := by
  have h1 : HT.sIx (SX.S (c :: cs)).length 0 (some 1) = 1 := by simp [HT.sIx, SX.S_len]
  have h2 : HT.sIx (SX.S (c :: cs)).length (SX.S (c :: cs)).length none = cs.length + 1 := by simp [HT.sIx, SX.S_len]
  simp [dSl, cutS, h1, h2]
theorem ix_zero (c : Nat) (cs : List Nat) : dIx (.str (SX.S (c :: cs))) (.int 0) = some (sgn c) := by
  rw [dIx_str, atI_of (by decide) (by simp)]; rfl
theorem great_val (cs : List Nat) (vh : VH) (hl : cs.length ≤ 1000) : f_is_interface_name [.d (.str (SX.S cs))] vh = .ok (.d (.bl (vGreat cs))) vh := by
  unfold f_is_interface_name
  rw [ev_fn (np := 1) (by rfl)]
  unfold s_is_interface_name s_is_interface_name_a
  have e0 : entry 1 2 [W.d (.str (SX.S cs))] = [some (.d (.str (SX.S cs))), none] := rfl
  rw [e0]
  cases cs with
  | nil => rfl
  | cons c cs =>
    have hw : wipeE [some (W.d (.str (SX.S (c :: cs)))), none] [1] = [some (.d (.str (SX.S (c :: cs)))), none] := rfl
    have hc := lc_in (cs := cs) (z := Az) (vh := vh) (f := c_is_interface_name_1) (e := [some (.d (.str (SX.S (c :: cs)))), none]) (by simp at hl; omega) fun n vh => by simp [c_is_interface_name_1, in_sgn]
    have ha := all_sgn Az cs
    have hs := sl_tail c cs
    have hi : dIx (.str (SX.S (c :: cs))) (.int 0) = some (sgn c) := ix_zero c cs
    have hn := in_sgn c AZ
    rw [show vGreat (c :: cs) = (decide (cs.length + 1 ≤ 8) && decide (c ∈ AZ.cps.toList) && (cs.all fun n => decide (n ∈ Az.cps.toList))) from rfl]
    generalize (cs.all fun n => decide (n ∈ Az.cps.toList)) = q at ha ⊢
    generalize decide (c ∈ AZ.cps.toList) = q2 at hn ⊢
    simp only [Az] at hc ha
    simp at hc ha
    by_cases h2 : cs.length + 1 ≤ 8 <;> cases q <;> cases q2 <;>
      simp [SX.S_len, hw, hc, ha, hs, hi, hn, h2, show (1:Int) ≤ cs.length + 1 by omega, show (cs.length : Int) + 1 ≤ 8 ↔ cs.length + 1 ≤ 8 by omega]
/-! ### names that the judgements accept -/
theorem small_in {c : Nat} (h : small c) : c ∈ Az.cps.toList := by
  obtain ⟨i, hi, rfl⟩ : ∃ i, i < 26 ∧ c = 97 + i := ⟨c - 97, by have := h.1; have := h.2; omega, by have := h.1; omega⟩
  exact of_decide_eq_true (List.all_eq_true.mp (show (List.range 26).all (fun i => decide (97 + i ∈ Az.cps.toList)) = true by decide +kernel) i (List.mem_range.mpr hi))
theorem great_in {c : Nat} (h : 65 ≤ c ∧ c < 91) : c ∈ AZ.cps.toList := by
  obtain ⟨i, hi, rfl⟩ : ∃ i, i < 26 ∧ c = 65 + i := ⟨c - 65, by omega, by omega⟩
  exact of_decide_eq_true (List.all_eq_true.mp (show (List.range 26).all (fun i => decide (65 + i ∈ AZ.cps.toList)) = true by decide +kernel) i (List.mem_range.mpr hi))
theorem member_name_ok {z : Str} {vh : VH} (h : NameOk false z) : f_is_member_name [.d (.str z)] vh = .ok (.d (.bl true)) vh := by
  obtain ⟨c, cs, rfl, h1, h2, h3, h4⟩ := h
  rw [small_val (c :: cs) vh (by simp; omega)]
  have a1 : ((c :: cs).all fun n => decide (n ∈ Az.cps.toList)) = true := List.all_eq_true.mpr fun x hx => decide_eq_true (by
    rcases List.mem_cons.mp hx with rfl | hx
    · exact small_in (by simpa using h3)
    · exact small_in (h2 x hx))
  have a2 : (SX.S (c :: cs) == Str.ofString "writable") = false := beq_eq_false_iff_ne.mpr fun e => h4 rfl (S_inj (e.trans (show Str.ofString "writable" = SX.S cWritable from rfl)))
  unfold vSmall
  rw [a1, a2]
  simp
  omega
theorem interface_name_ok {z : Str} {vh : VH} (h : NameOk true z) : f_is_interface_name [.d (.str z)] vh = .ok (.d (.bl true)) vh := by
  obtain ⟨c, cs, rfl, h1, h2, h3, h4⟩ := h
  rw [great_val (c :: cs) vh (by simp; omega)]
  have a1 : (cs.all fun n => decide (n ∈ Az.cps.toList)) = true := List.all_eq_true.mpr fun x hx => decide_eq_true (small_in (h2 x hx))
  have a2 : decide (c ∈ AZ.cps.toList) = true := decide_eq_true (great_in (by simpa using h3))
  rw [show vGreat (c :: cs) = (decide (cs.length + 1 ≤ 8) && decide (c ∈ AZ.cps.toList) && (cs.all fun n => decide (n ∈ Az.cps.toList))) from rfl, a1, a2]
  simp
  omega
theorem nameOk_str {g : Bool} {z : Str} (h : NameOk g z) : okStr z = true := by
  obtain ⟨c, cs, rfl, h1, h2, h3, h4⟩ := h
  rw [okStr_iff]
  refine ⟨by rw [SX.S_len]; simp; exact Nat.le_trans (show cs.length + 1 ≤ 8 by omega) (by decide), strOk_iff.mpr fun x hx => ?_⟩
  have hx : x ∈ c :: cs := by simpa using hx
  rcases List.mem_cons.mp hx with rfl | hx
  · cases g
    · have := h3; simp [small] at this; omega
    · have := h3; simp at this; omega
  · have := h2 x hx; unfold small at this; omega
/-! ### members, typed -/
inductive Pres
  | req
  | opt
  | abs
def Pres.s : Pres → Str
  | .req => Str.ofString "required"
  | .opt => Str.ofString "optional"
  | .abs => Str.ofString "absent"
inductive Con
  | val (z : Str)
  | meth (ps : List Str) (r : Str)
def Con.D : Con → D
  | .val z => .str z
  | .meth ps r => .tup [.str (Str.ofString "method"), .tup (ps.map .str), .str r]
structure Mem where
  nm : Str
  pr : Pres
  con : Option Con
  wr : Bool
def conD : Option Con → D
  | none => .non
  | some c => c.D
def Mem.D (m : Mem) : D := .tup [.str m.nm, .str m.pr.s, conD m.con, .bl m.wr]
abbrev basics : List Str := [Str.ofString "int", Str.ofString "str", Str.ofString "bool"]
/-- a value's name, over the names ks -/
def VOver (ks : List Str) (z : Str) : Prop := z ∈ basics ∨ z ∈ ks
def Con.over (ks : List Str) : Con → Prop
  | .val z => VOver ks z
  | .meth ps r => ps.length ≤ 3 ∧ (∀ p ∈ ps, VOver ks p) ∧ VOver ks r
def Mem.over (ks : List Str) (m : Mem) : Prop := match m.con with
  | none => m.pr = .abs ∧ m.wr = false
  | some c => m.pr ≠ .abs ∧ c.over ks ∧ (m.wr = true → ∃ z, c = .val z)
def Greats (ks : List Str) : Prop := ∀ k ∈ ks, NameOk true k
/-! ### drawn -/
theorem val_str {ks : List Str} {d : D} (h : IsVal (ks.map .str) d) : ∃ z, d = .str z ∧ VOver ks z := by
  rcases h with h | h
  · simp only [List.mem_cons, List.not_mem_nil, or_false] at h
    rcases h with h | h | h <;> exact ⟨_, h, .inl (by simp)⟩
  · obtain ⟨z, hz, rfl⟩ := List.mem_map.mp h
    exact ⟨z, rfl, .inr hz⟩
theorem vals_str {ks : List Str} : ∀ {ds : List D}, (∀ x ∈ ds, IsVal (ks.map .str) x) → ∃ zs : List Str, ds = zs.map .str ∧ ∀ z ∈ zs, VOver ks z
  | [], _ => ⟨[], rfl, fun _ h => nomatch h⟩
  | d :: ds, h => by
    obtain ⟨z, rfl, hz⟩ := val_str (h d List.mem_cons_self)
    obtain ⟨zs, rfl, hzs⟩ := vals_str fun x hx => h x (List.mem_cons_of_mem _ hx)
    refine ⟨z :: zs, rfl, fun x hx => ?_⟩
    rcases List.mem_cons.mp hx with rfl | hx
    · exact hz
    · exact hzs x hx
theorem con_ok {rest : VH} {B : Bag} {ks : List Str} (hB : B.ok) (hk : ks.length ≤ 1000) :
    ∃ (c : Con) (B' : Bag), f_law_content [.ref 0, .d (.lst (ks.map .str))] (B.vo :: rest) = .ok (.d c.D) (B'.vo :: rest) ∧ c.over ks ∧ B'.ok := by
  obtain ⟨d, B', h1, h2, h3⟩ := content_ok (rest := rest) (ks := ks.map .str) hB (by simpa using hk)
  rcases h2 with h | ⟨ps, r, rfl, l, hp, hr⟩
  · obtain ⟨z, rfl, hz⟩ := val_str h
    exact ⟨.val z, B', h1, hz, h3⟩
  · obtain ⟨zs, rfl, hz⟩ := vals_str hp
    obtain ⟨z, rfl, hz'⟩ := val_str hr
    exact ⟨.meth zs z, B', h1, ⟨by simpa using l, hz, hz'⟩, h3⟩
theorem mem_ok {rest : VH} {B : Bag} {ks : List Str} {z : Str} (hB : B.ok) (hk : ks.length ≤ 1000) :
    ∃ (m : Mem) (B' : Bag), f_law_member [.ref 0, .d (.str z), .d (.lst (ks.map .str))] (B.vo :: rest) = .ok (.d m.D) (B'.vo :: rest) ∧ m.nm = z ∧ m.over ks ∧ B'.ok := by
  obtain ⟨d, B1, a1, a2, a3⟩ := of_ok (rest := rest) (ds := [.str (Str.ofString "required"), .str (Str.ofString "required"), .str (Str.ofString "optional"), .str (Str.ofString "absent")]) hB (by simp) (by simp)
  obtain ⟨p, rfl⟩ : ∃ p : Pres, d = .str p.s := by
    simp only [List.mem_cons, List.not_mem_nil, or_false] at a2
    rcases a2 with h | h | h | h
    · exact ⟨.req, h⟩
    · exact ⟨.req, h⟩
    · exact ⟨.opt, h⟩
    · exact ⟨.abs, h⟩
  have e0 : entry 3 5 [W.ref 0, .d (.str z), .d (.lst (ks.map .str))] = [some (.ref 0), some (.d (.str z)), some (.d (.lst (ks.map .str))), none, none] := rfl
  by_cases hp : p = .abs
  · subst hp
    refine ⟨⟨z, .abs, none, false⟩, B1, ?_, rfl, ⟨rfl, rfl⟩, a3⟩
    unfold f_law_member
    rw [ev_fn (np := 3) (by rfl), e0]
    unfold s_law_member s_law_member_a s_law_member_b s_law_member_b1a
    simp [a1, Mn.sizeOk, sizeLine, dEq_str, Pres.s, Mem.D, conD]
  · obtain ⟨c, B2, b1, b2, b3⟩ := con_ok (rest := rest) (ks := ks) a3 hk
    have hne : (p.s == Str.ofString "absent") = false := by
      cases p
      · decide +kernel
      · decide +kernel
      · exact absurd rfl hp
    cases c with
    | val y =>
      obtain ⟨q, B3, c1, c2, c3⟩ := drawN (rest := rest) (n := 3) b3 (by omega) (by omega)
      have c1' : f_law_draw [W.ref 0, W.d (D.int 3)] (B2.vo :: rest) = Res.ok (W.d (D.int ↑q)) (B3.vo :: rest) := c1
      refine ⟨⟨z, p, some (.val y), decide (q = 0)⟩, B3, ?_, rfl, ⟨hp, b2, fun _ => ⟨y, rfl⟩⟩, c3⟩
      unfold f_law_member
      rw [ev_fn (np := 3) (by rfl), e0]
      unfold s_law_member s_law_member_a s_law_member_b s_law_member_c s_law_member_d
      simp [a1, Mn.sizeOk, sizeLine, dEq_str, Mem.D, conD, hne, b1, Con.D, c1', dEq_int, show ((q : Int) = 0 ↔ q = 0) by omega]
    | meth ps r =>
      refine ⟨⟨z, p, some (.meth ps r), false⟩, B2, ?_, rfl, ⟨hp, b2, fun h => by cases h⟩, b3⟩
      unfold f_law_member
      rw [ev_fn (np := 3) (by rfl), e0]
      unfold s_law_member s_law_member_a s_law_member_b s_law_member_c s_law_member_d
      simp [a1, Mn.sizeOk, sizeLine, dEq_str, Mem.D, conD, hne, b1, Con.D]
/-! ### judged -/
theorem value_content_ok {ks : List Str} {z : Str} {vh : VH} (hk : Greats ks) (h : VOver ks z) : f_is_value_content [.d (.str z)] vh = .ok (.d (.bl true)) vh := by
  unfold f_is_value_content
  rw [ev_fn (np := 1) (by rfl)]
  have e0 : entry 1 1 [W.d (.str z)] = [some (.d (.str z))] := rfl
  rw [e0]
  unfold s_is_value_content s_is_value_content_a
  have hi : dInD (.str z) (.ctp [.str (Str.ofString "int"), .str (Str.ofString "str"), .str (Str.ofString "bool")]) = some (.bl (decide (z ∈ basics))) := in_cstr z basics
  by_cases hb : z ∈ basics
  · rw [decide_eq_true hb] at hi
    simp [hi]
  · rw [decide_eq_false hb] at hi
    have hz := interface_name_ok (vh := vh) (hk z (h.resolve_left hb))
    simp [hi, hz]
theorem value_content_tup {ds : List D} {vh : VH} : f_is_value_content [.d (.tup ds)] vh = .ok (.d (.bl false)) vh := by
  unfold f_is_value_content
  rw [ev_fn (np := 1) (by rfl)]
  have e0 : entry 1 1 [W.d (.tup ds)] = [some (.d (.tup ds))] := rfl
  rw [e0]
  unfold s_is_value_content s_is_value_content_a
  simp
theorem bools_true {α : Type} (l : List α) : cAll [.lst (l.map fun _ => .bl true)] = some (.bl true) := by
  have : asBools (l.map fun _ => D.bl true) = some (l.map fun _ => true) := by
    induction l with
    | nil => rfl
    | cons c cs ih => simp only [List.map_cons, asBools] at ih ⊢; rw [ih]; rfl
  simp [cAll, this]
theorem method_ok {ks ps : List Str} {r : Str} {vh : VH} (hk : Greats ks) (h : (Con.meth ps r).over ks) : f_is_method [.d (Con.meth ps r).D] vh = .ok (.d (.bl true)) vh := by
  obtain ⟨h1, h2, h3⟩ := h
  unfold f_is_method Con.D
  rw [ev_fn (np := 1) (by rfl)]
  have e0 : ∀ x : D, entry 1 2 [W.d x] = [some (.d x), none] := fun _ => rfl
  rw [e0]
  unfold s_is_method s_is_method_a s_is_method_b s_is_method_c
  have i0 : ∀ a b c : D, dIx (.tup [a, b, c]) (.int 0) = some a := fun _ _ _ => rfl
  have i1 : ∀ a b c : D, dIx (.tup [a, b, c]) (.int 1) = some b := fun _ _ _ => rfl
  have i2 : ∀ a b c : D, dIx (.tup [a, b, c]) (.int 2) = some c := fun _ _ _ => rfl
  have ln : ∀ ds : List D, cLen [.tup ds] = some (.int ds.length) := fun _ => rfl
  have hm := lc_map (A := aName 1) (ft := fun _ vh => .ok true vh) (f := c_is_method_1) (e := [some (.d (.tup [.str (Str.ofString "method"), .tup (ps.map .str), .str r])), none]) (vh := vh) (k := fun _ => .bl true) (ds := ps.map .str) fun d hd => by
    obtain ⟨p, hp, rfl⟩ := List.mem_map.mp hd
    have := value_content_ok (vh := vh) hk (h2 p hp)
    exact ⟨_, rfl, rfl, by simp [c_is_method_1, this]⟩
  have hr := value_content_ok (vh := vh) hk h3
  have hlc := lcR_false (xs := ((ps.map D.str).map fun _ => .bl true)) (vh := vh) (by simp; omega)
  have hb := bools_true (ps.map D.str)
  simp at hm hlc hb
  simp [i0, i1, i2, ln, dNe_int, dNe_str, hm, hlc, hb, hr, show ¬ (3:Int) < ps.length by omega]
theorem member_ok {ks : List Str} {m : Mem} {vh : VH} (hk : Greats ks) (hn : NameOk false m.nm) (h : m.over ks) : f_is_member [.d m.D] vh = .ok (.d (.bl true)) vh := by
  obtain ⟨nm, pr, con, wr⟩ := m
  have hz := member_name_ok (vh := vh) hn
  unfold f_is_member
  rw [ev_fn (np := 1) (by rfl)]
  have e0 : ∀ x : D, entry 1 5 [W.d x] = [some (.d x), none, none, none, none] := fun _ => rfl
  rw [e0]
  unfold s_is_member s_is_member_a s_is_member_b s_is_member_c s_is_member_d Mem.D
  have hp : dNotInD (.str pr.s) (.ctp [.str (Str.ofString "required"), .str (Str.ofString "optional"), .str (Str.ofString "absent")]) = some (.bl false) := by
    have := notIn_cstr pr.s [Str.ofString "required", Str.ofString "optional", Str.ofString "absent"]
    have q : pr.s ∈ [Str.ofString "required", Str.ofString "optional", Str.ofString "absent"] := by cases pr <;> simp [Pres.s]
    rw [decide_eq_true q] at this
    exact this
  unfold Mem.over at h
  cases con with
  | none =>
    obtain ⟨rfl, rfl⟩ := h
    simp at hz
    simp only [Pres.s] at hp
    simp [hz, hp, s_is_member_c1a, dEq_str, Pres.s, conD, dIsN, D.isNon]
  | some c =>
    obtain ⟨h1, h2, h3⟩ := h
    have hne : (pr.s == Str.ofString "absent") = false := by
      cases pr
      · decide +kernel
      · decide +kernel
      · exact absurd rfl h1
    simp at hz
    cases c with
    | val y =>
      have hv := value_content_ok (vh := vh) hk h2
      simp [hz, hp, dEq_str, hne, conD, Con.D, hv]
    | meth ps r =>
      have hv := method_ok (vh := vh) hk h2
      have hw : wr = false := by
        cases wr with
        | false => rfl
        | true => obtain ⟨z, hz⟩ := h3 rfl; cases hz
      subst hw
      have ht := value_content_tup (ds := [.str (Str.ofString "method"), .tup (ps.map .str), .str r]) (vh := vh)
      unfold Con.D at hv
      simp [hz, hp, dEq_str, hne, conD, Con.D, hv, ht]
/-! ### sorted brands -/
theorem brands_ok {bs : List Str} {vh : VH} (hn : ∀ b ∈ bs, NameOk false b) (nd : bs.Nodup) (hl : bs.length ≤ 12) (hv : vh.all (okRef vh.length) = true) :
    mShut f_sorted_brands [.d (.lst (bs.map .str))] vh = .ok (.d (.tup ((sortBy id bs).map .str))) vh := by
  have loop : ∀ (l acc : List Str), (acc ++ l).Nodup → (acc ++ l).length ≤ 12 → (∀ b ∈ l, NameOk false b) →
      mFor (aName 2) (mFgt [2] (mSeq s_sorted_brands_b1a (mSeq s_sorted_brands_b1b s_sorted_brands_b1c))) (l.map .str) [some (.d (.lst (bs.map .str))), some (.ref vh.length), none] (vh ++ [.lst (acc.map .str)]) =
        .nx [some (.d (.lst (bs.map .str))), some (.ref vh.length), none] (vh ++ [.lst ((acc ++ l).map .str)]) := by
    intro l
    induction l with
    | nil => intro acc _ _ _; simp
    | cons b l ih =>
      intro acc h1 h2 h3
      have nm := member_name_ok (vh := vh ++ [.lst (acc.map .str)]) (h3 b List.mem_cons_self)
      have ni : b ∉ acc := fun q => by
        rw [List.nodup_append] at h1
        exact h1.2.2 _ q _ List.mem_cons_self rfl
      have hi := in_lstr b acc
      rw [decide_eq_false ni] at hi
      have hg : (vh ++ [VO.lst (acc.map .str)])[vh.length]? = some (VO.lst (acc.map .str)) := by simp
      have hsee := see_ref hg
      have ga : gAppend (acc.map .str) [.str b] = some (.non, acc.map .str ++ [.str b]) := if_pos (by rw [List.length_map]; simp at h2; exact Nat.lt_of_le_of_lt (show acc.length ≤ 12 by omega) (by decide))
      have hm := fun fa E => mutW_ref (g := gAppend) (fa := fa) (e := E) hg
      rw [List.map_cons, for_cons rfl]
      have step : mFgt [2] (mSeq s_sorted_brands_b1a (mSeq s_sorted_brands_b1b s_sorted_brands_b1c)) [some (.d (.lst (bs.map .str))), some (.ref vh.length), some (.d (.str b))] (vh ++ [.lst (acc.map .str)]) =
          .nx [some (.d (.lst (bs.map .str))), some (.ref vh.length), none] (vh ++ [.lst ((acc ++ [b]).map .str)]) := by
        unfold s_sorted_brands_b1a s_sorted_brands_b1b s_sorted_brands_b1c
        simp [nm, hsee, hi, hm, ga]
      simp only [List.set_cons_zero, List.set_cons_succ]
      rw [step, forR_nx, ih (acc ++ [b]) (by simpa using h1) (by simpa using h2) fun x hx => h3 x (List.mem_cons_of_mem _ hx)]
      simp
  have hg : (vh ++ [VO.lst (bs.map .str)])[vh.length]? = some (VO.lst (bs.map .str)) := by simp
  have hsee := see_ref hg
  have hs := sorted_strs (zs := bs) (by omega)
  have ht : cTuple [.lst ((sortBy id bs).map .str)] = some (.tup ((sortBy id bs).map .str)) := rfl
  have main : f_sorted_brands [.d (.lst (bs.map .str))] vh = .ok (.d (.tup ((sortBy id bs).map .str))) (vh ++ [.lst (bs.map .str)]) := by
    unfold f_sorted_brands
    rw [ev_fn (np := 1) (by rfl)]
    have e0 : entry 1 3 [W.d (.lst (bs.map .str))] = [some (.d (.lst (bs.map .str))), none, none] := rfl
    have l0 := loop bs [] (by simpa using nd) (by simpa using hl) hn
    rw [e0]
    unfold s_sorted_brands s_sorted_brands_a s_sorted_brands_b s_sorted_brands_c s_sorted_brands_d
    simp only [List.map_nil, List.nil_append] at l0
    simp [Mn.sizeOk, -ev_fgt, l0, hsee, hs, ht, show ¬ (12:Int) < bs.length by omega]
  unfold mShut
  rw [main]
  have tm : tame vh.length (vh ++ [VO.lst (bs.map .str)]) = true := by
    unfold tame
    rw [List.take_append_of_le_length (Nat.le_refl _), List.take_length]; exact hv
  simp [tm, froz]
/-! ### interfaces, typed -/
structure Ifc where
  nm : Str
  sealed : Bool
  brands : List Str
  mems : List Mem
def Ifc.D (x : Ifc) : D := .ins "Interface" [("name", .str x.nm), ("sealed", .bl x.sealed), ("brands", .tup (x.brands.map .str)), ("table", .dic false (prs Mem.nm Mem.D x.mems))]
structure Ifc.ok (ks : List Str) (x : Ifc) : Prop where
  nm : NameOk true x.nm
  bn : ∀ b ∈ x.brands, NameOk false b
  bd : x.brands.Nodup
  bl : x.brands.length ≤ 12
  mo : ∀ m ∈ x.mems, NameOk false m.nm ∧ m.over ks
  md : (x.mems.map Mem.nm).Nodup
  ml : x.mems.length ≤ 12
theorem mem_ix0 (m : Mem) : dIx m.D (.int 0) = some (.str m.nm) := rfl
theorem mem_ix1 (m : Mem) : dIx m.D (.int 1) = some (.str m.pr.s) := rfl
theorem mem_ix2 (m : Mem) : dIx m.D (.int 2) = some (conD m.con) := rfl
theorem mem_ix3 (m : Mem) : dIx m.D (.int 3) = some (.bl m.wr) := rfl
theorem mems_sorted {ms : List Mem} (nd : (ms.map Mem.nm).Nodup) : cSorted [.lst (ms.map Mem.D)] = some (.lst ((sortBy Mem.nm ms).map Mem.D)) := sorted_heads' (fun a => ⟨_, rfl⟩) nd
def Ifc.srt (x : Ifc) : Ifc := ⟨x.nm, x.sealed, sortBy id x.brands, sortBy Mem.nm x.mems⟩
theorem init_ok {ks : List Str} {x : Ifc} {vh : VH} (hk : Greats ks) (h : x.ok ks) (hv : vh.all (okRef vh.length) = true) :
    f_Interface_init [.ref vh.length, .d (.str x.nm), .d (.lst (x.mems.map Mem.D)), .d (.bl x.sealed), .d (.lst (x.brands.map .str))] (vh ++ [.ins "Interface" []]) =
      .ok (.d .non) (vh ++ [.ins "Interface" [("name", .d (.str x.nm)), ("sealed", .d (.bl x.sealed)), ("brands", .d (.tup ((sortBy id x.brands).map .str))), ("table", .d (.dic false (prs Mem.nm Mem.D (sortBy Mem.nm x.mems))))], .dic false (prs Mem.nm Mem.D x.mems)]) := by
  obtain ⟨nm, sl, bs, ms⟩ := x
  obtain ⟨o1, o2, o3, o4, o5, o6, o7⟩ := h
  simp only at o1 o2 o3 o4 o5 o6 o7 ⊢
  have loop : ∀ (l acc : List Mem) (i : Nat) (E : Mn.Env), E = [some (.ref vh.length), some (.d (.str nm)), some (.d (.lst (ms.map Mem.D))), some (.d (.bl sl)), some (.d (.lst (bs.map .str))), some (.ref (vh.length + 1)), none, none, none] → ((acc ++ l).map Mem.nm).Nodup → (acc ++ l).length ≤ 12 → (∀ m ∈ l, NameOk false m.nm ∧ m.over ks) →
      mFor (aTup 2 (aCons (aName 6) (aCons (aName 7) aNil))) (mFgt [6, 7] (mSeq s_Interface_init_c1a (mSeq s_Interface_init_c1b s_Interface_init_c1c))) (enumD i (l.map Mem.D)) E (vh ++ [.ins "Interface" [], .dic false (prs Mem.nm Mem.D acc)]) =
        .nx E (vh ++ [.ins "Interface" [], .dic false (prs Mem.nm Mem.D (acc ++ l))]) := by
    intro l
    induction l with
    | nil => intro acc i E hE _ _ _; subst hE; simp [enumD]
    | cons m l ih =>
      intro acc i E hE h1 h2 h3
      have mo := member_ok (vh := vh ++ [.ins "Interface" [], .dic false (prs Mem.nm Mem.D acc)]) hk (h3 m List.mem_cons_self).1 (h3 m List.mem_cons_self).2
      have ni : m.nm ∉ acc.map Mem.nm := fun q => by
        rw [List.map_append, List.nodup_append] at h1
        exact h1.2.2 _ q _ (by simp) rfl
      have hi := in_prs Mem.nm Mem.D m.nm acc
      rw [decide_eq_false ni] at hi
      have hg : (vh ++ [VO.ins "Interface" [], VO.dic false (prs Mem.nm Mem.D acc)])[vh.length + 1]? = some (VO.dic false (prs Mem.nm Mem.D acc)) := by simp
      have hsee : see (vh ++ [VO.ins "Interface" [], VO.dic false (prs Mem.nm Mem.D acc)]) (.ref (vh.length + 1)) = some (.dic false (prs Mem.nm Mem.D acc)) := by simp only [see, hg]
      have hst := fun E vh2 => storeD_prs (i := vh.length + 1) (e := E) (vh := vh2) (v := Mem.D) ni (by simp at h2; omega)
      have hset : ∀ vo : VO, List.set (vh ++ [VO.ins "Interface" [], VO.dic false (prs Mem.nm Mem.D acc)]) (vh.length + 1) vo = vh ++ [VO.ins "Interface" [], vo] := fun vo => by
        rw [List.set_append_right _ _ (by omega), show vh.length + 1 - vh.length = 1 by omega]; rfl
      have m0 := mem_ix0 m
      rw [List.map_cons, enumD, for_cons (e' := [some (.ref vh.length), some (.d (.str nm)), some (.d (.lst (ms.map Mem.D))), some (.d (.bl sl)), some (.d (.lst (bs.map .str))), some (.ref (vh.length + 1)), some (.d (.int (i : Nat))), some (.d m.D), none]) (by subst hE; rfl)]
      have step : mFgt [6, 7] (mSeq s_Interface_init_c1a (mSeq s_Interface_init_c1b s_Interface_init_c1c)) [some (.ref vh.length), some (.d (.str nm)), some (.d (.lst (ms.map Mem.D))), some (.d (.bl sl)), some (.d (.lst (bs.map .str))), some (.ref (vh.length + 1)), some (.d (.int (i : Nat))), some (.d m.D), none] (vh ++ [.ins "Interface" [], .dic false (prs Mem.nm Mem.D acc)]) =
          .nx E (vh ++ [.ins "Interface" [], .dic false (prs Mem.nm Mem.D (acc ++ [m]))]) := by
        subst hE
        unfold s_Interface_init_c1a s_Interface_init_c1b s_Interface_init_c1c
        simp -implicitDefEqProofs [mo, m0, hsee, hi, hg, hst, hset]
      rw [step, forR_nx, ih (acc ++ [m]) (i + 1) E hE (by simpa using h1) (by simpa using h2) fun x hx => h3 x (List.mem_cons_of_mem _ hx)]
      simp
  unfold f_Interface_init
  rw [ev_fn (np := 5) (by rfl)]
  have e0 : entry 5 9 [.ref vh.length, W.d (.str nm), .d (.lst (ms.map Mem.D)), .d (.bl sl), .d (.lst (bs.map .str))] = [some (.ref vh.length), some (.d (.str nm)), some (.d (.lst (ms.map Mem.D))), some (.d (.bl sl)), some (.d (.lst (bs.map .str))), none, none, none, none] := rfl
  rw [e0]
  obtain ⟨E, hE⟩ : ∃ E : Mn.Env, E = [some (.ref vh.length), some (.d (.str nm)), some (.d (.lst (ms.map Mem.D))), some (.d (.bl sl)), some (.d (.lst (bs.map .str))), some (.ref (vh.length + 1)), none, none, none] := ⟨_, rfl⟩
  have l0 := loop ms [] 0 E hE (by simpa using o6) (by simpa using o7) o5
  simp only [List.nil_append, prs_nil] at l0
  have inm := fun vh => interface_name_ok (vh := vh) o1
  obtain ⟨t, ht⟩ : ∃ t, t = prs Mem.nm Mem.D ms := ⟨_, rfl⟩
  have tl : t.length = ms.length := by rw [ht, prs_len]
  rw [← ht] at l0
  have hg : ∀ fs, (vh ++ [VO.ins "Interface" fs, VO.dic false t])[vh.length]? = some (VO.ins "Interface" fs) := fun fs => by simp
  have hg1 : ∀ fs, (vh ++ [VO.ins "Interface" fs, VO.dic false t])[vh.length + 1]? = some (VO.dic false t) := fun fs => by simp
  have hset : ∀ fs gs, List.set (vh ++ [VO.ins "Interface" fs, VO.dic false t]) vh.length (VO.ins "Interface" gs) = vh ++ [VO.ins "Interface" gs, VO.dic false t] := fun fs gs => by
    rw [List.set_append_right _ _ (by omega), Nat.sub_self]; rfl
  have hsee : ∀ fs, see (vh ++ [VO.ins "Interface" fs, VO.dic false t]) (.ref (vh.length + 1)) = some (.dic false t) := fun fs => by simp only [see, hg1]
  have sf : ∀ (f : Str) (w : W) (fs : List (Str × W)), fs.length < 1000 → sfR ["Interface"] f w (.ref vh.length) E (vh ++ [VO.ins "Interface" fs, VO.dic false t]) = .nx E (vh ++ [VO.ins "Interface" (putW f w fs), VO.dic false t]) := fun f w fs hl => by
    rw [sfR_ok (hg fs) (by simp) hl, hset]
  have p1 : ∀ a w : W, putW "sealed" w [("name", a)] = ([("name", a), ("sealed", w)] : List (Str × W)) := fun _ _ => rfl
  have p2 : ∀ a b w : W, putW "brands" w [("name", a), ("sealed", b)] = ([("name", a), ("sealed", b), ("brands", w)] : List (Str × W)) := fun _ _ _ => rfl
  have p3 : ∀ a b c w : W, putW "table" w [("name", a), ("sealed", b), ("brands", c)] = ([("name", a), ("sealed", b), ("brands", c), ("table", w)] : List (Str × W)) := fun _ _ _ _ => rfl
  have clen : cLen [.dic false t] = some (.int t.length) := rfl
  unfold s_Interface_init
  have sab : ∀ K : FS, seqR (s_Interface_init_a [some (.ref vh.length), some (W.d (.str nm)), some (.d (.lst (ms.map Mem.D))), some (.d (.bl sl)), some (.d (.lst (bs.map .str))), none, none, none, none] (vh ++ [.ins "Interface" []])) (mSeq s_Interface_init_b K) = K E (vh ++ [.ins "Interface" [], .dic false []]) := fun K => by
    unfold s_Interface_init_a s_Interface_init_b
    simp [inm, hE]
  have sc : s_Interface_init_c E (vh ++ [.ins "Interface" [], .dic false []]) = .nx E (vh ++ [.ins "Interface" [], .dic false t]) := by
    unfold s_Interface_init_c
    subst hE
    simp only [ev_forS, ev_enum, ev_var, List.getElem?_cons_zero, List.getElem?_cons_succ, getW_some, bnd_ok, enumI_lst, lft_ok]
    exact l0
  have sd : s_Interface_init_d E (vh ++ [.ins "Interface" [], .dic false t]) = .nx E (vh ++ [.ins "Interface" [], .dic false t]) := by
    unfold s_Interface_init_d
    rw [hE]
    simp [hsee, clen, tl, show ¬ (12:Int) < ms.length by omega]
  have se : s_Interface_init_e E (vh ++ [.ins "Interface" [], .dic false t]) = .nx E (vh ++ [.ins "Interface" [("name", .d (.str nm))], .dic false t]) := by
    have := sf "name" (.d (.str nm)) [] (by simp)
    unfold s_Interface_init_e
    rw [hE] at this ⊢
    simp [this, putW]
  have sf1 : s_Interface_init_f E (vh ++ [.ins "Interface" [("name", .d (.str nm))], .dic false t]) = .nx E (vh ++ [.ins "Interface" [("name", .d (.str nm)), ("sealed", .d (.bl sl))], .dic false t]) := by
    have := sf "sealed" (.d (.bl sl)) [("name", .d (.str nm))] (by simp)
    rw [p1] at this
    unfold s_Interface_init_f
    rw [hE] at this ⊢
    simp [this]
  have sg : s_Interface_init_g E (vh ++ [.ins "Interface" [("name", .d (.str nm)), ("sealed", .d (.bl sl))], .dic false t]) = .nx E (vh ++ [.ins "Interface" [("name", .d (.str nm)), ("sealed", .d (.bl sl)), ("brands", .d (.tup ((sortBy id bs).map .str)))], .dic false t]) := by
    have := sf "brands" (.d (.tup ((sortBy id bs).map .str))) [("name", .d (.str nm)), ("sealed", .d (.bl sl))] (by simp)
    have hb := brands_ok (vh := vh ++ [.ins "Interface" [("name", .d (.str nm)), ("sealed", .d (.bl sl))], .dic false t]) o2 o3 o4 (by
      rw [List.all_append, Bool.and_eq_true]
      refine ⟨?_, by simp [okRef]⟩
      rw [List.all_eq_true] at hv ⊢
      intro vo hvo
      have h1 := hv vo hvo
      cases vo with
      | ins n fs =>
        simp only [okRef, List.all_eq_true] at h1 ⊢
        intro f hf
        have := h1 f hf
        split at this
        · rename_i k _
          simp at this ⊢
          omega
        · rfl
      | _ => rfl)
    unfold s_Interface_init_g
    rw [p2, hE] at this
    rw [hE]
    simp [hb, this]
  have sh : s_Interface_init_h E (vh ++ [.ins "Interface" [("name", .d (.str nm)), ("sealed", .d (.bl sl)), ("brands", .d (.tup ((sortBy id bs).map .str)))], .dic false t]) = .nx E (vh ++ [.ins "Interface" [("name", .d (.str nm)), ("sealed", .d (.bl sl)), ("brands", .d (.tup ((sortBy id bs).map .str))), ("table", .d (.dic false (prs Mem.nm Mem.D (sortBy Mem.nm ms))))], .dic false t]) := by
    have := sf "table" (.d (.dic false (prs Mem.nm Mem.D (sortBy Mem.nm ms)))) [("name", .d (.str nm)), ("sealed", .d (.bl sl)), ("brands", .d (.tup ((sortBy id bs).map .str)))] (by simp)
    have hs := sorted_keys (v := Mem.D) (k := Mem.nm) (l := ms) (by omega) fun a ha => nameOk_str (o5 a ha).1
    rw [sortBy_keys, ← ht, List.map_map] at hs
    have hw : wipeE E [8] = E := by rw [hE]; rfl
    have hc := dc_map (A := aName 8) (t := fun _ vh => .ok true vh) (fk := mVar 8) (fv := c_Interface_init_1) (e := E) (vh := vh ++ [.ins "Interface" [("name", .d (.str nm)), ("sealed", .d (.bl sl)), ("brands", .d (.tup ((sortBy id bs).map .str)))], .dic false t]) Mem.nm Mem.D (fun m => .str m.nm) (l := sortBy Mem.nm ms) (acc := []) (fun m hm => by
      have hx := ix_prs (v := Mem.D) o6 (sortBy_mem.mp hm)
      rw [← ht] at hx
      refine ⟨E.set 8 (some (.d (.str m.nm))), rfl, rfl, by rw [hE]; simp, ?_⟩
      unfold c_Interface_init_1
      rw [hE]
      simp [hsee, hx]) (by simpa using sortBy_nodup o6) (by simp [sortBy_len]; omega)
    simp only [List.nil_append, prs_nil] at hc
    have hsq : ∀ (f : FE) (vh0 : VH), mSeqI f E vh0 = bnd (f E vh0) seqI := fun _ _ => rfl
    unfold s_Interface_init_h
    have hbl : mBlt cSorted (mCons (mVar 5) mNil) E (vh ++ [.ins "Interface" [("name", .d (.str nm)), ("sealed", .d (.bl sl)), ("brands", .d (.tup ((sortBy id bs).map .str)))], .dic false t]) = .ok (.d (.lst ((sortBy Mem.nm ms).map fun m => .str m.nm))) (vh ++ [.ins "Interface" [("name", .d (.str nm)), ("sealed", .d (.bl sl)), ("brands", .d (.tup ((sortBy id bs).map .str)))], .dic false t]) := by
      rw [hE]
      simp [hsee, hs]
    have hv0 : mVar 0 E (vh ++ [.ins "Interface" [("name", .d (.str nm)), ("sealed", .d (.bl sl)), ("brands", .d (.tup ((sortBy id bs).map .str)))], .dic false t]) = .ok (.ref vh.length) (vh ++ [.ins "Interface" [("name", .d (.str nm)), ("sealed", .d (.bl sl)), ("brands", .d (.tup ((sortBy id bs).map .str)))], .dic false t]) := by rw [hE]; rfl
    simp only [ev_setFld, ev_dc, ev_seqI, hbl, bnd_ok, seqI_lst, hw, hc, dcR_f, lft_ok, hv0, this, p3]
  rw [ev_seq, sab, ev_seq, sc, seqR_nx, ev_seq, sd, seqR_nx, ev_seq, se, seqR_nx, ev_seq, sf1, seqR_nx, ev_seq, sg, seqR_nx, sh, endFn_nx, ht]
theorem okRef_ins {n : Nat} {vo : VO} {vh : VH} (h : vh.all (okRef n) = true) (h2 : okRef n vo = true) : (vh ++ [vo]).all (okRef n) = true := by
  rw [List.all_append, h]; simp [h2]
theorem made_ok {ks : List Str} {x : Ifc} {vh : VH} (hk : Greats ks) (h : x.ok ks) (hv : vh.all (okRef vh.length) = true) :
    madeR true vh.length (f_Interface_init [.ref vh.length, .d (.str x.nm), .d (.lst (x.mems.map Mem.D)), .d (.bl x.sealed), .d (.lst (x.brands.map .str))] (vh ++ [.ins "Interface" []])) = .ok (.d x.srt.D) vh := by
  rw [init_ok hk h hv]
  have tm : tame vh.length (vh ++ [VO.ins "Interface" [("name", .d (.str x.nm)), ("sealed", .d (.bl x.sealed)), ("brands", .d (.tup ((sortBy id x.brands).map .str))), ("table", .d (.dic false (prs Mem.nm Mem.D (sortBy Mem.nm x.mems))))], .dic false (prs Mem.nm Mem.D x.mems)]) = true := by
    unfold tame
    rw [List.take_append_of_le_length (Nat.le_refl _), List.take_length]; exact hv
  simp [madeR, frzF, frzW, isTame, tm, Ifc.srt, Ifc.D]
def Ifc.row (x : Ifc) : Mn.D := .tup [.str x.nm, .lst (x.mems.map Mem.D), .bl x.sealed, .tup (x.brands.map .str)]
theorem interface_ok {ks : List Str} {x : Ifc} {vh : VH} (hk : Greats ks) (h : x.ok ks) (hv : vh.all (okRef vh.length) = true) :
    f_law_interface [.d x.row] vh = .ok (.d x.srt.D) vh := by
  unfold f_law_interface
  rw [ev_fn (np := 1) (by rfl)]
  have e0 : entry 1 1 [W.d x.row] = [some (.d x.row)] := rfl
  rw [e0]
  have i0 : dIx x.row (.int 0) = some (.str x.nm) := rfl
  have i1 : dIx x.row (.int 1) = some (.lst (x.mems.map Mem.D)) := rfl
  have i2 : dIx x.row (.int 2) = some (.bl x.sealed) := rfl
  have i3 : dIx x.row (.int 3) = some (.tup (x.brands.map .str)) := rfl
  have l1 : cList [.lst (x.mems.map Mem.D)] = some (.lst (x.mems.map Mem.D)) := rfl
  have l2 : cList [.tup (x.brands.map .str)] = some (.lst (x.brands.map .str)) := rfl
  have m := made_ok hk h hv
  unfold s_law_interface s_law_interface_a
  simp [i0, i1, i2, i3, l1, l2, m]
theorem members_ok {x : Ifc} {vh : VH} (h : x.mems.length ≤ 12) : byPos 1 f_Interface_members [.d x.D] [] vh = .ok (.d (.lst (x.mems.map Mem.D))) vh := by
  rw [byPos_1]
  unfold f_Interface_members
  rw [ev_fn (np := 1) (by rfl)]
  have e0 : entry 1 1 [W.d x.D] = [some (.d x.D)] := rfl
  rw [e0]
  have hf : fldW vh ["Interface"] "table" (.d x.D) = some (.d (.dic false (prs Mem.nm Mem.D x.mems))) := rfl
  have hc : cVals1 (.dic false (prs Mem.nm Mem.D x.mems)) = some (.lst (x.mems.map Mem.D)) := by
    unfold cVals1
    simp only
    rw [if_pos (by rw [prs_len]; exact Nat.le_trans h (by decide)), prs_snd]
  unfold s_Interface_members s_Interface_members_a
  simp [hf, hc]
/-! ### mixed, some -/
theorem mixed_ok {rest : VH} {B : Bag} {zs : List Str} (hB : B.ok) (hl : zs.length ≤ 1000) (hr : rest.all (okRef (rest.length + 1)) = true) :
    ∃ (ys : List Str) (B' : Bag), mShut f_law_mixed [.ref 0, .d (.lst (zs.map .str))] (B.vo :: rest) = .ok (.d (.lst (ys.map .str))) (B'.vo :: rest) ∧ ys.Perm zs ∧ B'.ok := by
  have loop := for_vh (S := Bag × List Str) (A := aName 3) (s := mFgt [3] s_law_mixed_b1a) (e := [some (.ref 0), some (.d (.lst (zs.map .str))), some (.ref (rest.length + 1)), none]) (fun x => x.1.vo :: (rest ++ [.lst (x.2.map .str)])) (fun i x => x.1.ok ∧ x.2.Perm (zs.take i)) (ds := zs.map .str) (x := (B, [])) (fun i d ⟨B, ys⟩ hd ⟨h1, h2⟩ => by
    rw [List.getElem?_map, Option.map_eq_some_iff] at hd
    obtain ⟨z, hz, rfl⟩ := hd
    have yl : ys.length ≤ i := by rw [h2.length_eq]; simp; omega
    have il : i < zs.length := by
      rcases Nat.lt_or_ge i zs.length with h | h
      · exact h
      · rw [List.getElem?_eq_none h] at hz; cases hz
    obtain ⟨p, B1, g1, g2, g3, g4⟩ := draw_ok (rest := rest ++ [.lst (ys.map .str)]) (n := (ys.length : Int) + 1) h1 (by omega) (by omega)
    refine ⟨_, (B1, ys.take p.toNat ++ [z] ++ ys.drop p.toNat), rfl, ?_, g4, ?_⟩
    · have hi : gInsert (ys.map .str) [.int p, .str z] = some (.non, (ys.take p.toNat ++ [z] ++ ys.drop p.toNat).map .str) := by
        unfold gInsert
        simp only
        rw [if_pos ⟨by rw [List.length_map]; exact Nat.lt_of_le_of_lt (show ys.length ≤ 1000 by omega) (by decide), g2, by omega⟩]
        simp [List.map_take, List.map_drop]
      have hg : ∀ B : Bag, (B.vo :: (rest ++ [VO.lst (ys.map .str)]))[rest.length + 1]? = some (VO.lst (ys.map .str)) := fun B => by simp
      have hm := fun fa E B => mutW_ref (g := gInsert) (fa := fa) (e := E) (hg B)
      have hs := fun B => see_ref (hg B)
      have hset : ∀ (B : Bag) (vo : VO), List.set (B.vo :: (rest ++ [VO.lst (ys.map .str)])) (rest.length + 1) vo = B.vo :: (rest ++ [vo]) := fun B vo => by
        rw [List.set_cons_succ, List.set_append_right _ _ (Nat.le_refl _), Nat.sub_self]; rfl
      unfold s_law_mixed_b1a
      simp -implicitDefEqProofs only [ev_fgt, ev_do, ev_mut, ev_var, ev_callC, ev_cons, ev_nil, List.set_cons_zero, List.set_cons_succ, List.getElem?_cons_zero, List.getElem?_cons_succ, getW_some, bnd_ok, hm, hs, ev_op, ev_blt, sees_cons, sees_nil, Option.bind_some, Option.map_some, opt_some, cLen_lst, List.length_map, Mn.add_int, see_d, ev_c, byPos_2, g1, mutR_lst, datas_cons, datas_nil, hi, hg, lft_ok, fgtR_nx, wipeE_cons, wipeE_nil, hset]
    · have e1 : zs.take (i + 1) = zs.take i ++ [z] := by rw [List.take_succ, hz]; rfl
      rw [e1]
      refine List.Perm.trans ?_ (List.Perm.append_right [z] h2)
      rw [List.append_assoc]
      refine (List.perm_append_comm.trans ?_).trans List.perm_append_comm
      show ([z] ++ ys.drop p.toNat ++ ys.take p.toNat).Perm ([z] ++ ys)
      rw [List.append_assoc]
      refine List.Perm.append_left _ ?_
      refine List.perm_append_comm.trans ?_
      rw [List.take_append_drop]) ⟨hB, .nil⟩
  obtain ⟨⟨B', ys⟩, l1, l2, l3⟩ := loop
  rw [List.length_map, List.take_length] at l3
  refine ⟨ys, B', ?_, l3, l2⟩
  have main : f_law_mixed [.ref 0, .d (.lst (zs.map .str))] (B.vo :: rest) = .ok (.ref (rest.length + 1)) (B'.vo :: (rest ++ [.lst (ys.map .str)])) := by
    unfold f_law_mixed
    rw [ev_fn (np := 2) (by rfl)]
    have e0 : entry 2 4 [W.ref 0, .d (.lst (zs.map .str))] = [some (.ref 0), some (.d (.lst (zs.map .str))), none, none] := rfl
    have sz : Mn.sizeOk 0 = id := by funext r; exact if_pos (Nat.zero_le _)
    rw [e0]
    simp only [List.map_nil] at l1
    unfold s_law_mixed s_law_mixed_a s_law_mixed_b s_law_mixed_c
    simp -implicitDefEqProofs only [ev_seq, ev_set, ev_lstM, ev_nil, bnd_ok, datas_nil, opt_some, List.length_nil, sz, id, lft_ok, List.set_cons_zero, List.set_cons_succ, seqR_nx, ev_forS, ev_seqI, ev_var, List.getElem?_cons_zero, List.getElem?_cons_succ, getW_some, seqI_lst, List.length_cons, List.cons_append, l1, ev_ret, endFn_rt]
  unfold mShut
  rw [main]
  have tm : tame (rest.length + 1) (B'.vo :: (rest ++ [VO.lst (ys.map .str)])) = true := by
    unfold tame
    rw [List.take_succ_cons, List.take_append_of_le_length (Nat.le_refl _), List.take_length, List.all_cons, hr]; rfl
  simp [tm, froz]
theorem some_ok {rest : VH} {B : Bag} {zs : List Str} (hB : B.ok) (hl : zs.length ≤ 1000) (hr : rest.all (okRef (rest.length + 1)) = true) :
    ∃ (ys us : List Str) (B' : Bag), f_law_some [.ref 0, .d (.lst (zs.map .str))] (B.vo :: rest) = .ok (.d (.lst (ys.map .str))) (B'.vo :: rest) ∧ us.Perm zs ∧ ys.Sublist us ∧ B'.ok := by
  obtain ⟨us, B1, h1, h2, h3⟩ := mixed_ok (rest := rest) hB hl hr
  have comp : ∀ (l : List Str) (B : Bag), B.ok → ∃ (ys : List Str) (B' : Bag), mComp (aName 2) t_law_some_1 (mVar 2) [some (.ref 0), some (.d (.lst (zs.map .str))), none] (l.map .str) (B.vo :: rest) = .ok (ys.map .str) (B'.vo :: rest) ∧ ys.Sublist l ∧ B'.ok := by
    intro l
    induction l with
    | nil => intro B hB; exact ⟨[], B, rfl, .slnil, hB⟩
    | cons z l ih =>
      intro B hB
      obtain ⟨q, B1, a1, a2, a3⟩ := drawN (rest := rest) (n := 2) hB (by decide) (by decide)
      have a1' : f_law_draw [W.ref 0, W.d (D.int 2)] (B.vo :: rest) = Res.ok (W.d (D.int ↑q)) (B1.vo :: rest) := a1
      obtain ⟨ys, B2, b1, b2, b3⟩ := ih B1 a3
      have ht : t_law_some_1 [some (.ref 0), some (.d (.lst (zs.map .str))), some (.d (.str z))] (B.vo :: rest) = .ok (decide (q = 0)) (B1.vo :: rest) := by
        unfold t_law_some_1
        simp [a1', dEq_int, show ((q : Int) = 0 ↔ q = 0) by omega]
      by_cases hq : q = 0
      · rw [decide_eq_true hq] at ht
        refine ⟨z :: ys, B2, ?_, b2.cons_cons _, b3⟩
        rw [List.map_cons, lc_cons (x := .str z) (vh1 := B1.vo :: rest) (vh2 := B1.vo :: rest) rfl ht rfl, b1]
        rfl
      · rw [decide_eq_false hq] at ht
        refine ⟨ys, B2, ?_, b2.cons _, b3⟩
        rw [List.map_cons, lc_skip (vh1 := B1.vo :: rest) rfl ht, b1]
  obtain ⟨ys, B2, c1, c2, c3⟩ := comp us B1 h3
  refine ⟨ys, us, B2, ?_, h2, c2, c3⟩
  unfold f_law_some
  rw [ev_fn (np := 2) (by rfl)]
  have e0 : entry 2 3 [W.ref 0, .d (.lst (zs.map .str))] = [some (.ref 0), some (.d (.lst (zs.map .str))), none] := rfl
  have hlc := lcR_false (xs := ys.map D.str) (vh := B2.vo :: rest) (by
    have := c2.length_le
    have := h2.length_eq
    simp; omega)
  rw [e0]
  unfold s_law_some s_law_some_a
  simp [h1, c1, hlc]
/-- what some gives: no two alike, all of the given -/
theorem some_use {ys us zs : List Str} (h1 : us.Perm zs) (h2 : ys.Sublist us) : (zs.Nodup → ys.Nodup) ∧ (∀ y ∈ ys, y ∈ zs) ∧ ys.length ≤ zs.length :=
  ⟨fun n => h2.nodup (h1.nodup_iff.mpr n), fun y hy => h1.mem_iff.mp (h2.mem hy), by rw [← h1.length_eq]; exact h2.length_le⟩
/-! ### k25 -/
def Pres.isOpt : Pres → Bool
  | .opt => true
  | _ => false
theorem pres_opt (p : Pres) : (p.s == Str.ofString "optional") = p.isOpt := by cases p <;> decide +kernel
theorem asBools_map {α : Type} (f : α → Bool) : ∀ l : List α, asBools (l.map fun a => D.bl (f a)) = some (l.map f)
  | [] => rfl
  | a :: l => by simp only [List.map_cons, asBools, asBools_map f l]; rfl
theorem is_class_ok {x : Ifc} {vh : VH} (h : x.mems.length ≤ 12) : f_is_class [.d x.D] vh = .ok (.d (.bl (x.sealed && x.mems.all fun m => !m.pr.isOpt))) vh := by
  unfold f_is_class
  rw [ev_fn (np := 1) (by rfl)]
  have e0 : entry 1 2 [W.d x.D] = [some (.d x.D), none] := rfl
  have hs : fldW vh ["Interface"] "sealed" (.d x.D) = some (.d (.bl x.sealed)) := rfl
  have hm := members_ok (vh := vh) h
  have hi : insW vh (.d x.D) = some (Str.ofString "Interface", ([Str.ofString "name", "sealed", "brands", "table"] : List Str)) := rfl
  have hc := lc_map (A := aName 1) (ft := fun _ vh => .ok true vh) (f := c_is_class_1) (e := [some (.d x.D), none]) (vh := vh) (ds := x.mems.map Mem.D) (k := fun d => match dIx d (.int 1) with
    | some (.str z) => .bl (!(z == Str.ofString "optional"))
    | _ => .non) fun d hd => by
      obtain ⟨m, hm, rfl⟩ := List.mem_map.mp hd
      have := mem_ix1 m
      exact ⟨_, rfl, rfl, by simp [c_is_class_1, this, dNe_str]⟩
  have e1 : ((x.mems.map Mem.D).map fun d => match dIx d (.int 1) with
    | some (.str z) => D.bl (!(z == Str.ofString "optional"))
    | _ => .non) = x.mems.map fun m => D.bl (!m.pr.isOpt) := by
    rw [List.map_map]
    refine List.map_congr_left fun m _ => ?_
    simp only [Function.comp, mem_ix1, pres_opt]
  rw [e1] at hc
  have hlc := lcR_false (xs := x.mems.map fun m => D.bl (!m.pr.isOpt)) (vh := vh) (by simp; omega)
  have ha : cAll [.lst (x.mems.map fun m => D.bl (!m.pr.isOpt))] = some (.bl (x.mems.all fun m => !m.pr.isOpt)) := by
    simp [cAll, asBools_map, List.all_map, Function.comp_def]
  have lk : [(Str.ofString "Interface", byPos 1 f_Interface_members)].lookup (Str.ofString "Interface") = some (byPos 1 f_Interface_members) := rfl
  have ni : ∀ r : Res W, notIn "members" ([Str.ofString "name", "sealed", "brands", "table"] : List Str) r = r := fun r => if_neg (by decide +kernel)
  rw [byPos_1] at hm
  rw [e0]
  unfold s_is_class s_is_class_a
  cases hx : x.sealed with
  | false => rw [hx] at hs; simp -implicitDefEqProofs [hs]
  | true =>
    rw [hx] at hs
    simp -implicitDefEqProofs only [ev_ret, ev_and, ev_fld, ev_var, List.getElem?_cons_zero, List.getElem?_cons_succ, getW_some, bnd_ok, hs, opt_some, ev_isB, if_true, ev_blt, ev_cons, ev_nil, ev_lc, ev_seqI, ev_meth, hi, lk, ni, hm, seqI_lst, wipeE_cons, wipeE_nil, List.set_cons_zero, List.set_cons_succ, hc, hlc, sees_cons, sees_nil, see_d, Option.bind_some, Option.map_some, ha, lft_ok, endFn_rt, Bool.true_and, byPos_1]
theorem same_bl {b : Bool} {vh : VH} : f_law_same [.d (.bl b), .d (.bl b)] vh = .ok (.d (.bl true)) vh := by
  unfold f_law_same
  rw [ev_fn (np := 2) (by rfl)]
  have e0 : entry 2 2 [W.d (.bl b), .d (.bl b)] = [some (.d (.bl b)), some (.d (.bl b))] := rfl
  have hr : cRepA [.bl b] = some (.str (PyData.bool b).shown) := by
    simp only [cRepA, toPy]
    exact if_pos (by cases b <;> decide +kernel)
  rw [e0]
  unfold s_law_same s_law_same_a
  simp [hr, dEq_str]
theorem bag_ok {ns : List Int} (h : ns.length ≤ 63) : ∃ B : Bag, f_law_bag [.d (.frz (ns.map D.int))] [] = .ok (.ref 0) [B.vo] ∧ B.ok := by
  refine ⟨⟨ns, 0, 0, 60289, 0⟩, ?_, by simp only; omega, by simp only; omega, by simp only; omega, h⟩
  unfold f_law_bag
  rw [ev_fn (np := 1) (by rfl)]
  have e0 : entry 1 1 [W.d (.frz (ns.map D.int))] = [some (.d (.frz (ns.map D.int)))] := rfl
  rw [e0]
  unfold s_law_bag s_law_bag_a
  have hs : dSl (.frz (ns.map D.int)) none (some 63) = some (.lst (ns.map D.int)) := by
    have h1 : HT.sIx (ns.map D.int).length 0 none = 0 := rfl
    have h2 : HT.sIx (ns.map D.int).length (ns.map D.int).length (some 63) = ns.length := by simp [HT.sIx]; omega
    simp only [dSl, Mn.cutD, h1, h2, List.drop_zero]
    rw [Nat.sub_zero, List.take_of_length_le (by simp)]
  simp [hs, Mn.sizeOk, sizeLine, cList, asSeq, Bag.vo]
abbrev envL (nsD : W) (ks zs : List Str) (x4 x5 x6 x7 x8 x9 : Option W) : Mn.Env := [some nsD, some (.ref 0), some (.d (.lst (ks.map .str))), some (.d (.lst (zs.map .str))), x4, x5, x6, x7, x8, x9]
theorem mems_drawn {w : W} {ks zs : List Str} {x4 x5 x6 x7 x8 x9 : Option W} (hk : ks.length ≤ 1000) : ∀ (l : List Str) (B : Bag), B.ok → ∃ (ms : List Mem) (B' : Bag), mComp (aName 8) t_law_1 c_law_2 (envL w ks zs x4 x5 x6 x7 x8 x9) (l.map .str) [B.vo] = .ok (ms.map Mem.D) [B'.vo] ∧ (ms.map Mem.nm).Sublist l ∧ (∀ m ∈ ms, m.over ks) ∧ B'.ok
  | [], B, hB => ⟨[], B, rfl, .slnil, (fun _ h => nomatch h), hB⟩
  | z :: l, B, hB => by
    obtain ⟨q, B1, a1, a2, a3⟩ := drawN (rest := []) (n := 3) hB (by decide) (by decide)
    have a1' : f_law_draw [W.ref 0, W.d (D.int 3)] [B.vo] = Res.ok (W.d (D.int ↑q)) [B1.vo] := a1
    have ht : t_law_1 (envL w ks zs x4 x5 x6 x7 (some (.d (.str z))) x9) [B.vo] = .ok (decide (q = 0)) [B1.vo] := by
      unfold t_law_1
      simp [a1', dEq_int, show ((q : Int) = 0 ↔ q = 0) by omega]
    by_cases hq : q = 0
    · obtain ⟨m, B2, b1, b2, b3, b4⟩ := mem_ok (rest := []) (ks := ks) (z := z) a3 hk
      obtain ⟨ms, B3, c1, c2, c3, c4⟩ := mems_drawn (w := w) (zs := zs) (x4 := x4) (x5 := x5) (x6 := x6) (x7 := x7) (x8 := x8) (x9 := x9) hk l B2 b4
      rw [decide_eq_true hq] at ht
      refine ⟨m :: ms, B3, ?_, by rw [List.map_cons, b2]; exact c2.cons_cons _, fun y hy => ?_, c4⟩
      · have h2 : c_law_2 (envL w ks zs x4 x5 x6 x7 (some (.d (.str z))) x9) [B1.vo] = .ok (.d m.D) [B2.vo] := by
          unfold c_law_2
          simp [b1]
        rw [List.map_cons, lc_cons (e' := envL w ks zs x4 x5 x6 x7 (some (.d (.str z))) x9) rfl ht h2, c1]
        rfl
      · rcases List.mem_cons.mp hy with rfl | hy
        · exact b3
        · exact c3 y hy
    · obtain ⟨ms, B3, c1, c2, c3, c4⟩ := mems_drawn (w := w) (zs := zs) (x4 := x4) (x5 := x5) (x6 := x6) (x7 := x7) (x8 := x8) (x9 := x9) hk l B1 a3
      rw [decide_eq_false hq] at ht
      exact ⟨ms, B3, by rw [List.map_cons, lc_skip (e' := envL w ks zs x4 x5 x6 x7 (some (.d (.str z))) x9) rfl ht, c1], c2.cons _, c3, c4⟩
theorem round {w : W} {ks zs : List Str} {B : Bag} {i : D} (hk : Greats ks) (k3 : ks.length = 3) (hz : ∀ z ∈ zs, NameOk false z) (z6 : zs.length = 6) (zd : zs.Nodup) (hB : B.ok) :
    ∃ B' : Bag, mFgt [4, 5, 6, 7] (mSeq s_law_c1a (mSeq s_law_c1b (mSeq s_law_c1c s_law_c1d))) (envL w ks zs (some (.d i)) none none none none none) [B.vo] = .nx (envL w ks zs none none none none none none) [B'.vo] ∧ B'.ok := by
  obtain ⟨ms, B1, a1, a2, a3, a4⟩ := mems_drawn (w := w) (ks := ks) (zs := zs) (x4 := some (.d i)) (x5 := none) (x6 := none) (x7 := none) (x8 := none) (x9 := none) (by omega) zs B hB
  have md : (ms.map Mem.nm).Nodup := a2.nodup zd
  have ml : ms.length ≤ 6 := by have := a2.length_le; simp at this; omega
  obtain ⟨q, B2, b1, b2, b3⟩ := drawN (rest := []) (n := 3) a4 (by decide) (by decide)
  have b1' : f_law_draw [W.ref 0, W.d (D.int 3)] [B1.vo] = Res.ok (W.d (D.int ↑q)) [B2.vo] := b1
  obtain ⟨ys, us, B3, c1, c2, c3, c4⟩ := some_ok (rest := []) (zs := zs) b3 (by omega) rfl
  obtain ⟨u1, u2, u3⟩ := some_use c2 c3
  refine ⟨B3, ?_, c4⟩
  obtain ⟨k0, kr, rfl⟩ : ∃ k0 kr, ks = k0 :: kr := by
    cases ks with
    | nil => cases k3
    | cons a l => exact ⟨a, l, rfl⟩
  have yn := u1 zd
  let x : Ifc := ⟨k0, decide (0 < (q : Int)), sortBy id ys, sortBy Mem.nm ms⟩
  have xok : x.ok (k0 :: kr) := ⟨hk _ List.mem_cons_self, fun b hb => hz b (u2 b (sortBy_mem.mp hb)), (sortBy_perm id ys).nodup_iff.mpr yn, by show (sortBy id ys).length ≤ 12; rw [sortBy_len]; omega, fun m hm => ⟨hz _ (a2.mem (List.mem_map_of_mem (sortBy_mem.mp hm))), a3 m (sortBy_mem.mp hm)⟩, sortBy_nodup md, by show (sortBy Mem.nm ms).length ≤ 12; rw [sortBy_len]; omega⟩
  have hx := interface_ok (vh := [B3.vo]) hk xok rfl
  have hcl := is_class_ok (x := x.srt) (vh := [B3.vo]) (by show (sortBy Mem.nm (sortBy Mem.nm ms)).length ≤ 12; rw [sortBy_len, sortBy_len]; omega)
  have hall : (x.srt.mems.all fun m => !m.pr.isOpt) = ms.all fun m => !m.pr.isOpt := by
    have p : x.srt.mems.Perm ms := (sortBy_perm _ _).trans (sortBy_perm _ _)
    rw [Bool.eq_iff_iff, List.all_eq_true, List.all_eq_true]
    exact ⟨fun h m hm => h m (p.mem_iff.mpr hm), fun h m hm => h m (p.mem_iff.mp hm)⟩
  rw [hall] at hcl
  have hms := mems_sorted md
  have hbs := sorted_strs (zs := ys) (by omega)
  have hk0 : dIx (.lst ((k0 :: kr).map .str)) (.int 0) = some (.str k0) := by
    rw [dIx_lst, atI_of (by decide) (by simp)]; rfl
  have htp : cTuple [.lst ((sortBy id ys).map .str)] = some (.tup ((sortBy id ys).map .str)) := rfl
  have hsz : ∀ r : Res W, Mn.sizeOk 4 r = r := fun r => sizeOk_ok (by decide)
  have hlc := lcR_false (xs := ms.map Mem.D) (vh := [B1.vo]) (by simp; omega)
  have sa : s_law_c1a (envL w (k0 :: kr) zs (some (.d i)) none none none none none) [B.vo] = .nx (envL w (k0 :: kr) zs (some (.d i)) (some (.d (.lst (ms.map Mem.D)))) none none none none) [B1.vo] := by
    unfold s_law_c1a
    simp -implicitDefEqProofs only [ev_set, ev_lc, ev_seqI, ev_var, List.getElem?_cons_zero, List.getElem?_cons_succ, getW_some, bnd_ok, seqI_lst, wipeE_cons, wipeE_nil, List.set_cons_zero, List.set_cons_succ, a1, hlc, lft_ok]
  have sb : s_law_c1b (envL w (k0 :: kr) zs (some (.d i)) (some (.d (.lst (ms.map Mem.D)))) none none none none) [B1.vo] = .nx (envL w (k0 :: kr) zs (some (.d i)) (some (.d (.lst (ms.map Mem.D)))) (some (.d x.row)) none none none) [B3.vo] := by
    unfold s_law_c1b
    simp -implicitDefEqProofs only [ev_set, ev_tup, ev_cons, ev_nil, ev_op, ev_c, ev_blt, ev_callC, ev_var, List.getElem?_cons_zero, List.getElem?_cons_succ, getW_some, bnd_ok, see_d, opt_some, hk0, sees_cons, sees_nil, Option.bind_some, Option.map_some, hms, byPos_2, b1', Mn.gt_int, c1, hbs, htp, datas_cons, datas_nil, List.length_cons, List.length_nil, hsz, List.set_cons_zero, List.set_cons_succ, lft_ok]
    rfl
  have r1 : ∀ (x : Ifc), dIx x.row (.int 2) = some (.bl x.sealed) := fun _ => rfl
  have hc3 := lc_map (A := aName 9) (ft := fun _ vh => .ok true vh) (f := c_law_3) (e := envL w (k0 :: kr) zs (some (.d i)) (some (.d (.lst (ms.map Mem.D)))) (some (.d x.row)) none none none) (vh := [B3.vo]) (ds := ms.map Mem.D) (k := fun d => match dIx d (.int 1) with
    | some (.str z) => .bl (z == Str.ofString "optional")
    | _ => .non) fun d hd => by
      obtain ⟨m, hm, rfl⟩ := List.mem_map.mp hd
      have := mem_ix1 m
      exact ⟨_, rfl, rfl, by simp [c_law_3, this, dEq_str]⟩
  have e1 : ((ms.map Mem.D).map fun d => match dIx d (.int 1) with
    | some (.str z) => D.bl (z == Str.ofString "optional")
    | _ => .non) = ms.map fun m => D.bl (m.pr.isOpt) := by
    rw [List.map_map]
    refine List.map_congr_left fun m _ => ?_
    simp only [Function.comp, mem_ix1, pres_opt]
  rw [e1] at hc3
  have hlc3 := lcR_false (xs := ms.map fun m => D.bl (m.pr.isOpt)) (vh := [B3.vo]) (by simp; omega)
  have ha : cAny [.lst (ms.map fun m => D.bl (m.pr.isOpt))] = some (.bl (ms.any fun m => m.pr.isOpt)) := by
    simp [cAny, asBools_map, List.any_map, Function.comp_def]
  have sc : s_law_c1c (envL w (k0 :: kr) zs (some (.d i)) (some (.d (.lst (ms.map Mem.D)))) (some (.d x.row)) none none none) [B3.vo] = .nx (envL w (k0 :: kr) zs (some (.d i)) (some (.d (.lst (ms.map Mem.D)))) (some (.d x.row)) (some (.d (.bl (x.sealed && !(ms.any fun m => m.pr.isOpt))))) none none) [B3.vo] := by
    have r1 := r1 x
    unfold s_law_c1c
    cases hs : x.sealed with
    | false =>
      rw [hs] at r1
      simp -implicitDefEqProofs only [ev_set, ev_and, ev_op, ev_c, ev_var, List.getElem?_cons_zero, List.getElem?_cons_succ, getW_some, bnd_ok, see_d, opt_some, r1, ev_isB, Bool.false_eq_true, if_false, lft_ok, List.set_cons_zero, List.set_cons_succ, Bool.false_and]
    | true =>
      rw [hs] at r1
      simp -implicitDefEqProofs only [ev_set, ev_and, ev_op, ev_c, ev_var, List.getElem?_cons_zero, List.getElem?_cons_succ, getW_some, bnd_ok, see_d, opt_some, r1, ev_isB, if_true, lft_ok, List.set_cons_zero, List.set_cons_succ, Bool.true_and, ev_not, ev_blt, ev_cons, ev_nil, ev_lc, ev_seqI, seqI_lst, wipeE_cons, wipeE_nil, hc3, hlc3, sees_cons, sees_nil, Option.bind_some, Option.map_some, ha]
  have hq : (x.srt.sealed && ms.all fun m => !m.pr.isOpt) = (x.sealed && !(ms.any fun m => m.pr.isOpt)) := by
    show (x.sealed && _) = _
    rw [List.not_any_eq_all_not]
  rw [hq] at hcl
  have sd : s_law_c1d (envL w (k0 :: kr) zs (some (.d i)) (some (.d (.lst (ms.map Mem.D)))) (some (.d x.row)) (some (.d (.bl (x.sealed && !(ms.any fun m => m.pr.isOpt))))) none none) [B3.vo] = .nx (envL w (k0 :: kr) zs (some (.d i)) (some (.d (.lst (ms.map Mem.D)))) (some (.d x.row)) (some (.d (.bl (x.sealed && !(ms.any fun m => m.pr.isOpt))))) none none) [B3.vo] := by
    unfold s_law_c1d
    have hsm := same_bl (b := x.sealed && !(ms.any fun m => m.pr.isOpt)) (vh := [B3.vo])
    simp -implicitDefEqProofs only [ev_ifS, ev_notT, ev_test, ev_callC, ev_cons, ev_nil, ev_var, List.getElem?_cons_zero, List.getElem?_cons_succ, getW_some, bnd_ok, byPos_1, byPos_2, hx, hcl, hsm, ev_isB, Bool.not_true, Bool.false_eq_true, if_false, lft_ok, ev_skip]
  simp only [ev_fgt, ev_seq, sa, sb, sc, sd, seqR_nx, fgtR_nx, wipeE_cons, wipeE_nil, List.set_cons_zero, List.set_cons_succ]
theorem law_true : ∀ ns : List Int, ns.length ≤ 63 → ∃ vh, f_law [.d (.frz (ns.map D.int))] [] = .ok (.d (.bl true)) vh := by
  intro ns hns
  obtain ⟨B, hb, hB⟩ := bag_ok hns
  obtain ⟨B1, ks, a1, a2, a3, a4, a5⟩ := names_ok (rest := []) (many := 3) (g := true) hB (by decide) (by decide) rfl
  obtain ⟨B2, zs, b1, b2, b3, b4, b5⟩ := names_ok (rest := []) (many := 6) (g := false) a2 (by decide) (by decide) rfl
  have lp := for_vh (S := Bag) (A := aName 4) (s := mFgt [4, 5, 6, 7] (mSeq s_law_c1a (mSeq s_law_c1b (mSeq s_law_c1c s_law_c1d)))) (e := envL (.d (.frz (ns.map D.int))) ks zs none none none none none none) (fun B => [B.vo]) (fun _ B => B.ok) (ds := (List.range (Int.toNat 8)).map fun (i : Nat) => .int (i : Int)) (x := B2) (fun i d B hd hB => by
    obtain ⟨B', h1, h2⟩ := round (w := .d (.frz (ns.map D.int))) (i := d) a4 a3 b4 b3 (b5 (by decide)) hB
    exact ⟨_, B', rfl, h1, h2⟩) b2
  obtain ⟨B3, l1, l2⟩ := lp
  have hr := rangeI_ok (vh := [B2.vo]) (j := 8) (by decide)
  have hsz : ∀ r : Res W, Mn.sizeOk 2 r = r := fun r => sizeOk_ok (by decide)
  refine ⟨[B3.vo], ?_⟩
  unfold f_law
  rw [ev_fn (np := 1) (by rfl)]
  have e0 : entry 1 10 [W.d (.frz (ns.map D.int))] = [some (.d (.frz (ns.map D.int))), none, none, none, none, none, none, none, none, none] := rfl
  rw [e0]
  unfold s_law s_law_a s_law_b s_law_c s_law_d
  simp -implicitDefEqProofs only [ev_seq, ev_set, ev_callC, ev_cons, ev_nil, ev_var, ev_c, List.getElem?_cons_zero, List.getElem?_cons_succ, getW_some, bnd_ok, byPos_1, byPos_3, hb, lft_ok, seqR_nx, List.set_cons_zero, List.set_cons_succ, ev_mAsg, ev_tup, a1, b1, datas_cons, datas_nil, Option.map_some, opt_some, List.length_cons, List.length_nil, hsz, asgW_d, ev_aTup_tup, if_true, ev_aCons, ev_aName, ev_aNil, Option.bind_some, asgR_some, ev_forS, ev_range1, see_d, hr, l1, ev_ret, endFn_rt]
end Law

open PySem PySem.W PyProof.Rows
set_option maxRecDepth 100000 in
set_option maxHeartbeats 0 in
theorem PySem.Challenge.cw_unmeant_k25_classes_judged_holds : PySem.Challenge.rw_unmeant_k25_classes_judged.Holds := by
  w_on; o_law; k_head; (case hw => w_witness2)
  k_fill
  refine Mn.walk_end (l := PySem.Challenge.rw_unmeant_k25_classes_judged) (n := 63) (k := 8) (x := "_law_script") (F := Law.f_law) rfl (by decide) rfl ⟨rfl, by decide, by decide⟩ (fun w h Y => PySem.W.kIn_of Y) ?F Law.law_true
  case F =>
    intro w mg fa h KX G hmg
    refine' Law.all _ mg KX G hmg ?no_all ?no_any ?no_enumerate ?no_int ?no_isinstance ?no_len ?no_list ?no_range ?no_repr ?no_sorted ?no_str ?no_tuple ?e1_LONGEST_NAME ?e2_LONGEST_NAME ?e1_SMALL ?e2_SMALL ?e1_FLAG ?e2_FLAG ?e1_GREAT ?e2_GREAT ?e1_PLAIN ?e2_PLAIN ?e3_PLAIN ?e4_PLAIN ?e1_MOST_PARAMETERS ?e2_MOST_PARAMETERS ?e1_PRESENCES ?e2_PRESENCES ?e3_PRESENCES ?e4_PRESENCES ?e1_MOST_MEMBERS ?e2_MOST_MEMBERS ?x_C_Interface ?c1_Interface ?c2_Interface ?c3_Interface ?c4_Interface ?n_Interface_name ?n_Interface_sealed ?n_Interface_brands ?n_Interface_table ?mk_Interface ?kc_Interface ?x_is_member_name ?l_is_member_name ?co_is_member_name ?kp_is_member_name ?x_is_interface_name ?l_is_interface_name ?co_is_interface_name ?kp_is_interface_name ?x_is_value_content ?l_is_value_content ?co_is_value_content ?kp_is_value_content ?x_is_method ?l_is_method ?co_is_method ?kp_is_method ?x_is_member ?l_is_member ?co_is_member ?kp_is_member ?x_sorted_brands ?l_sorted_brands ?co_sorted_brands ?kp_sorted_brands ?x_Interface_init ?l_Interface_init ?co_Interface_init ?kp_Interface_init ?fn_Interface_init ?fi_Interface_init ?ke1_Interface_init_0 ?ke2_Interface_init_0 ?ke1_Interface_init_1 ?ke2_Interface_init_1 ?ke3_Interface_init_1 ?ke4_Interface_init_1 ?x_Interface_members ?l_Interface_members ?co_Interface_members ?kp_Interface_members ?fn_Interface_members ?fi_Interface_members ?x_is_class ?l_is_class ?co_is_class ?kp_is_class ?x_law_bag ?l_law_bag ?co_law_bag ?kp_law_bag ?x_law_draw ?l_law_draw ?co_law_draw ?kp_law_draw ?x_law_of ?l_law_of ?co_law_of ?kp_law_of ?x_law_mixed ?l_law_mixed ?co_law_mixed ?kp_law_mixed ?x_law_some ?l_law_some ?co_law_some ?kp_law_some ?x_law_same ?l_law_same ?co_law_same ?kp_law_same ?x_law_names ?l_law_names ?co_law_names ?kp_law_names ?x_law_value ?l_law_value ?co_law_value ?kp_law_value ?x_law_content ?l_law_content ?co_law_content ?kp_law_content ?x_law_member ?l_law_member ?co_law_member ?kp_law_member ?x_law_interface ?l_law_interface ?co_law_interface ?kp_law_interface ?x_law ?l_law ?co_law ?kp_law
    (case no_all => k_is)
    (case no_any => k_is)
    (case no_enumerate => k_is)
    (case no_int => k_is)
    (case no_isinstance => k_is)
    (case no_len => k_is)
    (case no_list => k_is)
    (case no_range => k_is)
    (case no_repr => k_is)
    (case no_sorted => k_is)
    (case no_str => k_is)
    (case no_tuple => k_is)
    (case e1_LONGEST_NAME => k_is)
    (case e2_LONGEST_NAME => kernel_rfl)
    (case e1_SMALL => k_is)
    (case e2_SMALL => kernel_rfl)
    (case e1_FLAG => k_is)
    (case e2_FLAG => kernel_rfl)
    (case e1_GREAT => k_is)
    (case e2_GREAT => kernel_rfl)
    (case e1_PLAIN => k_is)
    (case e2_PLAIN => k_is)
    (case e3_PLAIN => kernel_rfl)
    (case e4_PLAIN => kernel_rfl)
    (case e1_MOST_PARAMETERS => k_is)
    (case e2_MOST_PARAMETERS => kernel_rfl)
    (case e1_PRESENCES => k_is)
    (case e2_PRESENCES => k_is)
    (case e3_PRESENCES => kernel_rfl)
    (case e4_PRESENCES => kernel_rfl)
    (case e1_MOST_MEMBERS => k_is)
    (case e2_MOST_MEMBERS => kernel_rfl)
    (case x_C_Interface => k_is)
    (case c1_Interface => k_is)
    (case c2_Interface => k_is)
    (case c3_Interface => k_is)
    (case c4_Interface => k_is)
    (case n_Interface_name => k_is)
    (case n_Interface_sealed => k_is)
    (case n_Interface_brands => k_is)
    (case n_Interface_table => k_is)
    (case mk_Interface => k_is)
    (case kc_Interface => k_is)
    (case x_is_member_name => k_is)
    (case l_is_member_name => k_is)
    (case co_is_member_name => k_is)
    (case kp_is_member_name => k_is)
    (case x_is_interface_name => k_is)
    (case l_is_interface_name => k_is)
    (case co_is_interface_name => k_is)
    (case kp_is_interface_name => k_is)
    (case x_is_value_content => k_is)
    (case l_is_value_content => k_is)
    (case co_is_value_content => k_is)
    (case kp_is_value_content => k_is)
    (case x_is_method => k_is)
    (case l_is_method => k_is)
    (case co_is_method => k_is)
    (case kp_is_method => k_is)
    (case x_is_member => k_is)
    (case l_is_member => k_is)
    (case co_is_member => k_is)
    (case kp_is_member => k_is)
    (case x_sorted_brands => k_is)
    (case l_sorted_brands => k_is)
    (case co_sorted_brands => k_is)
    (case kp_sorted_brands => k_is)
    (case x_Interface_init => k_is)
    (case l_Interface_init => k_is)
    (case co_Interface_init => k_is)
    (case kp_Interface_init => k_is)
    (case fn_Interface_init => k_is)
    (case fi_Interface_init => k_is)
    (case ke1_Interface_init_0 => k_is)
    (case ke2_Interface_init_0 => kernel_rfl)
    (case ke1_Interface_init_1 => k_is)
    (case ke2_Interface_init_1 => k_is)
    (case ke3_Interface_init_1 => kernel_rfl)
    (case ke4_Interface_init_1 => kernel_rfl)
    (case x_Interface_members => k_is)
    (case l_Interface_members => k_is)
    (case co_Interface_members => k_is)
    (case kp_Interface_members => k_is)
    (case fn_Interface_members => k_is)
    (case fi_Interface_members => k_is)
    (case x_is_class => k_is)
    (case l_is_class => k_is)
    (case co_is_class => k_is)
    (case kp_is_class => k_is)
    (case x_law_bag => k_is)
    (case l_law_bag => k_is)
    (case co_law_bag => k_is)
    (case kp_law_bag => k_is)
    (case x_law_draw => k_is)
    (case l_law_draw => k_is)
    (case co_law_draw => k_is)
    (case kp_law_draw => k_is)
    (case x_law_of => k_is)
    (case l_law_of => k_is)
    (case co_law_of => k_is)
    (case kp_law_of => k_is)
    (case x_law_mixed => k_is)
    (case l_law_mixed => k_is)
    (case co_law_mixed => k_is)
    (case kp_law_mixed => k_is)
    (case x_law_some => k_is)
    (case l_law_some => k_is)
    (case co_law_some => k_is)
    (case kp_law_some => k_is)
    (case x_law_same => k_is)
    (case l_law_same => k_is)
    (case co_law_same => k_is)
    (case kp_law_same => k_is)
    (case x_law_names => k_is)
    (case l_law_names => k_is)
    (case co_law_names => k_is)
    (case kp_law_names => k_is)
    (case x_law_value => k_is)
    (case l_law_value => k_is)
    (case co_law_value => k_is)
    (case kp_law_value => k_is)
    (case x_law_content => k_is)
    (case l_law_content => k_is)
    (case co_law_content => k_is)
    (case kp_law_content => k_is)
    (case x_law_member => k_is)
    (case l_law_member => k_is)
    (case co_law_member => k_is)
    (case kp_law_member => k_is)
    (case x_law_interface => k_is)
    (case l_law_interface => k_is)
    (case co_law_interface => k_is)
    (case kp_law_interface => k_is)
    (case x_law => k_is)
    (case l_law => k_is)
    (case co_law => k_is)
    (case kp_law => k_is)
