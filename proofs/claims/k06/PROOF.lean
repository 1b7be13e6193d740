import PyProof.Rows.All
import Wide.All
import OpenK.AllK
import Wide.FinOn
import HandS.ForMost
import HandS.Exc
import HandS.ForExc
import HandS.CallSlots
import HandS.Deep
import HandS.TupAny
import HandS.Text
import HandS.More
import HandS.Dict
import HandS.Small
import HandS.Sort
import HandS.IsInst
import HandS.TupLen
import HandS.Iter
import HandS.Zip
import HandS.Comp
import PyProof.ReprLen
import HandS.Style
import HandS.Codes
import HandS.Defaults
import HandS.MakeKw
import HandS.MakeKwOnly
import HandS.ClsMeth
import PySem.Challenge.RW_unmeant_k06_names_in_contents
set_option Elab.async false
set_option linter.all false
set_option maxRecDepth 100000
set_option maxHeartbeats 4000000
namespace Mn
open PySem PySem.Spec PyProof.Rows L2

/-- data, by value -/
inductive D where
  | non | bl (b : Bool) | int (i : Int) | str (x : Str)
  | tup (ds : List D) | ctp (ds : List D) | lst (ds : List D) | frz (ds : List D) | dic (t : Bool) (kvs : List (D × D)) | ins (c : Str) (fs : List (Str × D)) | ty (n : String) | cls (n : Str)
  deriving Inhabited

/-- a value: data, or a thing that may change -/
inductive W where
  | d (x : D) | ref (k : Nat)
  deriving Inhabited
/-- a thing that may change -/
inductive VO where
  | lst (ds : List D) | dic (t : Bool) (kvs : List (D × D)) | ins (c : Str) (fs : List (Str × W)) | dead
  deriving Inhabited
abbrev VH := List VO
structure Exn where
  cls : Str
  fs : List (Str × D)
inductive Res (α : Type) where
  | ok (a : α) (h : VH) | exn (x : Exn) (h : VH) | stuck
abbrev Rho := List (Option Addr)
abbrev Env := List (Option W)

/-- the text's constants: the written part, the module's names -/
structure Cn where
  K : PySem.W.Frag
  mg : Str → Option Value
  /-- lists that a comprehension is making -/
  hid : List Addr

/-- free to be told by value -/
def Off (c : Cn) (ρ : Rho) (a : Addr) : Prop := some a ∉ ρ ∧ a ∉ c.hid

def LOk (c : Cn) (H : Hp) (ρ : Rho) (a : Addr) (xs : List V) : Prop :=
  (Off c ρ a ∧ Rd H a (.lst xs)) ∨
    ∃ (o : Obj) (its : Array Value) (n : Nat), c.K.lookup a = some o ∧ o.cls = .type "list" ∧ o.dict = none ∧ o.data = .seq its n ∧ its.size ≤ sizeLine ∧ Vals xs its.toList
def TOk (c : Cn) (a : Addr) (xs : List V) : Prop :=
  ∃ (o : Obj) (its : Array Value) (n : Nat), c.K.lookup a = some o ∧ o.cls = .type "tuple" ∧ o.data = .seq its n ∧ its.size ≤ sizeLine ∧ Vals xs its.toList
theorem LOk.sq {c : Cn} {H : Hp} {ρ : Rho} {a : Addr} {xs : List V} (h : LOk c H ρ a xs) : SqL c.K H a xs := h.elim (fun z => .inl z.2) .inr
theorem TOk.sq {c : Cn} {H : Hp} {a : Addr} {xs : List V} (h : TOk c a xs) : SqT c.K H a xs := .inr h

/-- a key of a dict of data -/
def keyOf : D → Option Key
  | .int i => some (.inl i)
  | .str x => some (.inr x)
  | _ => none
def keyT : List D → Option (List Key)
  | [] => some []
  | d :: r => match keyOf d, keyT r with
    | some k, some ks => some (k :: ks)
    | _, _ => none
def keyTOf : D → Option (List Key)
  | .tup ds => keyT ds
  | _ => none
def keysK : List (D × D) → Option (List Key)
  | [] => some []
  | (k, _) :: r => match keyOf k, keysK r with
    | some k, some ks => some (k :: ks)
    | _, _ => none
def keysT : List (D × D) → Option (List (List Key))
  | [] => some []
  | (k, _) :: r => match keyTOf k, keysT r with
    | some k, some ks => some (k :: ks)
    | _, _ => none

/-- a dict stands at a: its keys are ints and texts, or (t) tuples of such -/
def HDic (H : Hp) (a : Addr) (t : Bool) (kvs : List (D × D)) (xs : List V) : Prop := match t with
  | false => ∃ ks, keysK kvs = some ks ∧ H a = some (.dK (ks.zip xs))
  | true => ∃ ks, keysT kvs = some ks ∧ H a = some (.dT (ks.zip xs))
theorem HDic.to {H H' : Hp} {a : Addr} {t : Bool} {kvs : List (D × D)} {xs : List V} (h : HDic H a t kvs xs) (k : ∀ o, H a = some o → H' a = some o) : HDic H' a t kvs xs := by
  cases t with
  | false => obtain ⟨ks, h1, h2⟩ := h; exact ⟨ks, h1, k _ h2⟩
  | true => obtain ⟨ks, h1, h2⟩ := h; exact ⟨ks, h1, k _ h2⟩
theorem HDic.ex {H : Hp} {a : Addr} {t : Bool} {kvs : List (D × D)} {xs : List V} (h : HDic H a t kvs xs) : ∃ o, H a = some o := by
  cases t with
  | false => obtain ⟨ks, h1, h2⟩ := h; exact ⟨_, h2⟩
  | true => obtain ⟨ks, h1, h2⟩ := h; exact ⟨_, h2⟩
mutual
def RelD (c : Cn) (H : Hp) (ρ : Rho) : D → V → Prop
  | .non, v => v = .non
  | .bl b, v => v = .bl b
  | .int i, v => v = .int i
  | .str x, v => v = .str x ∧ x.length ≤ sizeLine ∧ PyData.strOk x = true
  | .tup ds, v => ∃ a xs, v = .ref a ∧ Off c ρ a ∧ H a = some (.tup xs) ∧ ds.length ≤ sizeLine ∧ RelDs c H ρ ds xs
  | .ctp ds, v => ∃ a xs, v = .ref a ∧ TOk c a xs ∧ ds.length ≤ sizeLine ∧ RelDs c H ρ ds xs
  | .lst ds, v => ∃ a xs, v = .ref a ∧ Off c ρ a ∧ H a = some (.lst xs) ∧ ds.length ≤ sizeLine ∧ RelDs c H ρ ds xs
  | .frz ds, v => ∃ a xs, v = .ref a ∧ LOk c H ρ a xs ∧ ds.length ≤ sizeLine ∧ RelDs c H ρ ds xs
  | .dic t kvs, v => ∃ a xs, v = .ref a ∧ Off c ρ a ∧ HDic H a t kvs xs ∧ RelDv c H ρ kvs xs
  | .ins n fs, v => ∃ a C dx xs, v = .ref a ∧ Off c ρ a ∧ c.mg n = some (.ref C) ∧ H a = some (.ins C dx ((fs.map (·.1)).zip xs)) ∧ RelDf c H ρ fs xs
  | .ty n, v => v = .ty n
  | .cls n, v => ∃ C, v = .ref C ∧ c.mg n = some (.ref C)
def RelDs (c : Cn) (H : Hp) (ρ : Rho) : List D → List V → Prop
  | [], [] => True
  | d :: ds, v :: vs => RelD c H ρ d v ∧ RelDs c H ρ ds vs
  | _, _ => False
def RelDv (c : Cn) (H : Hp) (ρ : Rho) : List (D × D) → List V → Prop
  | [], [] => True
  | (_, d) :: ds, v :: vs => RelD c H ρ d v ∧ RelDv c H ρ ds vs
  | _, _ => False
def RelDf (c : Cn) (H : Hp) (ρ : Rho) : List (Str × D) → List V → Prop
  | [], [] => True
  | (_, d) :: ds, v :: vs => RelD c H ρ d v ∧ RelDf c H ρ ds vs
  | _, _ => False
end
def RelW (c : Cn) (H : Hp) (ρ : Rho) : W → V → Prop
  | .d x, v => RelD c H ρ x v
  | .ref k, v => k < ρ.length ∧ ∀ a, ρ[k]? = some (some a) → v = .ref a
def RelWs (c : Cn) (H : Hp) (ρ : Rho) : List W → List V → Prop
  | [], [] => True
  | w :: ws, v :: vs => RelW c H ρ w v ∧ RelWs c H ρ ws vs
  | _, _ => False
def RelWf (c : Cn) (H : Hp) (ρ : Rho) : List (Str × W) → List V → Prop
  | [], [] => True
  | (_, w) :: ws, v :: vs => RelW c H ρ w v ∧ RelWf c H ρ ws vs
  | _, _ => False
/-- the frame's slots: a slot that the mirror does not know may hold anything -/
def RelE (c : Cn) (H : Hp) (ρ : Rho) : Env → L2.St → Prop
  | [], [] => True
  | some w :: e, some v :: σ => RelW c H ρ w v ∧ RelE c H ρ e σ
  | none :: e, _ :: σ => RelE c H ρ e σ
  | _, _ => False
def RelO (c : Cn) (H : Hp) (ρ : Rho) : VO → Option Addr → Prop
  | .dead, o => o = none
  | .lst ds, o => ∃ a xs, o = some a ∧ H a = some (.lst xs) ∧ ds.length ≤ sizeLine ∧ RelDs c H ρ ds xs
  | .dic t kvs, o => ∃ a xs, o = some a ∧ HDic H a t kvs xs ∧ RelDv c H ρ kvs xs
  | .ins n fs, o => ∃ a C dx xs, o = some a ∧ c.mg n = some (.ref C) ∧ H a = some (.ins C dx ((fs.map (·.1)).zip xs)) ∧ RelWf c H ρ fs xs
structure RelH (c : Cn) (H : Hp) (ρ : Rho) (vh : VH) : Prop where
  len : ρ.length = vh.length
  inj : ∀ (i j : Nat) (a : Addr), ρ[i]? = some (some a) → ρ[j]? = some (some a) → i = j
  at' : ∀ (i : Nat) (vo : VO), vh[i]? = some vo → ∃ o, ρ[i]? = some o ∧ RelO c H ρ vo o
  hid : ∀ a, a ∈ c.hid → (∃ o, H a = some o) ∧ some a ∉ ρ

/-- what is not in ρ stays -/
def Fm (H H' : Hp) (ρ : Rho) : Prop := ∀ a o, some a ∉ ρ → H a = some o → H' a = some o
/-- .. nor hidden -/
def Fw (c : Cn) (H H' : Hp) (ρ : Rho) : Prop := ∀ a o, Off c ρ a → H a = some o → H' a = some o
/-- ρ grows by new places; some places may be given up -/
structure Grow (ρ : Rho) (H : Hp) (ρ' : Rho) : Prop where
  len : ρ.length ≤ ρ'.length
  old : ∀ i, i < ρ.length → ρ'[i]? = ρ[i]? ∨ ρ'[i]? = some none
  new : ∀ a, some a ∈ ρ' → some a ∈ ρ ∨ H a = none

theorem Grow.refl (ρ : Rho) (H : Hp) : Grow ρ H ρ := ⟨Nat.le_refl _, fun _ _ => .inl rfl, fun _ h => .inl h⟩
theorem Fm.refl (H : Hp) (ρ : Rho) : Fm H H ρ := fun _ _ _ h => h
theorem Grow.trans {ρ ρ1 ρ2 : Rho} {H H1 : Hp} (a : Grow ρ H ρ1) (f : Fm H H1 ρ) (b : Grow ρ1 H1 ρ2) : Grow ρ H ρ2 where
  len := Nat.le_trans a.len b.len
  old := fun i hi => by
    rcases b.old i (Nat.lt_of_lt_of_le hi a.len) with h | h
    · rw [h]; exact a.old i hi
    · exact .inr h
  new := fun x hx => by
    by_cases h : some x ∈ ρ
    · exact .inl h
    · rcases b.new x hx with h1 | h1
      · exact a.new x h1
      · cases q : H x with
        | none => exact .inr rfl
        | some o => rw [f x o h q] at h1; cases h1
theorem Fm.trans {ρ ρ1 : Rho} {H H1 H2 : Hp} (a : Grow ρ H ρ1) (f : Fm H H1 ρ) (g : Fm H1 H2 ρ1) : Fm H H2 ρ := fun x o hx h => by
  refine g x o (fun z => ?_) (f x o hx h)
  rcases a.new x z with h1 | h1
  · exact hx h1
  · rw [h] at h1; cases h1

section
variable {c : Cn} {H H' : Hp} {ρ ρ' : Rho}
theorem Grow.not (g : Grow ρ H ρ') {a : Addr} {o : HO} (h : Off c ρ a) (e : H a = some o) : Off c ρ' a := by
  refine ⟨fun z => ?_, h.2⟩
  rcases g.new a z with h1 | h1
  · exact h.1 h1
  · rw [e] at h1; cases h1
theorem Fm.w (f : Fm H H' ρ) : Fw c H H' ρ := fun a o h => f a o h.1
theorem Rd.fr (f : Fw c H H' ρ) {a : Addr} {u : HO} (h : Off c ρ a) (r : Rd H a u) : Rd H' a u := by
  rcases r with r | ⟨o, r⟩
  · exact .inl (f a _ h r)
  · exact .inr ⟨o, f a _ h r⟩
theorem LOk.stayw (g : Grow ρ H ρ') (f : Fw c H H' ρ) {a : Addr} {xs : List V} (h : LOk c H ρ a xs) : LOk c H' ρ' a xs := by
  rcases h with ⟨n, r⟩ | h
  · refine .inl ⟨?_, Rd.fr f n r⟩
    rcases r with r | ⟨o, r⟩
    · exact g.not n r
    · exact g.not n r
  · exact .inr h
mutual
theorem RelD.stayw (g : Grow ρ H ρ') (f : Fw c H H' ρ) : ∀ {x : D} {v : V}, RelD c H ρ x v → RelD c H' ρ' x v
  | .non, _, h => h
  | .bl _, _, h => h
  | .int _, _, h => h
  | .str _, _, h => h
  | .tup _, _, ⟨a, xs, e, n, hH, l, r⟩ => ⟨a, xs, e, g.not n hH, f a _ n hH, l, RelDs.stayw g f r⟩
  | .ctp _, _, ⟨a, xs, e, t, l, r⟩ => ⟨a, xs, e, t, l, RelDs.stayw g f r⟩
  | .lst _, _, ⟨a, xs, e, n, hH, l, r⟩ => ⟨a, xs, e, g.not n hH, f a _ n hH, l, RelDs.stayw g f r⟩
  | .frz _, _, ⟨a, xs, e, t, l, r⟩ => ⟨a, xs, e, t.stayw g f, l, RelDs.stayw g f r⟩
  | .dic _ _, _, ⟨a, xs, e, n, hH, r⟩ => ⟨a, xs, e, let ⟨_, hs⟩ := hH.ex; g.not n hs, hH.to fun o q => f a o n q, RelDv.stayw g f r⟩
  | .ins _ _, _, ⟨a, C, dx, xs, e, n, hm, hH, r⟩ => ⟨a, C, dx, xs, e, g.not n hH, hm, f a _ n hH, RelDf.stayw g f r⟩
  | .ty _, _, h => h
  | .cls _, _, h => h
theorem RelDs.stayw (g : Grow ρ H ρ') (f : Fw c H H' ρ) : ∀ {xs : List D} {vs : List V}, RelDs c H ρ xs vs → RelDs c H' ρ' xs vs
  | [], [], h => trivial
  | _ :: _, _ :: _, ⟨h, t⟩ => ⟨RelD.stayw g f h, RelDs.stayw g f t⟩
theorem RelDv.stayw (g : Grow ρ H ρ') (f : Fw c H H' ρ) : ∀ {xs : List (D × D)} {vs : List V}, RelDv c H ρ xs vs → RelDv c H' ρ' xs vs
  | [], [], h => trivial
  | (_, _) :: _, _ :: _, ⟨h, t⟩ => ⟨RelD.stayw g f h, RelDv.stayw g f t⟩
theorem RelDf.stayw (g : Grow ρ H ρ') (f : Fw c H H' ρ) : ∀ {xs : List (Str × D)} {vs : List V}, RelDf c H ρ xs vs → RelDf c H' ρ' xs vs
  | [], [], h => trivial
  | (_, _) :: _, _ :: _, ⟨h, t⟩ => ⟨RelD.stayw g f h, RelDf.stayw g f t⟩
end
theorem RelW.stayw (g : Grow ρ H ρ') (f : Fw c H H' ρ) : ∀ {w : W} {v : V}, RelW c H ρ w v → RelW c H' ρ' w v
  | .d _, _, h => RelD.stayw g f h
  | .ref k, _, ⟨h1, h2⟩ => ⟨Nat.lt_of_lt_of_le h1 g.len, fun a ha => by
      rcases g.old k h1 with e | e
      · exact h2 a (e ▸ ha)
      · rw [e] at ha; cases ha⟩
theorem RelWs.stayw (g : Grow ρ H ρ') (f : Fw c H H' ρ) : ∀ {xs : List W} {vs : List V}, RelWs c H ρ xs vs → RelWs c H' ρ' xs vs
  | [], [], h => trivial
  | _ :: _, _ :: _, ⟨h, t⟩ => ⟨RelW.stayw g f h, RelWs.stayw g f t⟩
theorem RelWf.stayw (g : Grow ρ H ρ') (f : Fw c H H' ρ) : ∀ {xs : List (Str × W)} {vs : List V}, RelWf c H ρ xs vs → RelWf c H' ρ' xs vs
  | [], [], h => trivial
  | (_, _) :: _, _ :: _, ⟨h, t⟩ => ⟨RelW.stayw g f h, RelWf.stayw g f t⟩
theorem RelE.stayw (g : Grow ρ H ρ') (f : Fw c H H' ρ) : ∀ {e : Env} {σ : L2.St}, RelE c H ρ e σ → RelE c H' ρ' e σ
  | [], [], h => trivial
  | some _ :: _, some _ :: _, ⟨h, t⟩ => ⟨RelW.stayw g f h, RelE.stayw g f t⟩
  | none :: e, _ :: σ, t => RelE.stayw (e := e) (σ := σ) g f t
theorem RelDs.length : ∀ {xs : List D} {vs : List V}, RelDs c H ρ xs vs → xs.length = vs.length
  | [], [], _ => rfl
  | _ :: _, _ :: _, ⟨_, t⟩ => congrArg (· + 1) (RelDs.length t)
theorem RelWs.length : ∀ {xs : List W} {vs : List V}, RelWs c H ρ xs vs → xs.length = vs.length
  | [], [], _ => rfl
  | _ :: _, _ :: _, ⟨_, t⟩ => congrArg (· + 1) (RelWs.length t)
theorem RelE.length : ∀ {e : Env} {σ : L2.St}, RelE c H ρ e σ → e.length = σ.length
  | [], [], _ => rfl
  | some _ :: _, some _ :: _, ⟨_, t⟩ => congrArg (· + 1) (RelE.length t)
  | none :: e, _ :: σ, t => congrArg (· + 1) (RelE.length (e := e) (σ := σ) t)
theorem RelE.get : ∀ {e : Env} {σ : L2.St} {i : Nat} {w : W}, RelE c H ρ e σ → e[i]? = some (some w) → ∃ v, σ[i]? = some (some v) ∧ RelW c H ρ w v
  | [], [], _, _, _, q => by simp at q
  | some w :: e, some v :: σ, 0, _, ⟨h, _⟩, q => by simp at q; subst q; exact ⟨v, rfl, h⟩
  | some w :: e, some v :: σ, i + 1, _, ⟨_, t⟩, q => by simpa using RelE.get (i := i) t (by simpa using q)
  | none :: e, v :: σ, 0, _, _, q => by simp at q
  | none :: e, v :: σ, i + 1, _, t, q => by simpa using RelE.get (i := i) (e := e) (σ := σ) t (by simpa using q)
theorem RelE.set {w : W} {v : V} (r : RelW c H ρ w v) : ∀ {e : Env} {σ : L2.St} {i : Nat}, RelE c H ρ e σ → RelE c H ρ (e.set i (some w)) (σ.set i (some v))
  | [], [], _, _ => trivial
  | some _ :: e, some _ :: σ, 0, ⟨_, t⟩ => ⟨r, t⟩
  | some _ :: e, some _ :: σ, i + 1, ⟨h, t⟩ => ⟨h, RelE.set r t⟩
  | none :: e, _ :: σ, 0, t => ⟨r, t⟩
  | none :: e, _ :: σ, i + 1, t => RelE.set (e := e) (σ := σ) r t
theorem RelDs.get : ∀ {xs : List D} {vs : List V} {i : Nat} {x : D}, RelDs c H ρ xs vs → xs[i]? = some x → ∃ v, vs[i]? = some v ∧ RelD c H ρ x v
  | [], [], _, _, _, q => by simp at q
  | x :: xs, v :: vs, 0, _, ⟨h, _⟩, q => by simp at q; subst q; exact ⟨v, rfl, h⟩
  | x :: xs, v :: vs, i + 1, _, ⟨_, t⟩, q => by simpa using RelDs.get (i := i) t (by simpa using q)
theorem RelDs.get' : ∀ {xs : List D} {vs : List V} {i : Nat} {v : V}, RelDs c H ρ xs vs → vs[i]? = some v → ∃ x, xs[i]? = some x ∧ RelD c H ρ x v
  | [], [], _, _, _, q => by simp at q
  | x :: xs, v :: vs, 0, _, ⟨h, _⟩, q => by simp at q; subst q; exact ⟨x, rfl, h⟩
  | x :: xs, v :: vs, i + 1, _, ⟨_, t⟩, q => by simpa using RelDs.get' (i := i) t (by simpa using q)
theorem RelDs.append : ∀ {xs ys : List D} {vs us : List V}, RelDs c H ρ xs vs → RelDs c H ρ ys us → RelDs c H ρ (xs ++ ys) (vs ++ us)
  | [], _, [], _, _, s => s
  | _ :: _, _, _ :: _, _, ⟨h, t⟩, s => ⟨h, RelDs.append t s⟩
theorem RelDs.set {x : D} {v : V} (r : RelD c H ρ x v) : ∀ {xs : List D} {vs : List V} {i : Nat}, RelDs c H ρ xs vs → RelDs c H ρ (xs.set i x) (vs.set i v)
  | [], [], _, _ => trivial
  | _ :: _, _ :: _, 0, ⟨_, t⟩ => ⟨r, t⟩
  | _ :: _, _ :: _, i + 1, ⟨h, t⟩ => ⟨h, RelDs.set r t⟩
theorem RelDs.take : ∀ {xs : List D} {vs : List V} (n : Nat), RelDs c H ρ xs vs → RelDs c H ρ (xs.take n) (vs.take n)
  | [], [], n, _ => by simp; trivial
  | _ :: _, _ :: _, 0, _ => trivial
  | _ :: _, _ :: _, n + 1, ⟨h, t⟩ => ⟨h, RelDs.take n t⟩
theorem RelDs.drop : ∀ {xs : List D} {vs : List V} (n : Nat), RelDs c H ρ xs vs → RelDs c H ρ (xs.drop n) (vs.drop n)
  | [], [], n, _ => by simp; trivial
  | _ :: _, _ :: _, 0, h => h
  | _ :: _, _ :: _, n + 1, ⟨_, t⟩ => RelDs.drop n t
theorem LOk.stay (g : Grow ρ H ρ') (f : Fm H H' ρ) {a : Addr} {xs : List V} (h : LOk c H ρ a xs) : LOk c H' ρ' a xs := h.stayw g f.w
theorem RelD.stay (g : Grow ρ H ρ') (f : Fm H H' ρ) {x : D} {v : V} (h : RelD c H ρ x v) : RelD c H' ρ' x v := RelD.stayw g f.w h
theorem RelDs.stay (g : Grow ρ H ρ') (f : Fm H H' ρ) {x : List D} {v : List V} (h : RelDs c H ρ x v) : RelDs c H' ρ' x v := RelDs.stayw g f.w h
theorem RelDv.stay (g : Grow ρ H ρ') (f : Fm H H' ρ) {x : List (D × D)} {v : List V} (h : RelDv c H ρ x v) : RelDv c H' ρ' x v := RelDv.stayw g f.w h
theorem RelDf.stay (g : Grow ρ H ρ') (f : Fm H H' ρ) {x : List (Str × D)} {v : List V} (h : RelDf c H ρ x v) : RelDf c H' ρ' x v := RelDf.stayw g f.w h
theorem RelW.stay (g : Grow ρ H ρ') (f : Fm H H' ρ) {x : W} {v : V} (h : RelW c H ρ x v) : RelW c H' ρ' x v := RelW.stayw g f.w h
theorem RelWs.stay (g : Grow ρ H ρ') (f : Fm H H' ρ) {x : List W} {v : List V} (h : RelWs c H ρ x v) : RelWs c H' ρ' x v := RelWs.stayw g f.w h
theorem RelWf.stay (g : Grow ρ H ρ') (f : Fm H H' ρ) {x : List (Str × W)} {v : List V} (h : RelWf c H ρ x v) : RelWf c H' ρ' x v := RelWf.stayw g f.w h
theorem RelE.stay (g : Grow ρ H ρ') (f : Fm H H' ρ) {x : Env} {v : L2.St} (h : RelE c H ρ x v) : RelE c H' ρ' x v := RelE.stayw g f.w h
end
end Mn

namespace Mn
open PySem PySem.Spec PyProof.Rows L2

/-! ### reading an outcome -/
def RelX (c : Cn) (H : Hp) (ρ : Rho) (x : Exn) (cls : Value) (d : Option Addr) : Prop :=
  c.mg x.cls = some cls ∧ ∃ dd gs, d = some dd ∧ Off c ρ dd ∧ H dd = some (.xd ((x.fs.map (·.1)).zip gs)) ∧ RelDf c H ρ x.fs gs
def Out {α : Type} (c : Cn) (σ : L2.St) (H : Hp) (ρ : Rho) (X : WX) (r : Res α) (K : α → VH → Hp → Rho → Prop) : Prop :=
  match r with
  | .ok a vh' => ∀ H' ρ', Grow ρ H ρ' → Fm H H' ρ → RelH c H' ρ' vh' → K a vh' H' ρ'
  | .exn x vh' => ∀ cls d H' ρ', Grow ρ H ρ' → Fm H H' ρ → RelX c H' ρ' x cls d → RelH c H' ρ' vh' → X cls d σ H'
  | .stuck => False
def bnd {α β : Type} (r : Res α) (k : α → VH → Res β) : Res β :=
  match r with
  | .ok a h => k a h
  | .exn x h => .exn x h
  | .stuck => .stuck
@[simp] theorem bnd_ok {α β : Type} (a : α) (h : VH) (k : α → VH → Res β) : bnd (.ok a h) k = k a h := rfl
@[simp] theorem bnd_exn {α β : Type} (x : Exn) (h : VH) (k : α → VH → Res β) : bnd (.exn x h) k = .exn x h := rfl
@[simp] theorem bnd_stuck {α β : Type} (k : α → VH → Res β) : bnd .stuck k = .stuck := rfl
def opt {α β : Type} (o : Option α) (k : α → Res β) : Res β := match o with
  | some a => k a
  | none => .stuck
@[simp] theorem opt_some {α β : Type} (a : α) (k : α → Res β) : opt (some a) k = k a := rfl
@[simp] theorem opt_none {α β : Type} (k : α → Res β) : opt none k = .stuck := rfl

abbrev FE := Env → VH → Res W
abbrev FT := Env → VH → Res Bool
abbrev FA := Env → VH → Res (List W)
section
variable {c : Cn} {X : WX} {σ : L2.St} {H H1 : Hp} {ρ ρ1 : Rho} {e : Env} {vh : VH} {α β : Type}
def tM (c : Cn) (X : WX) (f : FE) : TE := fun σ H Q => ∃ e ρ vh, RelE c H ρ e σ ∧ RelH c H ρ vh ∧ Out c σ H ρ X (f e vh) fun w _ H' ρ' => ∀ v, RelW c H' ρ' w v → Q v H'
def tMT (c : Cn) (X : WX) (f : FT) : TT := fun σ H Q => ∃ e ρ vh, RelE c H ρ e σ ∧ RelH c H ρ vh ∧ Out c σ H ρ X (f e vh) fun b _ H' _ => Q b H'
def tMA (c : Cn) (X : WX) (f : FA) : TA := fun σ H Q => ∃ e ρ vh, RelE c H ρ e σ ∧ RelH c H ρ vh ∧ Out c σ H ρ X (f e vh) fun ws _ H' ρ' => ∀ vs, RelWs c H' ρ' ws vs → Q vs H'

theorem Out.mono {r : Res α} {K K' : α → VH → Hp → Rho → Prop} (h : Out c σ H ρ X r K) (k : ∀ a vh' H' ρ', K a vh' H' ρ' → K' a vh' H' ρ') : Out c σ H ρ X r K' := by
  cases r with
  | ok a vh' => exact fun H' ρ' g f r => k _ _ _ _ (h H' ρ' g f r)
  | exn x vh' => exact h
  | stuck => exact h
theorem Out.later {r : Res α} {K : α → VH → Hp → Rho → Prop} (h : Out c σ H ρ X r K) (g : Grow ρ H ρ1) (f : Fm H H1 ρ) : Out c σ H1 ρ1 X r K := by
  cases r with
  | ok a vh' => exact fun H' ρ' g' f' r => h H' ρ' (g.trans f g') (Fm.trans g f f') r
  | exn x vh' => exact fun cls d H' ρ' g' f' rx r => h cls d H' ρ' (g.trans f g') (Fm.trans g f f') rx r
  | stuck => exact h
theorem Out.here {a : α} {K : α → VH → Hp → Rho → Prop} (h : Out c σ H ρ X (.ok a vh) K) (r : RelH c H ρ vh) : K a vh H ρ := h H ρ (Grow.refl _ _) (Fm.refl _ _) r
/-- what stands behind a part -/
structure Aft (c : Cn) (X : WX) (σ : L2.St) (e : Env) (H1 : Hp) (ρ1 : Rho) (vh1 : VH) (r : Res β) (K : β → VH → Hp → Rho → Prop) : Prop where
  re : RelE c H1 ρ1 e σ
  rh : RelH c H1 ρ1 vh1
  out : Out c σ H1 ρ1 X r K
theorem use {f : FE} {k : W → VH → Res β} {K : β → VH → Hp → Rho → Prop} (he : RelE c H ρ e σ) (hh : RelH c H ρ vh) (h : Out c σ H ρ X (bnd (f e vh) k) K) :
    tM c X f σ H fun v H1 => ∃ w vh1 ρ1, RelW c H1 ρ1 w v ∧ Aft c X σ e H1 ρ1 vh1 (k w vh1) K ∧ Grow ρ H ρ1 ∧ Fm H H1 ρ := by
  refine ⟨e, ρ, vh, he, hh, ?_⟩
  cases q : f e vh with
  | ok w vh' =>
    rw [q] at h
    exact fun H' ρ' g fm rh v rw' => ⟨w, vh', ρ', rw', ⟨he.stay g fm, rh, h.later g fm⟩, g, fm⟩
  | exn x vh' => rw [q] at h; exact h
  | stuck => rw [q] at h; exact h
theorem useT {f : FT} {k : Bool → VH → Res β} {K : β → VH → Hp → Rho → Prop} (he : RelE c H ρ e σ) (hh : RelH c H ρ vh) (h : Out c σ H ρ X (bnd (f e vh) k) K) :
    tMT c X f σ H fun b H1 => ∃ vh1 ρ1, Aft c X σ e H1 ρ1 vh1 (k b vh1) K ∧ Grow ρ H ρ1 ∧ Fm H H1 ρ := by
  refine ⟨e, ρ, vh, he, hh, ?_⟩
  cases q : f e vh with
  | ok w vh' =>
    rw [q] at h
    exact fun H' ρ' g fm rh => ⟨vh', ρ', ⟨he.stay g fm, rh, h.later g fm⟩, g, fm⟩
  | exn x vh' => rw [q] at h; exact h
  | stuck => rw [q] at h; exact h
theorem useA {f : FA} {k : List W → VH → Res β} {K : β → VH → Hp → Rho → Prop} (he : RelE c H ρ e σ) (hh : RelH c H ρ vh) (h : Out c σ H ρ X (bnd (f e vh) k) K) :
    tMA c X f σ H fun vs H1 => ∃ ws vh1 ρ1, RelWs c H1 ρ1 ws vs ∧ Aft c X σ e H1 ρ1 vh1 (k ws vh1) K ∧ Grow ρ H ρ1 ∧ Fm H H1 ρ := by
  refine ⟨e, ρ, vh, he, hh, ?_⟩
  cases q : f e vh with
  | ok w vh' =>
    rw [q] at h
    exact fun H' ρ' g fm rh vs rw' => ⟨w, vh', ρ', rw', ⟨he.stay g fm, rh, h.later g fm⟩, g, fm⟩
  | exn x vh' => rw [q] at h; exact h
  | stuck => rw [q] at h; exact h
end

/-! ### weaker readings -/
section
variable {X : Cx} {e : Expr} {es : List Expr} {c : Cn} {W₀ : WX}
theorem pe_imp {t t' : TE} (h : PE X e t) (i : ∀ σ H Q, t' σ H Q → t σ H Q) : PE X e t' := ⟨fun pins s σ H Q I q => h.run pins s σ H Q I (i σ H Q q)⟩
theorem pt_imp {t t' : TT} (h : PT X e t) (i : ∀ σ H Q, t' σ H Q → t σ H Q) : PT X e t' := ⟨fun pins s σ H Q I q => h.run pins s σ H Q I (i σ H Q q)⟩
theorem pw_imp {t t' : TT} (h : PW X e t) (i : ∀ σ H Q, t' σ H Q → t σ H Q) : PW X e t' := ⟨fun wh pins s σ H Q I q => h.run wh pins s σ H Q I (i σ H Q q)⟩
theorem pa_imp {t t' : TA} (h : PA X es t) (i : ∀ σ H Q, t' σ H Q → t σ H Q) : PA X es t' := ⟨fun pos pins s σ H Q I q => h.run pos pins s σ H Q I (i σ H Q q)⟩
theorem ps_imp {st : Stmt} {t t' : TS} (h : PS X st t) (i : ∀ D σ H, t' D σ H → t D σ H) : PS X st t' := ⟨fun pins s σ H D I q => h.run pins s σ H D I (i D σ H q)⟩
theorem pss_imp {st : List Stmt} {t t' : TS} (h : PSs X st t) (i : ∀ D σ H, t' D σ H → t D σ H) : PSs X st t' := ⟨fun pins s σ H D I q => h.run pins s σ H D I (i D σ H q)⟩
end

/-! ### new objects -/
section
variable {c : Cn} {H : Hp} {ρ : Rho} {vh : VH}
theorem RelO.live {vo : VO} {a : Addr} (h : RelO c H ρ vo (some a)) : ∃ o, H a = some o := by
  cases vo with
  | dead => cases h
  | lst ds => obtain ⟨_, _, e, h, _, _⟩ := h; cases e; exact ⟨_, h⟩
  | dic t kvs => obtain ⟨_, _, e, h, _⟩ := h; cases e; exact h.ex
  | ins n fs => obtain ⟨_, _, _, _, e, _, h, _⟩ := h; cases e; exact ⟨_, h⟩
theorem RelH.live (h : RelH c H ρ vh) {a : Addr} (ha : some a ∈ ρ) : ∃ o, H a = some o := by
  obtain ⟨i, hi, e⟩ := List.mem_iff_getElem.mp ha
  have hv : i < vh.length := by rw [← h.len]; exact hi
  obtain ⟨o, ho, r⟩ := h.at' i vh[i] (by simp [hv])
  have : o = some a := by
    rw [List.getElem?_eq_getElem hi, e] at ho
    exact (Option.some.inj ho).symm
  subst this
  exact r.live
theorem RelH.fresh (h : RelH c H ρ vh) {p : Addr} (hp : H p = none) : Off c ρ p := by
  refine ⟨fun z => ?_, fun z => ?_⟩
  · obtain ⟨o, e⟩ := h.live z
    rw [hp] at e; cases e
  · obtain ⟨⟨o, e⟩, _⟩ := h.hid p z
    rw [hp] at e; cases e
theorem Fm.new {p : Addr} {o : HO} (hp : H p = none) : Fm H (upd H p o) ρ := fun a u _ e => by rw [upd_ne (ne_of_none e hp)]; exact e
theorem Fm.same {H' : Hp} (s : Same H H') : Fm H H' ρ := fun a u _ e => s a u e
theorem RelO.stay {H' : Hp} {ρ' : Rho} (g : Grow ρ H ρ') (f : Fm H H' ρ) {vo : VO} {o : Option Addr} (s : ∀ a u, o = some a → H a = some u → H' a = some u) (h : RelO c H ρ vo o) : RelO c H' ρ' vo o := by
  cases vo with
  | dead => exact h
  | lst ds => obtain ⟨a, xs, e, hH, l, r⟩ := h; exact ⟨a, xs, e, s a _ e hH, l, r.stay g f⟩
  | dic t kvs => obtain ⟨a, xs, e, hH, r⟩ := h; exact ⟨a, xs, e, hH.to fun o q => s a o e q, r.stay g f⟩
  | ins n fs => obtain ⟨a, C, dx, xs, e, hm, hH, r⟩ := h; exact ⟨a, C, dx, xs, e, hm, s a _ e hH, r.stay g f⟩
theorem RelH.same {H' : Hp} (h : RelH c H ρ vh) (s : Same H H') : RelH c H' ρ vh where
  len := h.len
  inj := h.inj
  at' := fun i vo e => by
    obtain ⟨o, ho, r⟩ := h.at' i vo e
    exact ⟨o, ho, r.stay (Grow.refl _ _) (Fm.same s) fun a u _ q => s a u q⟩
  hid := fun a ha => let ⟨⟨o, e⟩, n⟩ := h.hid a ha; ⟨⟨o, s a o e⟩, n⟩
theorem same_upd {p : Addr} {o : HO} (hp : H p = none) : Same H (upd H p o) := fun a u e => by rw [upd_ne (ne_of_none e hp)]; exact e
/-- a new changeable object -/
theorem Grow.push {p : Addr} (hp : H p = none) : Grow ρ H (ρ ++ [some p]) where
  len := by simp
  old := fun i hi => .inl (by simp [List.getElem?_append_left, hi])
  new := fun a ha => by
    rcases List.mem_append.mp ha with h | h
    · exact .inl h
    · simp at h; subst h; exact .inr hp
theorem RelH.push {p : Addr} {o : HO} {vo : VO} (h : RelH c H ρ vh) (hp : H p = none) (r : RelO c (upd H p o) (ρ ++ [some p]) vo (some p)) : RelH c (upd H p o) (ρ ++ [some p]) (vh ++ [vo]) where
  len := by simp [h.len]
  inj := fun i j a hi hj => by
    by_cases li : i < ρ.length
    · rw [List.getElem?_append_left li] at hi
      by_cases lj : j < ρ.length
      · rw [List.getElem?_append_left lj] at hj; exact h.inj i j a hi hj
      · rw [List.getElem?_append_right (by omega)] at hj
        have : a = p := by
          cases q : j - ρ.length with
          | zero => rw [q] at hj; simpa using hj.symm
          | succ n => rw [q] at hj; simp at hj
        subst this
        exact absurd (List.mem_of_getElem? hi) (h.fresh hp).1
    · rw [List.getElem?_append_right (by omega)] at hi
      have e1 : i = ρ.length ∧ a = p := by
        cases q : i - ρ.length with
        | zero => rw [q] at hi; exact ⟨by omega, by simpa using hi.symm⟩
        | succ n => rw [q] at hi; simp at hi
      obtain ⟨e1, e2⟩ := e1
      subst e2
      by_cases lj : j < ρ.length
      · rw [List.getElem?_append_left lj] at hj
        exact absurd (List.mem_of_getElem? hj) (h.fresh hp).1
      · rw [List.getElem?_append_right (by omega)] at hj
        cases q : j - ρ.length with
        | zero => omega
        | succ n => rw [q] at hj; simp at hj
  at' := fun i vo' e => by
    by_cases li : i < vh.length
    · rw [List.getElem?_append_left li] at e
      obtain ⟨u, hu, r'⟩ := h.at' i vo' e
      refine ⟨u, by rw [List.getElem?_append_left (by rw [h.len]; exact li)]; exact hu, r'.stay (Grow.push hp) (Fm.new hp) fun a x _ q => same_upd hp a x q⟩
    · rw [List.getElem?_append_right (by omega)] at e
      cases q : i - vh.length with
      | zero =>
        rw [q] at e
        simp at e; subst e
        refine ⟨some p, ?_, r⟩
        rw [List.getElem?_append_right (by rw [h.len]; omega), h.len, q]; rfl
      | succ n => rw [q] at e; simp at e
  hid := fun a ha => by
    obtain ⟨⟨u, e⟩, n⟩ := h.hid a ha
    refine ⟨⟨u, same_upd hp a u e⟩, fun z => ?_⟩
    rcases List.mem_append.mp z with z | z
    · exact n z
    · simp at z; subst z; rw [hp] at e; cases e
end

/-! ### what may be read -/
def see (vh : VH) : W → Option D
  | .d x => some x
  | .ref k => match vh[k]? with
    | some (.lst ds) => some (.lst ds)
    | some (.dic t kvs) => some (.dic t kvs)
    | _ => none
@[simp] theorem see_d (vh : VH) (x : D) : see vh (.d x) = some x := rfl
/-- readable: as RelD, but the top may change later -/
def RelR (c : Cn) (H : Hp) (ρ : Rho) : D → V → Prop
  | .lst ds, v => ∃ a xs, v = .ref a ∧ H a = some (.lst xs) ∧ ds.length ≤ sizeLine ∧ RelDs c H ρ ds xs
  | .dic t kvs, v => ∃ a xs, v = .ref a ∧ HDic H a t kvs xs ∧ RelDv c H ρ kvs xs
  | x, v => RelD c H ρ x v
section
variable {c : Cn} {H : Hp} {ρ : Rho} {vh : VH}
theorem RelD.r : ∀ {x : D} {v : V}, RelD c H ρ x v → RelR c H ρ x v
  | .lst _, _, ⟨a, xs, e, _, hH, l, r⟩ => ⟨a, xs, e, hH, l, r⟩
  | .frz _, _, h => h
  | .dic _ _, _, ⟨a, xs, e, _, h⟩ => ⟨a, xs, e, h⟩
  | .non, _, h => h
  | .bl _, _, h => h
  | .int _, _, h => h
  | .str _, _, h => h
  | .tup _, _, h => h
  | .ctp _, _, h => h
  | .ins _ _, _, h => h
  | .ty _, _, h => h
  | .cls _, _, h => h
theorem see_ok {w : W} {v : V} {x : D} (hh : RelH c H ρ vh) (r : RelW c H ρ w v) (e : see vh w = some x) : RelR c H ρ x v := by
  cases w with
  | d y => cases e; exact RelD.r r
  | ref k =>
    obtain ⟨_, r2⟩ := r
    unfold see at e
    cases q : vh[k]? with
    | none => simp only [q] at e; cases e
    | some vo =>
      obtain ⟨o, ho, ro⟩ := hh.at' k vo q
      simp only [q] at e
      cases vo with
      | lst ds =>
        cases e
        obtain ⟨a, xs, rfl, hH, l, rr⟩ := ro
        exact ⟨a, xs, r2 a ho, hH, l, rr⟩
      | dic t kvs =>
        cases e
        obtain ⟨a, xs, rfl, hh⟩ := ro
        exact ⟨a, xs, r2 a ho, hh⟩
      | ins _ _ => cases e
      | dead => cases e
end
end Mn

namespace Mn
open PySem PySem.Spec PyProof.Rows L2

section
variable {c : Cn} {X : WX} {σ : L2.St} {H H1 : Hp} {ρ ρ1 : Rho} {e : Env} {vh : VH} {α β : Type}
theorem tM.mono {f : FE} {Q Q' : VK} (h : tM c X f σ H Q) (q : ∀ v H, Q v H → Q' v H) : tM c X f σ H Q' := by
  obtain ⟨e, ρ, vh, he, hh, o⟩ := h
  exact ⟨e, ρ, vh, he, hh, o.mono fun _ _ _ _ k v r => q _ _ (k v r)⟩
theorem tMT.mono {f : FT} {Q Q' : Bool → Hp → Prop} (h : tMT c X f σ H Q) (q : ∀ v H, Q v H → Q' v H) : tMT c X f σ H Q' := by
  obtain ⟨e, ρ, vh, he, hh, o⟩ := h
  exact ⟨e, ρ, vh, he, hh, o.mono fun _ _ _ _ k => q _ _ k⟩
theorem tMA.mono {f : FA} {Q Q' : List V → Hp → Prop} (h : tMA c X f σ H Q) (q : ∀ v H, Q v H → Q' v H) : tMA c X f σ H Q' := by
  obtain ⟨e, ρ, vh, he, hh, o⟩ := h
  exact ⟨e, ρ, vh, he, hh, o.mono fun _ _ _ _ k v r => q _ _ (k v r)⟩
abbrev KW (c : Cn) (Q : VK) : W → VH → Hp → Rho → Prop := fun w _ H' ρ' => ∀ v, RelW c H' ρ' w v → Q v H'
theorem opt_out {o : Option α} {k : α → Res β} {K : β → VH → Hp → Rho → Prop} (h : Out c σ H ρ X (opt o k) K) : ∃ a, o = some a ∧ Out c σ H ρ X (k a) K := by
  cases o with
  | none => exact h.elim
  | some a => exact ⟨a, rfl, h⟩
/-- the end of a pure operation -/
theorem pure_out {z : D} {Q : VK} (rh : RelH c H ρ vh) (h : Out c σ H ρ X (.ok (.d z) vh) (KW c Q)) : ∀ v' H', Same H H' → RelD c H' ρ z v' → Q v' H' :=
  fun v' H' s r => h H' ρ ⟨Nat.le_refl _, fun _ _ => .inl rfl, fun _ z => .inl z⟩ (Fm.same s) (rh.same s) v' r
end

/-! ### operations on data -/
def Fresh (c : Cn) (H : Hp) (ρ : Rho) : Prop := ∀ p, H p = none → Off c ρ p
/-- what holds of an outcome of data: told at any heap that grew -/
abbrev DK (c : Cn) (H : Hp) (ρ : Rho) (z : D) (Q : VK) : Prop := ∀ v' H', Same H H' → RelD c H' ρ z v' → Q v' H'
def OpD (c : Cn) (r : R2) (g : D → D → Option D) : Prop := ∀ H ρ x y v u z Q, Fresh c H ρ → RelR c H ρ x v → RelR c H ρ y u → g x y = some z → DK c H ρ z Q → r v u H Q
def UnD (c : Cn) (r : V → Hp → VK → Prop) (g : D → Option D) : Prop := ∀ H ρ x v z Q, Fresh c H ρ → RelR c H ρ x v → g x = some z → DK c H ρ z Q → r v H Q
def RelRs (c : Cn) (H : Hp) (ρ : Rho) : List D → List V → Prop
  | [], [] => True
  | d :: ds, v :: vs => RelR c H ρ d v ∧ RelRs c H ρ ds vs
  | _, _ => False
def CallD (c : Cn) (r : List V → Hp → VK → Prop) (g : List D → Option D) : Prop := ∀ H ρ xs vs z Q, Fresh c H ρ → RelRs c H ρ xs vs → g xs = some z → DK c H ρ z Q → r vs H Q

def mVar (i : Nat) : FE := fun e vh => match e[i]? with
  | some (some w) => .ok w vh
  | _ => .stuck
def mC (d : D) : FE := fun _ vh => .ok (.d d) vh
def mOp (g : D → D → Option D) (fa fb : FE) : FE := fun e vh => bnd (fa e vh) fun w1 vh1 => bnd (fb e vh1) fun w2 vh2 => opt (see vh2 w1) fun x => opt (see vh2 w2) fun y => opt (g x y) fun z => .ok (.d z) vh2
def mUn (g : D → Option D) (fa : FE) : FE := fun e vh => bnd (fa e vh) fun w1 vh1 => opt (see vh1 w1) fun x => opt (g x) fun z => .ok (.d z) vh1
/-- a comparison's chain a op b op' c -/
def mChain (g g' : D → D → Option D) (fa fb fc : FE) : FE := fun e vh => bnd (fa e vh) fun w1 vh1 => bnd (fb e vh1) fun w2 vh2 => opt (see vh2 w1) fun x => opt (see vh2 w2) fun y => opt (g x y) fun z => match z with
  | .bl true => bnd (fc e vh2) fun w3 vh3 => opt (see vh3 w2) fun y => opt (see vh3 w3) fun x3 => opt (g' y x3) fun z' => .ok (.d z') vh3
  | .bl false => .ok (.d (.bl false)) vh2
  | _ => .stuck
def isB (w : W) (vh : VH) : Res Bool := match w with
  | .d (.bl b) => .ok b vh
  | _ => .stuck
def mTest (f : FE) : FT := fun e vh => bnd (f e vh) isB
def mNotT (f : FT) : FT := fun e vh => bnd (f e vh) fun b vh1 => .ok (!b) vh1
def mAndT (f g : FT) : FT := fun e vh => bnd (f e vh) fun b vh1 => if b = true then g e vh1 else .ok false vh1
def mOrT (f g : FT) : FT := fun e vh => bnd (f e vh) fun b vh1 => if b = true then .ok true vh1 else g e vh1
def mIf (t : FT) (f g : FE) : FE := fun e vh => bnd (t e vh) fun b vh1 => if b = true then f e vh1 else g e vh1
def mAnd (f g : FE) : FE := fun e vh => bnd (f e vh) fun w vh1 => bnd (isB w vh1) fun b vh1 => if b = true then g e vh1 else .ok (.d (.bl false)) vh1
def mOr (f g : FE) : FE := fun e vh => bnd (f e vh) fun w vh1 => bnd (isB w vh1) fun b vh1 => if b = true then .ok (.d (.bl true)) vh1 else g e vh1
def mNot (f : FE) : FE := fun e vh => bnd (f e vh) fun w vh1 => bnd (isB w vh1) fun b vh1 => .ok (.d (.bl !b)) vh1
def mNil : FA := fun _ vh => .ok [] vh
def mCons (f : FE) (g : FA) : FA := fun e vh => bnd (f e vh) fun w vh1 => bnd (g e vh1) fun ws vh2 => .ok (w :: ws) vh2
/-- data alone -/
def datas : List W → Option (List D)
  | [] => some []
  | .d x :: r => match datas r with
    | some xs => some (x :: xs)
    | none => none
  | .ref _ :: _ => none
def sees (vh : VH) : List W → Option (List D)
  | [] => some []
  | w :: r => match see vh w, sees vh r with
    | some x, some xs => some (x :: xs)
    | _, _ => none
def mTup (f : FA) : FE := fun e vh => bnd (f e vh) fun ws vh1 => opt (datas ws) fun ds => if ds.length ≤ sizeLine then .ok (.d (.tup ds)) vh1 else .stuck
def mLst (f : FA) : FE := fun e vh => bnd (f e vh) fun ws vh1 => opt (datas ws) fun ds => if ds.length ≤ sizeLine then .ok (.d (.lst ds)) vh1 else .stuck
/-- a list that will change -/
def mLstM (f : FA) : FE := fun e vh => bnd (f e vh) fun ws vh1 => opt (datas ws) fun ds => if ds.length ≤ sizeLine then .ok (.ref vh1.length) (vh1 ++ [.lst ds]) else .stuck
/-- a builtin's call -/
def mBlt (g : List D → Option D) (f : FA) : FE := fun e vh => bnd (f e vh) fun ws vh1 => opt (sees vh1 ws) fun ds => opt (g ds) fun z => .ok (.d z) vh1

section
variable {c : Cn} {X : Cx} {U : WX} {a b d : Expr} {es : List Expr} {pos p : Pos}
theorem me_var (i : Nat) {x : Str} (hN : X.N[i]? = some x := by rfl) (hv : Vis X.env.scope x := by first | exact Or.inl rfl | exact Or.inr (Or.inl rfl) | exact Or.inr (Or.inr rfl)) (hd : (x == ("__debug__" : Str)) = false := by decide)
    (hcd : (x == ("__classdict__" : Str)) = false := by decide) : PE X (.Name x pos) (tM c U (mVar i)) := by
  refine pe_imp (pe_var hN hv hd hcd) fun σ H Q ⟨e, ρ, vh, he, hh, h⟩ => ?_
  unfold mVar at h
  cases q : e[i]? with
  | none => rw [q] at h; exact h.elim
  | some o => cases o with
    | none => rw [q] at h; exact h.elim
    | some w =>
      rw [q] at h
      obtain ⟨v, e1, r⟩ := he.get q
      exact ⟨v, e1, h.here hh v r⟩
theorem me_const {d : D} {v : V} (h : PE X a (tC v)) (r : ∀ H ρ, RelD c H ρ d v) : PE X a (tM c U (mC d)) := pe_imp h fun σ H Q ⟨e, ρ, vh, he, hh, h⟩ => h.here hh v (r H ρ)
theorem me_int {i : Int} {j : Nat} : PE X (.Constant (.int i) j pos) (tM c U (mC (.int i))) := me_const pe_int fun _ _ => rfl
theorem me_bl {b : Bool} {j : Nat} : PE X (.Constant (.bool b) j pos) (tM c U (mC (.bl b))) := me_const pe_bl fun _ _ => rfl
theorem me_non {j : Nat} : PE X (.Constant .none j pos) (tM c U (mC .non)) := me_const pe_non fun _ _ => rfl
theorem me_str {x : Str} {j : Nat} (hl : (decide (x.length ≤ sizeLine) && PyData.strOk x) = true := by decide +kernel) : PE X (.Constant (.str x) j pos) (tM c U (mC (.str x))) := me_const pe_str fun _ _ => by
  rw [Bool.and_eq_true, decide_eq_true_eq] at hl
  exact ⟨rfl, hl⟩
/-- a constant of the module -/
theorem me_glob {x : Str} {u : Value} {d : D} {v : V} (hg : Gl X x) (hm : X.mg x = some u) (r : RelV v u) (rd : ∀ H ρ, RelD c H ρ d v) (hdb : (x == ("__debug__" : Str)) = false := by decide) : PE X (.Name x pos) (tM c U (mC d)) := me_const (pe_glob hg hm r hdb) rd

section
variable {σ : L2.St} {H : Hp} {ρ : Rho} {vh : VH} {e : Env}
theorem RelH.fr (h : RelH c H ρ vh) : Fresh c H ρ := fun _ hp => h.fresh hp
theorem fin2 {r : R2} {g : D → D → Option D} (hd : OpD c r g) {w1 w2 : W} {v1 v2 : V} {Q : VK} (rh : RelH c H ρ vh) (r1 : RelW c H ρ w1 v1) (r2 : RelW c H ρ w2 v2)
    (h : Out c σ H ρ U (opt (see vh w1) fun x => opt (see vh w2) fun y => opt (g x y) fun z => .ok (.d z) vh) (KW c Q)) : r v1 v2 H Q := by
  obtain ⟨x, e1, h⟩ := opt_out h
  obtain ⟨y, e2, h⟩ := opt_out h
  obtain ⟨z, e3, h⟩ := opt_out h
  exact hd H ρ x y v1 v2 z Q rh.fr (see_ok rh r1 e1) (see_ok rh r2 e2) e3 (pure_out rh h)
theorem op_use {fa fb : FE} {r : R2} {g : D → D → Option D} (hd : OpD c r g) {Q : VK} (h : tM c U (mOp g fa fb) σ H Q) : tOp r (tM c U fa) (tM c U fb) σ H Q := by
  obtain ⟨e, ρ, vh, he, hh, h⟩ := h
  refine (use he hh h).mono fun v1 H1 ⟨w1, vh1, ρ1, r1, A, g1, f1⟩ => ?_
  refine (use A.re A.rh A.out).mono fun v2 H2 ⟨w2, vh2, ρ2, r2, B, g2, f2⟩ => ?_
  exact fin2 hd B.rh (r1.stay g2 f2) r2 B.out
end
theorem me_op {op : Operator} {r : R2} {g : D → D → Option D} {fa fb : FE} (ho : OpR X (binaryOp op) r) (hd : OpD c r g) (ha : PE X a (tM c U fa)) (hb : PE X b (tM c U fb)) : PE X (.BinOp a op b pos) (tM c U (mOp g fa fb)) :=
  pe_imp (pe_op ho ha hb) fun σ H Q h => op_use hd h
theorem me_cmp {op : CmpOp} {r : R2} {g : D → D → Option D} {fa fb : FE} (ho : OpR X (compareOp op) r) (hd : OpD c r g) (ha : PE X a (tM c U fa)) (hb : PE X b (tM c U fb)) (hm : behindInMarks op b = false) : PE X (.Compare a [op] [b] pos) (tM c U (mOp g fa fb)) :=
  pe_imp (pe_cmpR ho ha hb hm) fun σ H Q h => op_use hd h
theorem test_use {f : FE} {σ : L2.St} {H : Hp} {Q : Bool → Hp → Prop} (h : tMT c U (mTest f) σ H Q) : tM c U f σ H fun x H' => ∃ k, x = .bl k ∧ Q k H' := by
  obtain ⟨e, ρ, vh, he, hh, h⟩ := h
  refine (use he hh h).mono fun v1 H1 ⟨w1, vh1, ρ1, r1, A, g1, f1⟩ => ?_
  have o := A.out
  unfold isB at o
  split at o
  · exact ⟨_, r1, o.here A.rh⟩
  · exact o.elim
theorem mt_cmp {op : CmpOp} {r : R2} {g : D → D → Option D} {fa fb : FE} (ho : OpR X (compareOp op) r) (hd : OpD c r g) (ha : PE X a (tM c U fa)) (hb : PE X b (tM c U fb)) (hm : behindInMarks op b = false) : PT X (.Compare a [op] [b] pos) (tMT c U (mTest (mOp g fa fb))) :=
  pt_imp (pt_cmpR ho ha hb hm) fun σ H Q h => op_use hd (test_use h)
theorem chain_use {fa fb fc : FE} {r r' : R2} {g g' : D → D → Option D} (hd : OpD c r g) (hd' : OpD c r' g') {σ : L2.St} {H : Hp} {Q : VK} (h : tM c U (mChain g g' fa fb fc) σ H Q) : tChain r r' (tM c U fa) (tM c U fb) (tM c U fc) σ H Q := by
  obtain ⟨e, ρ, vh, he, hh, h⟩ := h
  refine (use he hh h).mono fun v1 H1 ⟨w1, vh1, ρ1, r1, A, g1, f1⟩ => ?_
  refine (use A.re A.rh A.out).mono fun v2 H2 ⟨w2, vh2, ρ2, r2, B, g2, f2⟩ => ?_
  obtain ⟨x, e1, o⟩ := opt_out B.out
  obtain ⟨y, e2, o⟩ := opt_out o
  obtain ⟨z, e3, o⟩ := opt_out o
  refine hd H2 ρ2 x y v1 v2 z _ B.rh.fr (see_ok B.rh (r1.stay g2 f2) e1) (see_ok B.rh r2 e2) e3 fun v' H' s rz => ?_
  cases z with
  | bl k =>
    refine ⟨k, rz, ?_⟩
    have gs : Grow ρ2 H2 ρ2 := Grow.refl _ _
    cases k with
    | true =>
      refine iteT ?_
      refine (use (B.re.stay gs (Fm.same s)) (B.rh.same s) (o.later gs (Fm.same s))).mono fun v3 H3 ⟨w3, vh3, ρ3, r3, C, g3, f3⟩ => ?_
      exact fin2 hd' C.rh ((r2.stay gs (Fm.same s)).stay g3 f3) r3 C.out
    | false =>
      refine iteF ?_
      exact pure_out B.rh o _ _ s rfl
  | _ => exact o.elim
theorem me_chain {op op' : CmpOp} {r r' : R2} {g g' : D → D → Option D} {fa fb fc : FE} (ho : OpR X (compareOp op) r) (hd : OpD c r g) (ho' : OpR X (compareOp op') r') (hd' : OpD c r' g') (ha : PE X a (tM c U fa)) (hb : PE X b (tM c U fb)) (hc : PE X d (tM c U fc)) (hm : lastMarks [op, op'] [b, d] = false := by rfl) :
    PE X (.Compare a [op, op'] [b, d] pos) (tM c U (mChain g g' fa fb fc)) := pe_imp (pe_chain ho ho' ha hb hc hm) fun σ H Q h => chain_use hd hd' h
theorem mt_chain {op op' : CmpOp} {r r' : R2} {g g' : D → D → Option D} {fa fb fc : FE} (ho : OpR X (compareOp op) r) (hd : OpD c r g) (ho' : OpR X (compareOp op') r') (hd' : OpD c r' g') (ha : PE X a (tM c U fa)) (hb : PE X b (tM c U fb)) (hc : PE X d (tM c U fc)) (hm : lastMarks [op, op'] [b, d] = false := by rfl) :
    PT X (.Compare a [op, op'] [b, d] pos) (tMT c U (mTest (mChain g g' fa fb fc))) := pt_imp (pt_chain ho ho' ha hb hc hm) fun σ H Q h => chain_use hd hd' (test_use h)
/-- a bool's value as a test -/
theorem mt_val {f : FE} (h : PE X a (tM c U f)) (he : ∀ whole, isTrue a X.env whole = (do let v ← whole; standAt a.pos; holding [v] (truthy v)) := by intro _; rfl) : PT X a (tMT c U (mTest f)) :=
  pt_imp (pt_val h he) fun σ H Q h => test_use h
theorem mt_not {f : FT} (h : PT X a (tMT c U f)) : PT X (.UnaryOp .Not a pos) (tMT c U (mNotT f)) := pt_imp (pt_not h) fun σ H Q ⟨e, ρ, vh, he, hh, h⟩ =>
  (useT he hh h).mono fun b H1 ⟨vh1, ρ1, A, _, _⟩ => A.out.here A.rh
theorem mw_and1 {f : FT} (h : PT X a (tMT c U f)) : PW X (.BoolOp .And [a] pos) (tMT c U f) := pw_and1 h
theorem mw_or1 {f : FT} (h : PT X a (tMT c U f)) : PW X (.BoolOp .Or [a] pos) (tMT c U f) := pw_or1 h
theorem mw_and {f g : FT} (ha : PT X a (tMT c U f)) (hb : PW X (.BoolOp .And (b :: es) pos) (tMT c U g)) : PW X (.BoolOp .And (a :: b :: es) pos) (tMT c U (mAndT f g)) := pw_imp (pw_and ha hb) fun σ H Q ⟨e, ρ, vh, he, hh, h⟩ =>
  (useT he hh h).mono fun b H1 ⟨vh1, ρ1, A, _, _⟩ => by
    have o := A.out
    cases b with
    | true => exact iteT ⟨e, ρ1, vh1, A.re, A.rh, o⟩
    | false => exact iteF (o.here A.rh)
theorem mw_or {f g : FT} (ha : PT X a (tMT c U f)) (hb : PW X (.BoolOp .Or (b :: es) pos) (tMT c U g)) : PW X (.BoolOp .Or (a :: b :: es) pos) (tMT c U (mOrT f g)) := pw_imp (pw_or ha hb) fun σ H Q ⟨e, ρ, vh, he, hh, h⟩ =>
  (useT he hh h).mono fun b H1 ⟨vh1, ρ1, A, _, _⟩ => by
    have o := A.out
    cases b with
    | true => exact iteT (o.here A.rh)
    | false => exact iteF ⟨e, ρ1, vh1, A.re, A.rh, o⟩
theorem me_ifExp {t : FT} {f g : FE} (hc : PT X d (tMT c U t)) (ha : PE X a (tM c U f)) (hb : PE X b (tM c U g)) : PE X (.IfExp d a b pos) (tM c U (mIf t f g)) := pe_imp (pe_ifExp hc ha hb) fun σ H Q ⟨e, ρ, vh, he, hh, h⟩ =>
  (useT he hh h).mono fun b H1 ⟨vh1, ρ1, A, _, _⟩ => by
    have o := A.out
    cases b with
    | true => exact iteT ⟨e, ρ1, vh1, A.re, A.rh, o⟩
    | false => exact iteF ⟨e, ρ1, vh1, A.re, A.rh, o⟩
theorem isB_out {w : W} {v : V} {σ : L2.St} {H : Hp} {ρ : Rho} {vh : VH} {β : Type} {k : Bool → VH → Res β} {K : β → VH → Hp → Rho → Prop} (r : RelW c H ρ w v) (h : Out c σ H ρ U (bnd (isB w vh) k) K) : ∃ b, v = .bl b ∧ Out c σ H ρ U (k b vh) K := by
  unfold isB at h
  split at h
  · exact ⟨_, r, h⟩
  · exact h.elim
theorem me_one {op : BoolOp} {f : FE} (h : PE X a (tM c U f)) : PE X (.BoolOp op [a] pos) (tM c U f) := pe_one h
theorem me_and {f g : FE} (ha : PE X a (tM c U f)) (hb : PE X (.BoolOp .And (b :: es) pos) (tM c U g)) : PE X (.BoolOp .And (a :: b :: es) pos) (tM c U (mAnd f g)) := pe_imp (pe_and ha hb) fun σ H Q ⟨e, ρ, vh, he, hh, h⟩ =>
  (use he hh h).mono fun v H1 ⟨w1, vh1, ρ1, r1, A, _, _⟩ => by
    obtain ⟨b, rfl, o⟩ := isB_out r1 A.out
    refine ⟨b, rfl, ?_⟩
    cases b with
    | true => exact iteT ⟨e, ρ1, vh1, A.re, A.rh, o⟩
    | false => exact iteF (o.here A.rh _ rfl)
theorem me_or {f g : FE} (ha : PE X a (tM c U f)) (hb : PE X (.BoolOp .Or (b :: es) pos) (tM c U g)) : PE X (.BoolOp .Or (a :: b :: es) pos) (tM c U (mOr f g)) := pe_imp (pe_or ha hb) fun σ H Q ⟨e, ρ, vh, he, hh, h⟩ =>
  (use he hh h).mono fun v H1 ⟨w1, vh1, ρ1, r1, A, _, _⟩ => by
    obtain ⟨b, rfl, o⟩ := isB_out r1 A.out
    refine ⟨b, rfl, ?_⟩
    cases b with
    | true => exact iteT (o.here A.rh _ rfl)
    | false => exact iteF ⟨e, ρ1, vh1, A.re, A.rh, o⟩
theorem me_not {f : FE} (ha : PE X a (tM c U f)) : PE X (.UnaryOp .Not a pos) (tM c U (mNot f)) := pe_imp (pe_not ha) fun σ H Q ⟨e, ρ, vh, he, hh, h⟩ =>
  (use he hh h).mono fun v H1 ⟨w1, vh1, ρ1, r1, A, _, _⟩ => by
    obtain ⟨b, rfl, o⟩ := isB_out r1 A.out
    exact ⟨b, rfl, o.here A.rh _ rfl⟩
theorem ma_nil : PA X [] (tMA c U mNil) := pa_imp pa_nil fun σ H Q ⟨e, ρ, vh, he, hh, h⟩ => h.here hh [] trivial
theorem ma_cons {f : FE} {g : FA} (ha : PE X a (tM c U f)) (hr : PA X es (tMA c U g)) (hs : starEach (a :: es) X.env = (false, eval a X.env) :: starEach es X.env := by rfl) : PA X (a :: es) (tMA c U (mCons f g)) :=
  pa_imp (pa_cons ha hr hs) fun σ H Q ⟨e, ρ, vh, he, hh, h⟩ =>
  (use he hh h).mono fun v H1 ⟨w1, vh1, ρ1, r1, A, _, _⟩ =>
    (useA A.re A.rh A.out).mono fun vs H2 ⟨ws, vh2, ρ2, rs, B, g2, f2⟩ => B.out.here B.rh (v :: vs) ⟨r1.stay g2 f2, rs⟩
theorem datas_ok {H : Hp} {ρ : Rho} : ∀ {ws : List W} {vs : List V} {ds : List D}, RelWs c H ρ ws vs → datas ws = some ds → RelDs c H ρ ds vs
  | [], [], ds, _, q => by cases q; trivial
  | .d x :: ws, v :: vs, ds, ⟨r, t⟩, q => by
    unfold datas at q
    split at q
    · rename_i xs hx
      cases q
      exact ⟨r, datas_ok t hx⟩
    · cases q
  | .ref _ :: _, _ :: _, _, _, q => by cases q
theorem sees_ok {H : Hp} {ρ : Rho} {vh : VH} (hh : RelH c H ρ vh) : ∀ {ws : List W} {vs : List V} {ds : List D}, RelWs c H ρ ws vs → sees vh ws = some ds → RelRs c H ρ ds vs
  | [], [], ds, _, q => by cases q; trivial
  | w :: ws, v :: vs, ds, ⟨r, t⟩, q => by
    unfold sees at q
    split at q
    · rename_i x xs h1 h2
      cases q
      exact ⟨see_ok hh r h1, sees_ok hh t h2⟩
    · cases q
theorem me_tup {x1 : Nat} {f : FA} (h : PA X es (tMA c U f)) : PE X (.Tuple es x1 pos) (tM c U (mTup f)) := pe_imp (pe_tup h) fun σ H Q ⟨e, ρ, vh, he, hh, h⟩ =>
  (useA he hh h).mono fun vs H1 ⟨ws, vh1, ρ1, rs, A, _, _⟩ => by
    obtain ⟨ds, e1, o⟩ := opt_out A.out
    have rd := datas_ok rs e1
    split at o
    · rename_i hl
      refine ⟨by rw [← rd.length]; exact hl, fun p hp => ?_⟩
      have s := same_upd (o := .tup vs) hp
      exact pure_out A.rh o _ _ s ⟨p, vs, rfl, A.rh.fresh hp, upd_same, hl, rd.stay (Grow.refl _ _) (Fm.same s)⟩
    · exact o.elim
theorem me_lst {f : FA} (h : PA X es (tMA c U f)) : PE X (.List es pos) (tM c U (mLst f)) := pe_imp (pe_lst h) fun σ H Q ⟨e, ρ, vh, he, hh, h⟩ =>
  (useA he hh h).mono fun vs H1 ⟨ws, vh1, ρ1, rs, A, _, _⟩ => by
    obtain ⟨ds, e1, o⟩ := opt_out A.out
    have rd := datas_ok rs e1
    split at o
    · rename_i hl
      refine ⟨by rw [← rd.length]; exact hl, fun p hp => ?_⟩
      have s := same_upd (o := .lst vs) hp
      exact pure_out A.rh o _ _ s ⟨p, vs, rfl, A.rh.fresh hp, upd_same, hl, rd.stay (Grow.refl _ _) (Fm.same s)⟩
    · exact o.elim
theorem push_lst {H : Hp} {ρ : Rho} {vh : VH} {ds : List D} {vs : List V} {p : Addr} (hh : RelH c H ρ vh) (hp : H p = none) (hl : ds.length ≤ sizeLine) (rd : RelDs c H ρ ds vs) : RelH c (upd H p (.lst vs)) (ρ ++ [some p]) (vh ++ [.lst ds]) :=
  hh.push hp ⟨p, vs, rfl, upd_same, hl, rd.stay (Grow.push hp) (Fm.new hp)⟩
theorem me_lstM {f : FA} (h : PA X es (tMA c U f)) : PE X (.List es pos) (tM c U (mLstM f)) := pe_imp (pe_lst h) fun σ H Q ⟨e, ρ, vh, he, hh, h⟩ =>
  (useA he hh h).mono fun vs H1 ⟨ws, vh1, ρ1, rs, A, _, _⟩ => by
    obtain ⟨ds, e1, o⟩ := opt_out A.out
    have rd := datas_ok rs e1
    split at o
    · rename_i hl
      refine ⟨by rw [← rd.length]; exact hl, fun p hp => ?_⟩
      refine o _ _ (Grow.push hp) (Fm.new hp) (push_lst A.rh hp hl rd) _ ⟨by simp [A.rh.len], fun a ha => ?_⟩
      rw [List.getElem?_append_right (by rw [A.rh.len]; omega), A.rh.len] at ha
      simp at ha; rw [ha]
    · exact o.elim
end
end Mn

namespace Mn
open PySem PySem.Spec PyProof.Rows L2

/-! ### statements -/
inductive RS where
  | nx (e : Env) (h : VH) | rt (w : W) (h : VH) | bk (e : Env) (h : VH) | ct (e : Env) (h : VH) | exn (x : Exn) (e : Env) (h : VH) | stuck
abbrev FS := Env → VH → RS
def OutS (c : Cn) (H : Hp) (ρ : Rho) (X : WX) (r : RS) (D : Ends) : Prop :=
  match r with
  | .nx e vh => ∀ σ' H' ρ', Grow ρ H ρ' → Fm H H' ρ → RelE c H' ρ' e σ' → RelH c H' ρ' vh → D.nx σ' H'
  | .bk e vh => ∀ σ' H' ρ', Grow ρ H ρ' → Fm H H' ρ → RelE c H' ρ' e σ' → RelH c H' ρ' vh → D.bk σ' H'
  | .ct e vh => ∀ σ' H' ρ', Grow ρ H ρ' → Fm H H' ρ → RelE c H' ρ' e σ' → RelH c H' ρ' vh → D.ct σ' H'
  | .rt w vh => ∀ v H' ρ', Grow ρ H ρ' → Fm H H' ρ → RelW c H' ρ' w v → RelH c H' ρ' vh → D.rt v H'
  | .exn x e vh => ∀ cls d σ' H' ρ', Grow ρ H ρ' → Fm H H' ρ → RelX c H' ρ' x cls d → RelE c H' ρ' e σ' → RelH c H' ρ' vh → X cls d σ' H'
  | .stuck => False
def tMS (c : Cn) (X : WX) (f : FS) : TS := fun D σ H => ∃ e ρ vh, RelE c H ρ e σ ∧ RelH c H ρ vh ∧ OutS c H ρ X (f e vh) D
/-- an expression's outcome in a statement -/
def lft {α : Type} (r : Res α) (e : Env) (k : α → VH → RS) : RS := match r with
  | .ok a h => k a h
  | .exn x h => .exn x e h
  | .stuck => .stuck
@[simp] theorem lft_ok {α : Type} (a : α) (h : VH) (e : Env) (k : α → VH → RS) : lft (.ok a h) e k = k a h := rfl
@[simp] theorem lft_exn {α : Type} (x : Exn) (h : VH) (e : Env) (k : α → VH → RS) : lft (.exn x h) e k = .exn x e h := rfl
@[simp] theorem lft_stuck {α : Type} (e : Env) (k : α → VH → RS) : lft .stuck e k = .stuck := rfl
def mSkip : FS := fun e vh => .nx e vh
def mSeq (f g : FS) : FS := fun e vh => match f e vh with
  | .nx e' vh' => g e' vh'
  | r => r
def mSet (i : Nat) (f : FE) : FS := fun e vh => lft (f e vh) e fun w vh' => .nx (e.set i (some w)) vh'
def mDo (f : FE) : FS := fun e vh => lft (f e vh) e fun _ vh' => .nx e vh'
def mRet (f : FE) : FS := fun e vh => lft (f e vh) e fun w vh' => .rt w vh'
def mRetN : FS := fun _ vh => .rt (.d .non) vh
def mIfS (t : FT) (f g : FS) : FS := fun e vh => lft (t e vh) e fun b vh' => if b = true then f e vh' else g e vh'
def mNever : FS := fun _ _ => .stuck
def mBreak : FS := fun e vh => .bk e vh
def mCont : FS := fun e vh => .ct e vh

section
variable {c : Cn} {X : WX} {σ : L2.St} {H H1 : Hp} {ρ ρ1 : Rho} {e : Env} {vh : VH} {α β : Type}
theorem OutS.later {r : RS} {D : Ends} (h : OutS c H ρ X r D) (g : Grow ρ H ρ1) (f : Fm H H1 ρ) : OutS c H1 ρ1 X r D := by
  cases r with
  | nx e vh => exact fun σ' H' ρ' g' f' => h σ' H' ρ' (g.trans f g') (Fm.trans g f f')
  | bk e vh => exact fun σ' H' ρ' g' f' => h σ' H' ρ' (g.trans f g') (Fm.trans g f f')
  | ct e vh => exact fun σ' H' ρ' g' f' => h σ' H' ρ' (g.trans f g') (Fm.trans g f f')
  | rt e vh => exact fun σ' H' ρ' g' f' => h σ' H' ρ' (g.trans f g') (Fm.trans g f f')
  | exn x e vh => exact fun cls d σ' H' ρ' g' f' => h cls d σ' H' ρ' (g.trans f g') (Fm.trans g f f')
  | stuck => exact h
theorem OutS.imp {r : RS} {D D' : Ends} (h : OutS c H ρ X r D) (n : ∀ σ H, D.nx σ H → D'.nx σ H) (b : ∀ σ H, D.bk σ H → D'.bk σ H) (t : ∀ σ H, D.ct σ H → D'.ct σ H) (q : ∀ v H, D.rt v H → D'.rt v H) : OutS c H ρ X r D' := by
  cases r with
  | nx e vh => exact fun σ' H' ρ' g' f' x y => n _ _ (h σ' H' ρ' g' f' x y)
  | bk e vh => exact fun σ' H' ρ' g' f' x y => b _ _ (h σ' H' ρ' g' f' x y)
  | ct e vh => exact fun σ' H' ρ' g' f' x y => t _ _ (h σ' H' ρ' g' f' x y)
  | rt e vh => exact fun σ' H' ρ' g' f' x y => q _ _ (h σ' H' ρ' g' f' x y)
  | exn x e vh => exact h
  | stuck => exact h
theorem OutS.here {D : Ends} (h : OutS c H ρ X (.nx e vh) D) (re : RelE c H ρ e σ) (rh : RelH c H ρ vh) : D.nx σ H := h σ H ρ (Grow.refl _ _) (Fm.refl _ _) re rh
/-- what stands behind a part of a statement -/
structure AftS (c : Cn) (X : WX) (σ : L2.St) (e : Env) (H1 : Hp) (ρ1 : Rho) (vh1 : VH) (r : RS) (D : Ends) : Prop where
  re : RelE c H1 ρ1 e σ
  rh : RelH c H1 ρ1 vh1
  out : OutS c H1 ρ1 X r D
theorem useS {f : FE} {k : W → VH → RS} {D : Ends} (he : RelE c H ρ e σ) (hh : RelH c H ρ vh) (h : OutS c H ρ X (lft (f e vh) e k) D) :
    tM c X f σ H fun v H1 => ∃ w vh1 ρ1, RelW c H1 ρ1 w v ∧ AftS c X σ e H1 ρ1 vh1 (k w vh1) D ∧ Grow ρ H ρ1 ∧ Fm H H1 ρ := by
  refine ⟨e, ρ, vh, he, hh, ?_⟩
  cases q : f e vh with
  | ok w vh' =>
    rw [q] at h
    exact fun H' ρ' g fm rh v rw' => ⟨w, vh', ρ', rw', ⟨he.stay g fm, rh, h.later g fm⟩, g, fm⟩
  | exn x vh' => rw [q] at h; exact fun cls d H' ρ' g fm rx rh => h cls d σ H' ρ' g fm rx (he.stay g fm) rh
  | stuck => rw [q] at h; exact h
theorem useST {f : FT} {k : Bool → VH → RS} {D : Ends} (he : RelE c H ρ e σ) (hh : RelH c H ρ vh) (h : OutS c H ρ X (lft (f e vh) e k) D) :
    tMT c X f σ H fun b H1 => ∃ vh1 ρ1, AftS c X σ e H1 ρ1 vh1 (k b vh1) D ∧ Grow ρ H ρ1 ∧ Fm H H1 ρ := by
  refine ⟨e, ρ, vh, he, hh, ?_⟩
  cases q : f e vh with
  | ok w vh' =>
    rw [q] at h
    exact fun H' ρ' g fm rh => ⟨vh', ρ', ⟨he.stay g fm, rh, h.later g fm⟩, g, fm⟩
  | exn x vh' => rw [q] at h; exact fun cls d H' ρ' g fm rx rh => h cls d σ H' ρ' g fm rx (he.stay g fm) rh
  | stuck => rw [q] at h; exact h
theorem useSA {f : FA} {k : List W → VH → RS} {D : Ends} (he : RelE c H ρ e σ) (hh : RelH c H ρ vh) (h : OutS c H ρ X (lft (f e vh) e k) D) :
    tMA c X f σ H fun vs H1 => ∃ ws vh1 ρ1, RelWs c H1 ρ1 ws vs ∧ AftS c X σ e H1 ρ1 vh1 (k ws vh1) D ∧ Grow ρ H ρ1 ∧ Fm H H1 ρ := by
  refine ⟨e, ρ, vh, he, hh, ?_⟩
  cases q : f e vh with
  | ok w vh' =>
    rw [q] at h
    exact fun H' ρ' g fm rh vs rw' => ⟨w, vh', ρ', rw', ⟨he.stay g fm, rh, h.later g fm⟩, g, fm⟩
  | exn x vh' => rw [q] at h; exact fun cls d H' ρ' g fm rx rh => h cls d σ H' ρ' g fm rx (he.stay g fm) rh
  | stuck => rw [q] at h; exact h
end

section
variable {c : Cn} {X : Cx} {U : WX} {a b d : Expr} {es : List Expr} {st : Stmt} {sts : List Stmt} {pos p : Pos}
theorem mss_nil : PSs X [] (tMS c U mSkip) := pss_imp pss_nil fun D σ H ⟨e, ρ, vh, he, hh, h⟩ => h.here he hh
theorem mss_cons {f g : FS} (h1 : PS X st (tMS c U f)) (h2 : PSs X sts (tMS c U g)) : PSs X (st :: sts) (tMS c U (mSeq f g)) := pss_imp (pss_cons h1 h2) fun D σ H ⟨e, ρ, vh, he, hh, h⟩ => by
  refine ⟨e, ρ, vh, he, hh, ?_⟩
  unfold mSeq at h
  cases q : f e vh with
  | nx e' vh' => rw [q] at h; exact fun σ' H' ρ' g' f' x y => ⟨e', ρ', vh', x, y, h.later g' f'⟩
  | bk e' vh' => rw [q] at h; exact h
  | ct e' vh' => rw [q] at h; exact h
  | rt e' vh' => rw [q] at h; exact h
  | exn x e' vh' => rw [q] at h; exact h
  | stuck => rw [q] at h; exact h
theorem mss_one {f : FS} (h : PS X st (tMS c U f)) : PSs X [st] (tMS c U f) := pss_one h
theorem ms_set (i : Nat) {x : Str} {f : FE} {pos' : Pos} (hN : X.N.Nodup) (ha : PE X a (tM c U f)) (hi : X.N[i]? = some x := by rfl) (hx : Loc X.env.scope x := by first | exact Or.inl rfl | exact Or.inr rfl)
    (hs : swapsWith a (some (.Name x pos')) pos.line X.env = pure false := by rfl) (hf : X.fn x = true ∨ X.env.scope.names.lookup x = some .local := by first | exact .inl rfl | exact .inr rfl) : PS X (.Assign [.Name x pos'] a pos) (tMS c U (mSet i f)) :=
  ps_imp (ps_set hN hi hx ha hs hf) fun D σ H ⟨e, ρ, vh, he, hh, h⟩ => (useS he hh h).mono fun v H1 ⟨w, vh1, ρ1, r, A, _, _⟩ => A.out.here (A.re.set r) A.rh
theorem ms_expr {f : FE} (ha : PE X a (tM c U f)) (hs : swapsWith a none pos.line X.env = pure false := by rfl) : PS X (.Expr a pos) (tMS c U (mDo f)) :=
  ps_imp (ps_expr ha hs) fun D σ H ⟨e, ρ, vh, he, hh, h⟩ => (useS he hh h).mono fun v H1 ⟨w, vh1, ρ1, r, A, _, _⟩ => A.out.here A.re A.rh
theorem ms_ret {f : FE} (ha : PE X a (tM c U f)) : PS X (.Return (some a) pos) (tMS c U (mRet f)) :=
  ps_imp (ps_ret ha) fun D σ H ⟨e, ρ, vh, he, hh, h⟩ => (useS he hh h).mono fun v H1 ⟨w, vh1, ρ1, r, A, _, _⟩ => A.out v H1 ρ1 (Grow.refl _ _) (Fm.refl _ _) r A.rh
theorem ms_retN : PS X (.Return none pos) (tMS c U mRetN) := ps_imp ps_retN fun D σ H ⟨e, ρ, vh, he, hh, h⟩ => h .non H ρ (Grow.refl _ _) (Fm.refl _ _) rfl hh
theorem ms_if {t : FT} {f g : FS} {A B : List Stmt} (hc : PT X d (tMT c U t)) (ha : PSs X A (tMS c U f)) (hb : PSs X B (tMS c U g)) : PS X (.If d A B pos) (tMS c U (mIfS t f g)) :=
  ps_imp (ps_if hc ha hb) fun D σ H ⟨e, ρ, vh, he, hh, h⟩ => (useST he hh h).mono fun b H1 ⟨vh1, ρ1, A, _, _⟩ => by
    have o := A.out
    cases b with
    | true => exact iteT ⟨e, ρ1, vh1, A.re, A.rh, o⟩
    | false => exact iteF ⟨e, ρ1, vh1, A.re, A.rh, o⟩
theorem ms_pass : PS X (.Pass pos) (tMS c U mSkip) := ps_imp ps_pass fun D σ H ⟨e, ρ, vh, he, hh, h⟩ => h.here he hh
theorem ms_break : PS X (.Break pos) (tMS c U mBreak) := ps_imp ps_break fun D σ H ⟨e, ρ, vh, he, hh, h⟩ => h σ H ρ (Grow.refl _ _) (Fm.refl _ _) he hh
theorem ms_continue : PS X (.Continue pos) (tMS c U mCont) := ps_imp ps_continue fun D σ H ⟨e, ρ, vh, he, hh, h⟩ => h σ H ρ (Grow.refl _ _) (Fm.refl _ _) he hh
theorem ms_never : PS X st (tMS c U mNever) := ps_imp ps_never fun D σ H ⟨e, ρ, vh, he, hh, h⟩ => h
theorem mss_never : PSs X sts (tMS c U mNever) := pss_imp pss_never fun D σ H ⟨e, ρ, vh, he, hh, h⟩ => h
theorem me_never : PE X a (tM c U fun _ _ => .stuck) := ⟨fun _ _ _ _ _ _ ⟨e, ρ, vh, he, hh, h⟩ => h.elim⟩
end

/-! ### defs -/
abbrev FN := List W → VH → Res W
def entry (np nn : Nat) (ws : List W) : Env := ws.map some ++ List.replicate (nn - np) none
def mFn (np nn : Nat) (f : FS) : FN := fun ws vh => if ws.length = np then match f (entry np nn ws) vh with
  | .nx _ vh' => .ok (.d .non) vh'
  | .rt w vh' => .ok w vh'
  | .exn x _ vh' => .exn x vh'
  | _ => .stuck else .stuck
def spM (K : PySem.W.Frag) (mg : Str → Option Value) (F : FN) : Sp := fun vs H Q E => ∃ c : Cn, c.K = K ∧ c.mg = mg ∧ ∃ ws ρ vh, RelWs c H ρ ws vs ∧ RelH c H ρ vh ∧ Out c [] H ρ (fun cls d _ H' => E cls d H') (F ws vh) (KW c Q)
theorem entry_rel {c : Cn} {H : Hp} {ρ : Rho} {np : Nat} {N : List Str} : ∀ {ws : List W} {vs : List V}, RelWs c H ρ ws vs → RelE c H ρ (ws.map some ++ List.replicate (N.length - vs.length) none) (L2.start N vs) := by
  intro ws vs h
  unfold L2.start
  generalize N.length - vs.length = k
  induction ws generalizing vs with
  | nil => cases vs with
    | nil =>
      simp only [List.map_nil, List.nil_append]
      induction k with
      | zero => trivial
      | succ k ih => exact ih
    | cons _ _ => exact h.elim
  | cons w ws ih => cases vs with
    | nil => exact h.elim
    | cons v vs => exact ⟨h.1, ih h.2⟩
theorem FnOk.m {P : Program} {w : World} {K : PySem.W.Frag} {mg : Str → Option Value} {base : Heap} {x qual : Str} {st : Stmt} {f : Addr} {fd : FuncData} {N ps : List Str} {k : Nat} {g : FS} (F : Fun K x qual st f fd) (S : FnScope N ps (defScope st))
    (hbody : ∀ (cdv : Value) (A : Around) (outer : List PySem.Env) (s : Shared) (H : Hp) (E : XK), Room k (A.deeper (envOfC qual (defScope st) s.heap.objs.size f cdv)) → Takes (cxOf (L2.CX P w) P w K mg base N qual (defScope st) f cdv A outer s H E) (fun cls d _ H => E cls d H) →
      ∀ hid, PSs (cxOf (L2.CX P w) P w K mg base N qual (defScope st) f cdv A outer s H E) (defBody st) (tMS ⟨K, mg, hid⟩ (fun cls d _ H => E cls d H) g)) : FnOk P w K mg base (L2.CX P w) (k + 1) f fd ps (spM K mg (mFn ps.length N.length g)) := by
  refine F.okX S (fun vs H Q E ⟨c, hk, hm, ws, ρ, vh, rs, hh, h⟩ => ?_) fun cdv A outer s H vs Q E hr h => ?_
  · unfold mFn at h
    split at h
    · rename_i e; rw [← rs.length, e]
    · exact h.elim
  · obtain ⟨⟨K', mg', hid⟩, rfl, rfl, ws, ρ, vh, rs, hh, h⟩ := h
    refine ⟨_, hbody cdv A outer s H E hr (takes_of rfl rfl rfl rfl) hid, ?_⟩
    unfold mFn at h
    split at h
    · rename_i e
      refine ⟨_, ρ, vh, entry_rel (np := ps.length) rs, hh, ?_⟩
      have e2 : entry ps.length N.length ws = ws.map some ++ List.replicate (N.length - vs.length) none := by unfold entry; rw [← rs.length, e]
      rw [← e2]
      cases q : g (entry ps.length N.length ws) vh with
      | nx e' vh' => rw [q] at h; exact fun σ' H' ρ' g' f' x y => h H' ρ' g' f' y .non rfl
      | bk e' vh' => rw [q] at h; exact h.elim
      | ct e' vh' => rw [q] at h; exact h.elim
      | rt w vh' => rw [q] at h; exact fun v H' ρ' g' f' x y => h H' ρ' g' f' y v x
      | exn x e' vh' => rw [q] at h; exact fun cls d σ' H' ρ' g' f' x y z => h cls d H' ρ' g' f' x z
      | stuck => rw [q] at h; exact h.elim
    · exact h.elim

/-! ### shutting: what is handed back is frozen, what was made is dropped -/
def okRef (n : Nat) : VO → Bool
  | .ins _ fs => fs.all fun f => match f.2 with
    | .ref k => decide (k < n)
    | .d _ => true
  | _ => true
def tame (n : Nat) (vh : VH) : Bool := (vh.take n).all (okRef n)
def froz (n : Nat) (vh : VH) : W → Option W
  | .d x => some (.d x)
  | .ref k => if k < n then some (.ref k) else match vh[k]? with
    | some (.lst ds) => some (.d (.lst ds))
    | some (.dic t kvs) => some (.d (.dic t kvs))
    | _ => none
def mShut (F : FN) : FN := fun ws vh => match F ws vh with
  | .ok w vh' => if vh.length ≤ vh'.length ∧ tame vh.length vh' = true then opt (froz vh.length vh' w) fun z => .ok z (vh'.take vh.length) else .stuck
  | .exn x vh' => if vh.length ≤ vh'.length ∧ tame vh.length vh' = true then .exn x (vh'.take vh.length) else .stuck
  | .stuck => .stuck

section
variable {c : Cn} {H : Hp} {ρ ρ2 : Rho}
theorem LOk.less (s : ∀ a, some a ∈ ρ2 → some a ∈ ρ) {a : Addr} {xs : List V} (h : LOk c H ρ a xs) : LOk c H ρ2 a xs := h.elim (fun z => .inl ⟨⟨fun y => z.1.1 (s _ y), z.1.2⟩, z.2⟩) .inr
mutual
theorem RelD.less (s : ∀ a, some a ∈ ρ2 → some a ∈ ρ) : ∀ {x : D} {v : V}, RelD c H ρ x v → RelD c H ρ2 x v
  | .non, _, h => h
  | .bl _, _, h => h
  | .int _, _, h => h
  | .str _, _, h => h
  | .tup _, _, ⟨a, xs, e, n, hH, l, r⟩ => ⟨a, xs, e, ⟨fun y => n.1 (s _ y), n.2⟩, hH, l, RelDs.less s r⟩
  | .ctp _, _, ⟨a, xs, e, t, l, r⟩ => ⟨a, xs, e, t, l, RelDs.less s r⟩
  | .lst _, _, ⟨a, xs, e, n, hH, l, r⟩ => ⟨a, xs, e, ⟨fun y => n.1 (s _ y), n.2⟩, hH, l, RelDs.less s r⟩
  | .frz _, _, ⟨a, xs, e, t, l, r⟩ => ⟨a, xs, e, t.less s, l, RelDs.less s r⟩
  | .dic _ _, _, ⟨a, xs, e, n, hH, r⟩ => ⟨a, xs, e, ⟨fun y => n.1 (s _ y), n.2⟩, hH, RelDv.less s r⟩
  | .ins _ _, _, ⟨a, C, dx, xs, e, n, hm, hH, r⟩ => ⟨a, C, dx, xs, e, ⟨fun y => n.1 (s _ y), n.2⟩, hm, hH, RelDf.less s r⟩
  | .ty _, _, h => h
  | .cls _, _, h => h
theorem RelDs.less (s : ∀ a, some a ∈ ρ2 → some a ∈ ρ) : ∀ {xs : List D} {vs : List V}, RelDs c H ρ xs vs → RelDs c H ρ2 xs vs
  | [], [], h => trivial
  | _ :: _, _ :: _, ⟨h, t⟩ => ⟨RelD.less s h, RelDs.less s t⟩
theorem RelDv.less (s : ∀ a, some a ∈ ρ2 → some a ∈ ρ) : ∀ {xs : List (D × D)} {vs : List V}, RelDv c H ρ xs vs → RelDv c H ρ2 xs vs
  | [], [], h => trivial
  | (_, _) :: _, _ :: _, ⟨h, t⟩ => ⟨RelD.less s h, RelDv.less s t⟩
theorem RelDf.less (s : ∀ a, some a ∈ ρ2 → some a ∈ ρ) : ∀ {xs : List (Str × D)} {vs : List V}, RelDf c H ρ xs vs → RelDf c H ρ2 xs vs
  | [], [], h => trivial
  | (_, _) :: _, _ :: _, ⟨h, t⟩ => ⟨RelD.less s h, RelDf.less s t⟩
end
theorem take_sub {n : Nat} : ∀ a, some a ∈ ρ.take n → some a ∈ ρ := fun a h => List.mem_of_mem_take h
theorem RelWf.take {n : Nat} (hn : n ≤ ρ.length) : ∀ {fs : List (Str × W)} {xs : List V}, (fs.all fun f => match f.2 with | .ref k => decide (k < n) | .d _ => true) = true → RelWf c H ρ fs xs → RelWf c H (ρ.take n) fs xs
  | [], [], _, _ => trivial
  | (_, .d x) :: fs, v :: xs, h, ⟨r, t⟩ => ⟨RelD.less take_sub r, RelWf.take hn (by simpa using h) t⟩
  | (_, .ref k) :: fs, v :: xs, h, ⟨⟨r1, r2⟩, t⟩ => by
    rw [List.all_cons, Bool.and_eq_true] at h
    have hk : k < n := by simpa using h.1
    exact ⟨⟨by rw [List.length_take]; omega, fun a ha => r2 a (by rwa [List.getElem?_take_of_lt hk] at ha)⟩, RelWf.take hn h.2 t⟩
theorem RelO.take {n : Nat} (hn : n ≤ ρ.length) {vo : VO} {o : Option Addr} (k : okRef n vo = true) (h : RelO c H ρ vo o) : RelO c H (ρ.take n) vo o := by
  cases vo with
  | dead => exact h
  | lst ds => obtain ⟨a, xs, e, hH, l, r⟩ := h; exact ⟨a, xs, e, hH, l, r.less take_sub⟩
  | dic t kvs => obtain ⟨a, xs, e, hH, r⟩ := h; exact ⟨a, xs, e, hH, r.less take_sub⟩
  | ins n fs => obtain ⟨a, C, dx, xs, e, hm, hH, r⟩ := h; exact ⟨a, C, dx, xs, e, hm, hH, r.take hn k⟩
theorem RelH.take {n : Nat} {vh : VH} (h : RelH c H ρ vh) (hn : n ≤ vh.length) (k : tame n vh = true) : RelH c H (ρ.take n) (vh.take n) where
  len := by rw [List.length_take, List.length_take, h.len]
  inj := fun i j a hi hj => h.inj i j a (by
    by_cases l : i < n
    · rwa [List.getElem?_take_of_lt l] at hi
    · rw [List.getElem?_take, if_neg l] at hi; cases hi) (by
    by_cases l : j < n
    · rwa [List.getElem?_take_of_lt l] at hj
    · rw [List.getElem?_take, if_neg l] at hj; cases hj)
  at' := fun i vo e => by
    by_cases l : i < n
    · have e' := e
      rw [List.getElem?_take_of_lt l] at e
      obtain ⟨o, ho, r⟩ := h.at' i vo e
      refine ⟨o, by rw [List.getElem?_take_of_lt l]; exact ho, r.take (by rw [h.len]; exact hn) ?_⟩
      exact List.all_eq_true.mp k vo (List.mem_of_getElem? e')
    · rw [List.getElem?_take, if_neg l] at e; cases e
  hid := fun a ha => let ⟨e, n⟩ := h.hid a ha; ⟨e, fun z => n (take_sub a z)⟩
theorem Grow.take {n : Nat} {ρ' : Rho} (g : Grow ρ H ρ') (hn : n = ρ.length) : Grow ρ H (ρ'.take n) where
  len := by have := g.len; rw [List.length_take]; omega
  old := fun i hi => by rw [List.getElem?_take_of_lt (by omega)]; exact g.old i hi
  new := fun a h => g.new a (take_sub a h)
theorem RelDf.less' (s : ∀ a, some a ∈ ρ2 → some a ∈ ρ) {x : Exn} {cls : Value} {d : Option Addr} (h : RelX c H ρ x cls d) : RelX c H ρ2 x cls d := by
  obtain ⟨hm, dd, gs, e, n, hH, r⟩ := h
  exact ⟨hm, dd, gs, e, ⟨fun z => n.1 (s _ z), n.2⟩, hH, r.less s⟩
theorem shut_out {σ : L2.St} {X : WX} {F : FN} {ws : List W} {vh : VH} {Q : VK} (hh : RelH c H ρ vh) (h : Out c σ H ρ X (mShut F ws vh) (KW c Q)) : Out c σ H ρ X (F ws vh) (KW c Q) := by
  unfold mShut at h
  cases q : F ws vh with
  | ok w vh' =>
    simp only [q] at h
    split at h
    · rename_i hk
      obtain ⟨z, hz, h⟩ := opt_out h
      intro H' ρ' g f rh v rw'
      refine h H' (ρ'.take vh.length) (g.take hh.len.symm) f (rh.take hk.1 hk.2) v ?_
      cases w with
      | d x => cases hz; exact RelD.less take_sub rw'
      | ref k =>
        obtain ⟨r1, r2⟩ := rw'
        simp only [froz] at hz
        split at hz
        · rename_i lk
          cases hz
          exact ⟨by rw [List.length_take]; omega, fun a ha => r2 a (by rwa [List.getElem?_take_of_lt lk] at ha)⟩
        · rename_i lk
          have hnot : ∀ a, ρ'[k]? = some (some a) → some a ∉ ρ'.take vh.length := fun a ha hm => by
            obtain ⟨j, hj, e⟩ := List.mem_iff_getElem.mp hm
            have hj' : j < vh.length := by have hj2 := hj; rw [List.length_take] at hj2; omega
            have e2 : ρ'[j]? = some (some a) := by
              rw [← List.getElem?_take_of_lt hj', List.getElem?_eq_getElem hj, e]
            have e3 := rh.inj _ _ _ ha e2
            exact lk (by omega)
          cases qq : vh'[k]? with
          | none => simp only [qq] at hz; cases hz
          | some vo =>
            obtain ⟨o, ho, ro⟩ := rh.at' k vo qq
            simp only [qq] at hz
            cases vo with
            | lst ds =>
              cases hz
              obtain ⟨a, xs, rfl, hH, l, rr⟩ := ro
              exact ⟨a, xs, r2 a ho, ⟨hnot a ho, fun z => (rh.hid a z).2 (List.mem_of_getElem? ho)⟩, hH, l, rr.less take_sub⟩
            | dic t kvs =>
              cases hz
              obtain ⟨a, xs, rfl, hH, rr⟩ := ro
              exact ⟨a, xs, r2 a ho, ⟨hnot a ho, fun z => (rh.hid a z).2 (List.mem_of_getElem? ho)⟩, hH, rr.less take_sub⟩
            | ins _ _ => cases hz
            | dead => cases hz
    · exact h.elim
  | exn x vh' =>
    simp only [q] at h
    split at h
    · rename_i hk
      exact fun cls d H' ρ' g f rx rh => h cls d H' (ρ'.take vh.length) (g.take hh.len.symm) f (RelDf.less' take_sub rx) (rh.take hk.1 hk.2)
    · exact h.elim
  | stuck => simp only [q] at h; exact h
end
theorem spM.shut {K : PySem.W.Frag} {mg : Str → Option Value} {F : FN} : ∀ vs H Q E, spM K mg (mShut F) vs H Q E → spM K mg F vs H Q E := fun vs H Q E ⟨c, hk, hm, ws, ρ, vh, rs, hh, h⟩ => ⟨c, hk, hm, ws, ρ, vh, rs, hh, shut_out hh h⟩
theorem FnOk.shut {P : Program} {w : World} {K : PySem.W.Frag} {mg : Str → Option Value} {base : Heap} {f : Addr} {fd : FuncData} {ps : List Str} {k : Nat} {F : FN} {CX : CXT} (h : FnOk P w K mg base CX k f fd ps (spM K mg F)) : FnOk P w K mg base CX k f fd ps (spM K mg (mShut F)) :=
  h.imp spM.shut
/-- the same function -/
theorem FnOk.eqM {P : Program} {w : World} {K : PySem.W.Frag} {mg : Str → Option Value} {base : Heap} {f : Addr} {fd : FuncData} {ps : List Str} {k : Nat} {F G : FN} {CX : CXT} (h : FnOk P w K mg base CX k f fd ps (spM K mg F)) (e : F = G) : FnOk P w K mg base CX k f fd ps (spM K mg G) := e ▸ h

/-! ### calls -/
def mCall (F : FN) (dws : List W) (fa : FA) : FE := fun e vh => bnd (fa e vh) fun ws vh1 => F (ws ++ dws) vh1
section
variable {c : Cn} {X : Cx} {U : WX} {e : Expr} {es : List Expr} {pos p : Pos} {F : FN} {f : Addr} {fd : FuncData} {ps : List Str} {k : Nat} {x : Str} {ds : List Value} {dvs : List V} {dws : List W} {fa : FA}
theorem RelWs.append {H : Hp} {ρ : Rho} : ∀ {xs ys : List W} {vs us : List V}, RelWs c H ρ xs vs → RelWs c H ρ ys us → RelWs c H ρ (xs ++ ys) (vs ++ us)
  | [], _, [], _, _, s => s
  | _ :: _, _, _ :: _, _, ⟨h, t⟩, s => ⟨h, RelWs.append t s⟩
theorem Out.sigma {α : Type} {σ τ : L2.St} {H : Hp} {ρ : Rho} {E : XK} {r : Res α} {K : α → VH → Hp → Rho → Prop} (h : Out c σ H ρ U r K) (he : ∀ cls d H, U cls d σ H → E cls d H) : Out c τ H ρ (fun cls d _ H' => E cls d H') r K := by
  cases r with
  | ok w vh => exact h
  | exn x vh => exact fun cls d H' ρ' g f rx rh => he _ _ _ (h cls d H' ρ' g f rx rh)
  | stuck => exact h
theorem me_call (hc : c.K = X.K) (hcm : c.mg = X.mg) (G : FnOk X.prog X.w X.K X.mg X.base (L2.CX X.prog X.w) k f fd ps (spM X.K X.mg F)) (hr : Room k X.A) (tk : Takes X U) (hg : Gl X x) (hm : X.mg x = some (.ref f)) (hk : PySem.W.keepIn X.K (.ref f) = true) (hb : Binds X.K fd ps ds) (hd : Vals dvs ds) (hdw : ∀ H ρ, RelWs c H ρ dws dvs)
    (ha : PA X (e :: es) (tMA c U fa)) (hdb : (x == ("__debug__" : Str)) = false := by decide) (he : starEach (e :: es) X.env = (false, eval e X.env) :: starEach es X.env := by rfl) (hpl : (backTo pos (starEach es X.env)).any (·.1) = false := by rfl) :
    PE X (.Call (.Name x p) (e :: es) [] pos) (tM c U (mCall F dws fa)) :=
  pe_imp (pe_callSD G hr hg hm hk hb hd (passAt tk) ha hdb he hpl) fun σ H Q ⟨e, ρ, vh, hE, hh, h⟩ =>
    (useA hE hh h).mono fun vs H1 ⟨ws, vh1, ρ1, rs, A, _, _⟩ => ⟨c, hc, hcm, ws ++ dws, ρ1, vh1, rs.append (hdw _ _), A.rh, A.out.sigma (τ := []) fun _ _ _ h => h⟩
end
end Mn

namespace Mn
open PySem PySem.Spec PyProof.Rows L2

/-! ### data as the library's PyData -/
mutual
def toPy : D → Option PyData
  | .non => some .none
  | .bl b => some (.bool b)
  | .int i => some (.int i)
  | .str x => some (.str x)
  | .tup ds => (toPys ds).map .tuple
  | .ctp ds => (toPys ds).map .tuple
  | .lst ds => (toPys ds).map .list
  | _ => none
def toPys : List D → Option (List PyData)
  | [] => some []
  | d :: ds => match toPy d, toPys ds with
    | some p, some ps => some (p :: ps)
    | _, _ => none
end
section
variable {c : Cn} {H : Hp} {ρ : Rho}
mutual
theorem dp_of : ∀ {x : D} {v : V} {p : PyData}, RelD c H ρ x v → toPy x = some p → Dp c.K H v p ∧ p.canLay0 = true
  | .non, _, _, h, q => by cases h; cases q; exact ⟨.non, rfl⟩
  | .bl _, _, _, h, q => by cases h; cases q; exact ⟨.bl _, rfl⟩
  | .int _, _, _, h, q => by cases h; cases q; exact ⟨.int _, rfl⟩
  | .str _, _, _, ⟨h, _, hs⟩, q => by cases h; cases q; exact ⟨.str _, by simpa [PyData.canLay0] using hs⟩
  | .tup ds, _, p, ⟨a, xs, e, n, hH, l, r⟩, q => by
    simp only [toPy] at q
    obtain ⟨ps, hp, rfl⟩ := Option.map_eq_some_iff.mp q
    subst e
    obtain ⟨h1, h2⟩ := dp_ofs r hp
    exact ⟨.tup (.of hH) h1, by simpa [PyData.canLay0] using h2⟩
  | .ctp ds, _, p, ⟨a, xs, e, t, l, r⟩, q => by
    simp only [toPy] at q
    obtain ⟨ps, hp, rfl⟩ := Option.map_eq_some_iff.mp q
    subst e
    obtain ⟨h1, h2⟩ := dp_ofs r hp
    exact ⟨.tup t.sq h1, by simpa [PyData.canLay0] using h2⟩
  | .lst ds, _, p, ⟨a, xs, e, n, hH, l, r⟩, q => by
    simp only [toPy] at q
    obtain ⟨ps, hp, rfl⟩ := Option.map_eq_some_iff.mp q
    subst e
    obtain ⟨h1, h2⟩ := dp_ofs r hp
    exact ⟨.lst (.of hH) h1, by simpa [PyData.canLay0] using h2⟩
  | .frz _, _, _, _, q => by cases q
  | .dic _ _, _, _, _, q => by cases q
  | .ins _ _, _, _, _, q => by cases q
  | .ty _, _, _, _, q => by cases q
  | .cls _, _, _, _, q => by cases q
theorem dp_ofs : ∀ {xs : List D} {vs : List V} {ps : List PyData}, RelDs c H ρ xs vs → toPys xs = some ps → DpAll c.K H vs ps ∧ PyData.canLayAll0 ps = true
  | [], [], _, _, q => by cases q; exact ⟨.nil, rfl⟩
  | d :: ds, v :: vs, ps, ⟨r, t⟩, q => by
    simp only [toPys] at q
    split at q
    · rename_i p qs h1 h2
      cases q
      obtain ⟨a1, a2⟩ := dp_of r h1
      obtain ⟨b1, b2⟩ := dp_ofs t h2
      exact ⟨.cons a1 b1, by simp [PyData.canLayAll0, a2, b2]⟩
    · cases q
end
theorem dp_r {x : D} {v : V} {p : PyData} (h : RelR c H ρ x v) (q : toPy x = some p) : Dp c.K H v p ∧ p.canLay0 = true := by
  cases x with
  | lst ds =>
    obtain ⟨a, xs, e, hH, l, r⟩ := h
    simp only [toPy] at q
    obtain ⟨ps, hp, rfl⟩ := Option.map_eq_some_iff.mp q
    subst e
    obtain ⟨h1, h2⟩ := dp_ofs r hp
    exact ⟨.lst (.of hH) h1, by simpa [PyData.canLay0] using h2⟩
  | dic _ _ => cases q
  | non => exact dp_of h q
  | bl _ => exact dp_of h q
  | int _ => exact dp_of h q
  | str _ => exact dp_of h q
  | tup _ => exact dp_of h q
  | ctp _ => exact dp_of h q
  | frz _ => exact dp_of h q
  | ins _ _ => exact dp_of h q
  | ty _ => cases q
  | cls _ => cases q
end

/-! ### == and != of data -/
def dEq (x y : D) : Option D := match toPy x, toPy y with
  | some p, some q => if min p.depth q.depth ≤ 60 then some (.bl (PyData.eqv p q)) else none
  | _, _ => none
def dNe (x y : D) : Option D := match toPy x, toPy y with
  | some p, some q => if min p.depth q.depth ≤ 60 then some (.bl (!PyData.eqv p q)) else none
  | _, _ => none
def rEqM (K : PySem.W.Frag) (n : Bool) : R2 := fun x y H Q => ∃ d e, Dp K H x d ∧ Dp K H y e ∧ d.canLay0 = true ∧ e.canLay0 = true ∧ min d.depth e.depth ≤ 60 ∧ Q (.bl (if n then !PyData.eqv d e else PyData.eqv d e)) H
section
variable {X : Cx} {c : Cn} {U : WX}
theorem op_eqM (hu : X.A.units + 64 < cLine) : OpR X (compareOp .Eq) (rEqM X.K false) := by
  intro pins s σ H x y v u Q I rx ry h
  obtain ⟨d, e, hd, he, sd, se, hm, q⟩ := h
  obtain ⟨as, r1⟩ := Dp.reads I d x v hd rx
  obtain ⟨bs, r2⟩ := Dp.reads I e y u he ry
  exact SeqAt.compareEq_reads r1 r2 sd se (by omega) ⟨.bl _, H, I, rfl, q⟩
theorem op_neM (hu : X.A.units + 64 < cLine) : OpR X (compareOp .NotEq) (rEqM X.K true) := by
  intro pins s σ H x y v u Q I rx ry h
  obtain ⟨d, e, hd, he, sd, se, hm, q⟩ := h
  obtain ⟨as, r1⟩ := Dp.reads I d x v hd rx
  obtain ⟨bs, r2⟩ := Dp.reads I e y u he ry
  exact SeqAt.compareNe_reads r1 r2 sd se (by omega) ⟨.bl _, H, I, rfl, q⟩
theorem od_eq : OpD c (rEqM c.K false) dEq := fun H ρ x y v u z Q fr rx ry e k => by
  unfold dEq at e
  split at e
  · rename_i p q h1 h2
    split at e
    · rename_i hm
      cases e
      obtain ⟨a1, a2⟩ := dp_r rx h1
      obtain ⟨b1, b2⟩ := dp_r ry h2
      exact ⟨p, q, a1, b1, a2, b2, hm, k _ H (Same.refl H) rfl⟩
    · cases e
  · cases e
theorem od_ne : OpD c (rEqM c.K true) dNe := fun H ρ x y v u z Q fr rx ry e k => by
  unfold dNe at e
  split at e
  · rename_i p q h1 h2
    split at e
    · rename_i hm
      cases e
      obtain ⟨a1, a2⟩ := dp_r rx h1
      obtain ⟨b1, b2⟩ := dp_r ry h2
      exact ⟨p, q, a1, b1, a2, b2, hm, k _ H (Same.refl H) rfl⟩
    · cases e
  · cases e
/-! ### is None -/
def D.isNon : D → Bool
  | .non => true
  | _ => false
def dIsN (x y : D) : Option D := match y with
  | .non => some (.bl x.isNon)
  | _ => none
def dNotN (x y : D) : Option D := match y with
  | .non => some (.bl !x.isNon)
  | _ => none
theorem non_iff {H : Hp} {ρ : Rho} {x : D} {v : V} (h : RelR c H ρ x v) : decide (v = .non) = x.isNon := by
  cases x with
  | non => cases h; rfl
  | bl _ => cases h; rfl
  | int _ => cases h; rfl
  | str _ => obtain ⟨rfl, _⟩ := h; rfl
  | tup _ => obtain ⟨_, _, rfl, _⟩ := h; rfl
  | ctp _ => obtain ⟨_, _, rfl, _⟩ := h; rfl
  | lst _ => obtain ⟨_, _, rfl, _⟩ := h; rfl
  | frz _ => obtain ⟨_, _, rfl, _⟩ := h; rfl
  | dic _ _ => obtain ⟨_, _, rfl, _⟩ := h; rfl
  | ins _ _ => obtain ⟨_, _, _, _, rfl, _⟩ := h; rfl
  | ty _ => cases h; rfl
  | cls _ => obtain ⟨_, rfl, _⟩ := h; rfl
theorem od_isN : OpD c (fun x y H Q => y = .non ∧ Q (.bl (decide (x = .non))) H) dIsN := fun H ρ x y v u z Q fr rx ry e k => by
  unfold dIsN at e
  split at e
  · cases e
    cases ry
    exact ⟨rfl, by rw [non_iff rx]; exact k _ H (Same.refl H) rfl⟩
  · cases e
theorem od_notN : OpD c (fun x y H Q => y = .non ∧ Q (.bl (!decide (x = .non))) H) dNotN := fun H ρ x y v u z Q fr rx ry e k => by
  unfold dNotN at e
  split at e
  · cases e
    cases ry
    exact ⟨rfl, by rw [non_iff rx]; exact k _ H (Same.refl H) rfl⟩
  · cases e

/-! ### ints, texts, lists, tuples: + - * // % ** < -/
def dInt2 (g : Int → Int → Option D) (x y : D) : Option D := match x, y with
  | .int i, .int j => g i j
  | _, _ => none
theorem rI_of {C : Int → Int → Prop} {g : Int → Int → V} {f : Int → Int → Option D} (h : ∀ i j z, f i j = some z → C i j ∧ ∀ H ρ, RelD c H ρ z (g i j)) : OpD c (rI C g) (dInt2 f) := fun H ρ x y v u z Q fr rx ry e k => by
  unfold dInt2 at e
  split at e
  · rename_i i j
    obtain ⟨h1, h2⟩ := h i j z e
    exact ⟨i, j, rx, ry, h1, k _ H (Same.refl H) (h2 _ _)⟩
  · cases e
theorem rI0_of {g : Int → Int → V} {f : Int → Int → D} (h : ∀ i j H ρ, RelD c H ρ (f i j) (g i j)) : OpD c (rI0 g) (dInt2 fun i j => some (f i j)) := fun H ρ x y v u z Q fr rx ry e k => by
  unfold dInt2 at e
  split at e
  · rename_i i j
    cases e
    exact ⟨i, j, rx, ry, k _ H (Same.refl H) (h i j _ _)⟩
  · cases e
def dSub : D → D → Option D := dInt2 fun i j => some (.int (i - j))
def dMul : D → D → Option D := dInt2 fun i j => if (-(2 ^ 64) < i ∧ i < 2 ^ 64) ∨ (-(2 ^ 64) < j ∧ j < 2 ^ 64) then some (.int (i * j)) else none
def dFdiv : D → D → Option D := dInt2 fun i j => if 0 < j ∧ j < 1073741824 then some (.int (i / j)) else none
def dMod : D → D → Option D := dInt2 fun i j => if 0 < j then some (.int (i % j)) else none
def dPow : D → D → Option D := dInt2 fun i j => if 0 ≤ j ∧ j ≤ 1000000 ∧ i.natAbs < 2 ^ 64 then some (.int (i ^ j.toNat)) else none
def dLt : D → D → Option D := dInt2 fun i j => some (.bl (decide (i < j)))
def dLe : D → D → Option D := dInt2 fun i j => some (.bl (decide (i ≤ j)))
def dGt : D → D → Option D := dInt2 fun i j => some (.bl (decide (j < i)))
def dGe : D → D → Option D := dInt2 fun i j => some (.bl (decide (j ≤ i)))
theorem od_sub : OpD c (rI0 fun i j => .int (i - j)) dSub := rI0_of fun _ _ _ _ => rfl
theorem od_mul : OpD c (rI CMul fun i j => .int (i * j)) dMul := rI_of fun i j z e => by
  split at e
  · rename_i h; cases e; exact ⟨h, fun _ _ => rfl⟩
  · cases e
theorem od_fdiv : OpD c (rI CDiv fun i j => .int (i / j)) dFdiv := rI_of fun i j z e => by
  split at e
  · rename_i h; cases e; exact ⟨h, fun _ _ => rfl⟩
  · cases e
theorem od_mod : OpD c (rI (fun _ j => 0 < j) fun i j => .int (i % j)) dMod := rI_of fun i j z e => by
  split at e
  · rename_i h; cases e; exact ⟨h, fun _ _ => rfl⟩
  · cases e
theorem od_pow : OpD c (rI CPow fun i j => .int (i ^ j.toNat)) dPow := rI_of fun i j z e => by
  split at e
  · rename_i h; cases e; exact ⟨h, fun _ _ => rfl⟩
  · cases e
theorem od_lt : OpD c (rI0 fun i j => .bl (decide (i < j))) dLt := rI0_of fun _ _ _ _ => rfl
theorem od_le : OpD c (rI0 fun i j => .bl (decide (i ≤ j))) dLe := rI0_of fun _ _ _ _ => rfl
theorem od_gt : OpD c (rI0 fun i j => .bl (decide (j < i))) dGt := rI0_of fun _ _ _ _ => rfl
theorem od_ge : OpD c (rI0 fun i j => .bl (decide (j ≤ i))) dGe := rI0_of fun _ _ _ _ => rfl
def asTup : D → Option (List D)
  | .tup ds => some ds
  | .ctp ds => some ds
  | _ => none
theorem asTup_ok {H : Hp} {ρ : Rho} {x : D} {v : V} {ds : List D} (h : RelR c H ρ x v) (e : asTup x = some ds) : ∃ a xs, v = .ref a ∧ SqT c.K H a xs ∧ ds.length ≤ sizeLine ∧ RelDs c H ρ ds xs := by
  cases x with
  | tup _ => cases e; obtain ⟨a, xs, rfl, n, hH, l, r⟩ := h; exact ⟨a, xs, rfl, .of hH, l, r⟩
  | ctp _ => cases e; obtain ⟨a, xs, rfl, t, l, r⟩ := h; exact ⟨a, xs, rfl, t.sq, l, r⟩
  | _ => cases e
def dAdd (x y : D) : Option D := match x, y with
  | .int i, .int j => some (.int (i + j))
  | .str a, .str b => if a.length + b.length ≤ sizeLine then some (.str (a ++ b)) else none
  | .lst a, .lst b => if a.length + b.length ≤ sizeLine then some (.lst (a ++ b)) else none
  | .tup a, .tup b => if a.length + b.length ≤ sizeLine then some (.tup (a ++ b)) else none
  | _, _ => none
theorem strOk_append {a b : Str} (ha : PyData.strOk a = true) (hb : PyData.strOk b = true) : PyData.strOk (a ++ b) = true := by
  unfold PyData.strOk at *
  show (a.cps ++ b.cps).all _ = true
  rw [Array.all_append, ha, hb]; rfl
theorem len_append (a b : Str) : (a ++ b).length = a.length + b.length := by
  show (a.cps ++ b.cps).size = _
  rw [Array.size_append]; rfl
def rAddM (K : PySem.W.Frag) : R2 := fun x y H Q => rI0 (fun i j => .int (i + j)) x y H Q ∨ (∃ i j, x = .str i ∧ y = .str j ∧ i.length + j.length ≤ sizeLine ∧ Q (.str (i ++ j)) H) ∨ rCat x y H Q ∨ rCatA K x y H Q
theorem op_addM : OpR X (binaryOp .Add) (rAddM X.K) := op_add.or (op_add_str.or (op_cat.or op_catA))
theorem od_add : OpD c (rAddM c.K) dAdd := fun H ρ x y v u z Q fr rx ry e k => by
  unfold dAdd at e
  split at e
  · rename_i i j
    cases e
    exact .inl ⟨i, j, rx, ry, k _ H (Same.refl H) rfl⟩
  · rename_i a b
    split at e
    · rename_i hl
      cases e
      exact .inr (.inl ⟨a, b, rx.1, ry.1, hl, k _ H (Same.refl H) ⟨rfl, by rw [len_append]; exact hl, strOk_append rx.2.2 ry.2.2⟩⟩)
    · cases e
  · rename_i a b
    split at e
    · rename_i hl
      cases e
      obtain ⟨p, xs, rfl, hH, l, r⟩ := rx
      obtain ⟨p2, ys, rfl, hH2, l2, r2⟩ := ry
      refine .inr (.inr (.inl ⟨p, p2, xs, ys, rfl, rfl, hH, hH2, by rw [← r.length, ← r2.length]; exact hl, fun q hq => ?_⟩))
      exact k _ _ (same_upd hq) ⟨q, _, rfl, fr q hq, upd_same, by rw [List.length_append]; exact hl, (r.append r2).stay (Grow.refl _ _) (Fm.new hq)⟩
    · cases e
  · rename_i a b
    split at e
    · rename_i hl
      cases e
      obtain ⟨p, xs, rfl, n, hH, l, r⟩ := rx
      obtain ⟨p2, ys, rfl, n2, hH2, l2, r2⟩ := ry
      refine .inr (.inr (.inr ⟨p, p2, xs, ys, rfl, rfl, .of hH, .of hH2, by rw [← r.length, ← r2.length]; exact hl, fun q => ?_, fun q1 q2 => ?_, fun q1 q2 q hq => ?_⟩))
      · subst q
        cases a with
        | nil => exact k _ H (Same.refl H) ⟨p2, ys, rfl, n2, hH2, l2, r2⟩
        | cons _ _ => exact r.elim
      · subst q2
        cases b with
        | nil => rw [List.append_nil] at k; exact k _ H (Same.refl H) ⟨p, xs, rfl, n, hH, l, r⟩
        | cons _ _ => exact r2.elim
      · exact k _ _ (same_upd hq) ⟨q, _, rfl, fr q hq, upd_same, by rw [List.length_append]; exact hl, (r.append r2).stay (Grow.refl _ _) (Fm.new hq)⟩
    · cases e
  · cases e
end
end Mn

namespace Mn
open PySem PySem.Spec PyProof.Rows L2

/-! ### dicts by keys -/
theorem keyOf_v {c : Cn} {H : Hp} {ρ : Rho} {x : D} {v : V} {k : Key} (h : RelD c H ρ x v) (e : keyOf x = some k) : v = kV k := by
  cases x with
  | int i => cases e; cases h; rfl
  | str x => cases e; obtain ⟨rfl, _⟩ := h; rfl
  | _ => cases e
theorem keyT_v {c : Cn} {H : Hp} {ρ : Rho} : ∀ {ds : List D} {vs : List V} {ks : List Key}, RelDs c H ρ ds vs → keyT ds = some ks → vs = ks.map kV
  | [], [], _, _, e => by cases e; rfl
  | d :: ds, v :: vs, ks, ⟨r, t⟩, e => by
    simp only [keyT] at e
    split at e
    · rename_i k ks' h1 h2
      cases e
      rw [keyOf_v r h1, keyT_v t h2]; rfl
    · cases e
/-- the place of a key -/
def dFindK : List (D × D) → Key → Option D
  | [], _ => none
  | (a, b) :: r, k => if keyOf a = some k then some b else dFindK r k
def dFindT : List (D × D) → List Key → Option D
  | [], _ => none
  | (a, b) :: r, k => if keyTOf a = some k then some b else dFindT r k
/-- (is it a key?) what stands there -/
def dGet (t : Bool) (kvs : List (D × D)) (x : D) : Option (Option D) := match t with
  | false => (keyOf x).map (dFindK kvs)
  | true => (keyTOf x).map (dFindT kvs)
def dPutK (kvs : List (D × D)) (k : Key) (x v : D) : List (D × D) :=
  if kvs.any (fun p => decide (keyOf p.1 = some k)) = true then kvs.map (fun p => if keyOf p.1 = some k then (p.1, v) else p) else kvs ++ [(x, v)]
def dPutT (kvs : List (D × D)) (k : List Key) (x v : D) : List (D × D) :=
  if kvs.any (fun p => decide (keyTOf p.1 = some k)) = true then kvs.map (fun p => if keyTOf p.1 = some k then (p.1, v) else p) else kvs ++ [(x, v)]
def dPut (t : Bool) (kvs : List (D × D)) (x v : D) : Option (List (D × D)) := match t with
  | false => (keyOf x).map fun k => dPutK kvs k x v
  | true => (keyTOf x).map fun k => dPutT kvs k x v
section
variable {c : Cn} {H : Hp} {ρ : Rho}
def RelOD (c : Cn) (H : Hp) (ρ : Rho) : Option D → Option V → Prop
  | some x, some v => RelD c H ρ x v
  | none, none => True
  | _, _ => False
theorem keysK_len : ∀ {kvs : List (D × D)} {ks : List Key}, keysK kvs = some ks → ks.length = kvs.length
  | [], _, e => by cases e; rfl
  | (a, _) :: r, ks, e => by
    simp only [keysK] at e
    split at e
    · rename_i h1 h2; cases e; simp [keysK_len h2]
    · cases e
theorem keysT_len : ∀ {kvs : List (D × D)} {ks : List (List Key)}, keysT kvs = some ks → ks.length = kvs.length
  | [], _, e => by cases e; rfl
  | (a, _) :: r, ks, e => by
    simp only [keysT] at e
    split at e
    · rename_i h1 h2; cases e; simp [keysT_len h2]
    · cases e
theorem RelDv.length : ∀ {kvs : List (D × D)} {xs : List V}, RelDv c H ρ kvs xs → kvs.length = xs.length
  | [], [], _ => rfl
  | (_, _) :: _, _ :: _, ⟨_, t⟩ => congrArg (· + 1) (RelDv.length t)
theorem valV_K {k : Key} : ∀ {kvs : List (D × D)} {ks : List Key} {xs : List V}, keysK kvs = some ks → RelDv c H ρ kvs xs → RelOD c H ρ (dFindK kvs k) (valV (ks.zip xs) k)
  | [], _, [], e, _ => by cases e; trivial
  | (a, b) :: r, ks, v :: xs, e, ⟨h, t⟩ => by
    simp only [keysK] at e
    split at e
    · rename_i k' ks' h1 h2
      cases e
      have ih := valV_K (k := k) h2 t
      unfold dFindK valV
      rw [List.zip_cons_cons, List.find?_cons]
      by_cases hk : k' = k
      · subst hk
        rw [if_pos h1]
        simp only [decide_true, Option.map_some]
        exact h
      · rw [if_neg (by rw [h1]; exact fun z => hk (Option.some.inj z))]
        simp only [hk, decide_false]
        exact ih
    · cases e
theorem valV_T {k : List Key} : ∀ {kvs : List (D × D)} {ks : List (List Key)} {xs : List V}, keysT kvs = some ks → RelDv c H ρ kvs xs → RelOD c H ρ (dFindT kvs k) (valV (ks.zip xs) k)
  | [], _, [], e, _ => by cases e; trivial
  | (a, b) :: r, ks, v :: xs, e, ⟨h, t⟩ => by
    simp only [keysT] at e
    split at e
    · rename_i k' ks' h1 h2
      cases e
      have ih := valV_T (k := k) h2 t
      unfold dFindT valV
      rw [List.zip_cons_cons, List.find?_cons]
      by_cases hk : k' = k
      · subst hk
        rw [if_pos h1]
        simp only [decide_true, Option.map_some]
        exact h
      · rw [if_neg (by rw [h1]; exact fun z => hk (Option.some.inj z))]
        simp only [hk, decide_false]
        exact ih
    · cases e
theorem any_K {k : Key} : ∀ {kvs : List (D × D)} {ks : List (Key)} {xs : List V}, keysK kvs = some ks → RelDv c H ρ kvs xs → (ks.zip xs).any (fun kv => decide (kv.1 = k)) = kvs.any (fun p => decide (keyOf p.1 = some k))
  | [], _, [], e, _ => by cases e; rfl
  | (a, b) :: r, ks, v :: xs, e, ⟨h, t⟩ => by
    simp only [keysK] at e
    split at e
    · rename_i k' ks' h1 h2
      cases e
      rw [List.zip_cons_cons, List.any_cons, List.any_cons, any_K h2 t, h1]
      simp
    · cases e
theorem map_K {k : Key} {d : D} {v : V} (hv : RelD c H ρ d v) : ∀ {kvs : List (D × D)} {ks : List (Key)} {xs : List V}, keysK kvs = some ks → RelDv c H ρ kvs xs →
    ∃ xs', keysK (kvs.map fun p => if keyOf p.1 = some k then (p.1, d) else p) = some ks ∧ (ks.zip xs).map (fun kv => if kv.1 = k then (kv.1, v) else kv) = ks.zip xs' ∧ RelDv c H ρ (kvs.map fun p => if keyOf p.1 = some k then (p.1, d) else p) xs'
  | [], _, [], e, _ => by cases e; exact ⟨[], rfl, rfl, trivial⟩
  | (a, b) :: r, ks, w :: xs, e, ⟨h, t⟩ => by
    simp only [keysK] at e
    split at e
    · rename_i k' ks' h1 h2
      cases e
      obtain ⟨xs2, e1, e2, e3⟩ := map_K (k := k) hv h2 t
      by_cases hk : k' = k
      · subst hk
        refine ⟨v :: xs2, ?_, ?_, ?_⟩
        · rw [List.map_cons]; simp only [h1, if_true, keysK, e1]
        · rw [List.zip_cons_cons, List.map_cons, e2]; simp
        · rw [List.map_cons]; simp only [h1, if_true]; exact ⟨hv, e3⟩
      · have hk2 : ¬ some k' = some k := fun z => hk (Option.some.inj z)
        refine ⟨w :: xs2, ?_, ?_, ?_⟩
        · rw [List.map_cons]; simp only [h1, hk2, if_false, keysK, e1]
        · rw [List.zip_cons_cons, List.map_cons, e2]; simp [hk]
        · rw [List.map_cons]; simp only [h1, hk2, if_false]; exact ⟨h, e3⟩
    · cases e
theorem app_K {k : Key} {x d : D} {v : V} (hx : keyOf x = some k) (hv : RelD c H ρ d v) : ∀ {kvs : List (D × D)} {ks : List (Key)} {xs : List V}, keysK kvs = some ks → RelDv c H ρ kvs xs →
    keysK (kvs ++ [(x, d)]) = some (ks ++ [k]) ∧ RelDv c H ρ (kvs ++ [(x, d)]) (xs ++ [v])
  | [], _, [], e, _ => by cases e; exact ⟨by simp [keysK, hx], ⟨hv, trivial⟩⟩
  | (a, b) :: r, ks, w :: xs, e, ⟨h, t⟩ => by
    simp only [keysK] at e
    split at e
    · rename_i k' ks' h1 h2
      cases e
      obtain ⟨e1, e2⟩ := app_K hx hv h2 t
      exact ⟨by simp [keysK, h1, e1], ⟨h, e2⟩⟩
    · cases e
theorem putK_K {k : Key} {x d : D} {v : V} (hx : keyOf x = some k) (hv : RelD c H ρ d v) {kvs : List (D × D)} {ks : List (Key)} {xs : List V} (e : keysK kvs = some ks) (r : RelDv c H ρ kvs xs) :
    ∃ ks' xs', keysK (dPutK kvs k x d) = some ks' ∧ putK (ks.zip xs) k v = ks'.zip xs' ∧ RelDv c H ρ (dPutK kvs k x d) xs' := by
  unfold dPutK putK
  rw [any_K e r]
  by_cases hk : kvs.any (fun p => decide (keyOf p.1 = some k)) = true
  · rw [if_pos hk, if_pos hk]
    obtain ⟨xs', e1, e2, e3⟩ := map_K (k := k) hv e r
    exact ⟨ks, xs', e1, e2, e3⟩
  · rw [if_neg hk, if_neg hk]
    obtain ⟨e1, e2⟩ := app_K hx hv e r
    refine ⟨_, _, e1, ?_, e2⟩
    rw [List.zip_append (by rw [keysK_len e, r.length])]
    rfl
theorem any_T {k : List Key} : ∀ {kvs : List (D × D)} {ks : List (List Key)} {xs : List V}, keysT kvs = some ks → RelDv c H ρ kvs xs → (ks.zip xs).any (fun kv => decide (kv.1 = k)) = kvs.any (fun p => decide (keyTOf p.1 = some k))
  | [], _, [], e, _ => by cases e; rfl
  | (a, b) :: r, ks, v :: xs, e, ⟨h, t⟩ => by
    simp only [keysT] at e
    split at e
    · rename_i k' ks' h1 h2
      cases e
      rw [List.zip_cons_cons, List.any_cons, List.any_cons, any_T h2 t, h1]
      simp
    · cases e
theorem map_T {k : List Key} {d : D} {v : V} (hv : RelD c H ρ d v) : ∀ {kvs : List (D × D)} {ks : List (List Key)} {xs : List V}, keysT kvs = some ks → RelDv c H ρ kvs xs →
    ∃ xs', keysT (kvs.map fun p => if keyTOf p.1 = some k then (p.1, d) else p) = some ks ∧ (ks.zip xs).map (fun kv => if kv.1 = k then (kv.1, v) else kv) = ks.zip xs' ∧ RelDv c H ρ (kvs.map fun p => if keyTOf p.1 = some k then (p.1, d) else p) xs'
  | [], _, [], e, _ => by cases e; exact ⟨[], rfl, rfl, trivial⟩
  | (a, b) :: r, ks, w :: xs, e, ⟨h, t⟩ => by
    simp only [keysT] at e
    split at e
    · rename_i k' ks' h1 h2
      cases e
      obtain ⟨xs2, e1, e2, e3⟩ := map_T (k := k) hv h2 t
      by_cases hk : k' = k
      · subst hk
        refine ⟨v :: xs2, ?_, ?_, ?_⟩
        · rw [List.map_cons]; simp only [h1, if_true, keysT, e1]
        · rw [List.zip_cons_cons, List.map_cons, e2]; simp
        · rw [List.map_cons]; simp only [h1, if_true]; exact ⟨hv, e3⟩
      · have hk2 : ¬ some k' = some k := fun z => hk (Option.some.inj z)
        refine ⟨w :: xs2, ?_, ?_, ?_⟩
        · rw [List.map_cons]; simp only [h1, hk2, if_false, keysT, e1]
        · rw [List.zip_cons_cons, List.map_cons, e2]; simp [hk]
        · rw [List.map_cons]; simp only [h1, hk2, if_false]; exact ⟨h, e3⟩
    · cases e
theorem app_T {k : List Key} {x d : D} {v : V} (hx : keyTOf x = some k) (hv : RelD c H ρ d v) : ∀ {kvs : List (D × D)} {ks : List (List Key)} {xs : List V}, keysT kvs = some ks → RelDv c H ρ kvs xs →
    keysT (kvs ++ [(x, d)]) = some (ks ++ [k]) ∧ RelDv c H ρ (kvs ++ [(x, d)]) (xs ++ [v])
  | [], _, [], e, _ => by cases e; exact ⟨by simp [keysT, hx], ⟨hv, trivial⟩⟩
  | (a, b) :: r, ks, w :: xs, e, ⟨h, t⟩ => by
    simp only [keysT] at e
    split at e
    · rename_i k' ks' h1 h2
      cases e
      obtain ⟨e1, e2⟩ := app_T hx hv h2 t
      exact ⟨by simp [keysT, h1, e1], ⟨h, e2⟩⟩
    · cases e
theorem putK_T {k : List Key} {x d : D} {v : V} (hx : keyTOf x = some k) (hv : RelD c H ρ d v) {kvs : List (D × D)} {ks : List (List Key)} {xs : List V} (e : keysT kvs = some ks) (r : RelDv c H ρ kvs xs) :
    ∃ ks' xs', keysT (dPutT kvs k x d) = some ks' ∧ putK (ks.zip xs) k v = ks'.zip xs' ∧ RelDv c H ρ (dPutT kvs k x d) xs' := by
  unfold dPutT putK
  rw [any_T e r]
  by_cases hk : kvs.any (fun p => decide (keyTOf p.1 = some k)) = true
  · rw [if_pos hk, if_pos hk]
    obtain ⟨xs', e1, e2, e3⟩ := map_T (k := k) hv e r
    exact ⟨ks, xs', e1, e2, e3⟩
  · rw [if_neg hk, if_neg hk]
    obtain ⟨e1, e2⟩ := app_T hx hv e r
    refine ⟨_, _, e1, ?_, e2⟩
    rw [List.zip_append (by rw [keysT_len e, r.length])]
    rfl
theorem RelR.d_key {x : D} {v : V} {k : Key} (h : RelR c H ρ x v) (e : keyOf x = some k) : v = kV k := by
  cases x with
  | int i => cases e; cases h; rfl
  | str x => cases e; obtain ⟨rfl, _⟩ := h; rfl
  | _ => cases e
theorem RelR.d_keyT {x : D} {v : V} {k : List Key} (h : RelR c H ρ x v) (e : keyTOf x = some k) : ∃ b, v = .ref b ∧ H b = some (.tup (k.map kV)) := by
  cases x with
  | tup ds =>
    obtain ⟨a, xs, rfl, n, hH, l, r⟩ := h
    exact ⟨a, rfl, by rw [hH, keyT_v r e]⟩
  | _ => cases e
theorem dget_of {t : Bool} {kvs : List (D × D)} {xs : List V} {a : Addr} {x : D} {y : V} {o : Option D} (h : HDic H a t kvs xs) (r : RelDv c H ρ kvs xs) (hx : RelR c H ρ x y) (e : dGet t kvs x = some o) : ∃ ov, DGet H a y ov ∧ RelOD c H ρ o ov := by
  cases t with
  | false =>
    obtain ⟨ks, h1, h2⟩ := h
    obtain ⟨k, hk, rfl⟩ := Option.map_eq_some_iff.mp e
    exact ⟨_, .inl ⟨_, k, .inl h2, hx.d_key hk, rfl⟩, valV_K h1 r⟩
  | true =>
    obtain ⟨ks, h1, h2⟩ := h
    obtain ⟨k, hk, rfl⟩ := Option.map_eq_some_iff.mp e
    obtain ⟨b, e1, e2⟩ := hx.d_keyT hk
    exact ⟨_, .inr ⟨_, k, b, .inl h2, e1, e2, rfl⟩, valV_T h1 r⟩
end

/-! ### in -/
def flatD : D → Bool
  | .non => true
  | .bl _ => true
  | .int _ => true
  | .str _ => true
  | _ => false
def sameFlat : D → D → Bool
  | .non, .non => true
  | .bl a, .bl b => a == b
  | .bl a, .int b => (if a then 1 else 0) == b
  | .int a, .bl b => a == (if b then 1 else 0)
  | .int a, .int b => a == b
  | .str a, .str b => a == b
  | _, _ => false
def dIn (x y : D) : Option Bool := match y with
  | .str z => match x with
    | .str s => if s.cps.size = 1 then some (decide (s.cps.getD 0 0 ∈ z.cps.toList)) else none
    | _ => none
  | .tup ds => if flatD x && ds.all flatD then some (ds.any fun d => sameFlat d x) else none
  | .ctp ds => if flatD x && ds.all flatD then some (ds.any fun d => sameFlat d x) else none
  | .lst ds => match toPy x, toPys ds with
    | some p, some ps => if p.depth ≤ 50 ∧ PyData.depthAll ps ≤ 50 then some (ps.any fun z => PyData.eqv z p) else none
    | _, _ => none
  | .dic t kvs => (dGet t kvs x).map (·.isSome)
  | _ => none
def dInD (x y : D) : Option D := (dIn x y).map D.bl
def dNotInD (x y : D) : Option D := (dIn x y).map fun b => .bl !b
section
variable {X : Cx} {c : Cn} {U : WX}
/-- `in` of all kinds; n: not in -/
def rInM (K : PySem.W.Frag) (n : Bool) : R2 := fun x y H Q =>
  (∃ (ch : Nat) (z : Str), x = .str ⟨#[ch]⟩ ∧ y = .str z ∧ Q (.bl (if n then !decide (ch ∈ z.cps.toList) else decide (ch ∈ z.cps.toList))) H) ∨
  rIn K n x y H Q ∨
  (∃ d ds, Dp K H x d ∧ Dp K H y (.list ds) ∧ SeqAt.shaped d = true ∧ SeqAt.shaped (.list ds) = true ∧ Q (.bl (if n then !(ds.any fun z => PyData.eqv z d) else ds.any fun z => PyData.eqv z d)) H) ∨
  (∃ a o, y = .ref a ∧ DGet H a x o ∧ Q (.bl (if n then !o.isSome else o.isSome)) H)
theorem op_inM (hu : X.A.units + 65 < cLine) : OpR X (compareOp .In) (rInM X.K false) := by
  intro pins s σ H x y v u Q I rx ry h
  rcases h with ⟨ch, z, e1, e2, q⟩ | h | ⟨d, ds, h1, h2, h3, h4, q⟩ | ⟨a, o, rfl, g, q⟩
  · exact op_in_sign pins s σ H x y v u Q I rx ry ⟨ch, z, e1, e2, q⟩
  · exact op_in_seq pins s σ H x y v u Q I rx ry h
  · exact op_inD hu pins s σ H x y v u Q I rx ry ⟨d, ds, h1, h2, h3, h4, q⟩
  · obtain rfl : u = Value.ref a := ry
    exact d_in (by omega) I g rx fun s3 I3 => ⟨.bl o.isSome, H, I3, rfl, q⟩
theorem op_notInM (hu : X.A.units + 65 < cLine) : OpR X (compareOp .NotIn) (rInM X.K true) := by
  intro pins s σ H x y v u Q I rx ry h
  rcases h with ⟨ch, z, e1, e2, q⟩ | h | ⟨d, ds, h1, h2, h3, h4, q⟩ | ⟨a, o, rfl, g, q⟩
  · exact op_notIn_sign pins s σ H x y v u Q I rx ry ⟨ch, z, e1, e2, q⟩
  · exact op_notIn_seq pins s σ H x y v u Q I rx ry h
  · exact op_notInD hu pins s σ H x y v u Q I rx ry ⟨d, ds, h1, h2, h3, h4, q⟩
  · obtain rfl : u = Value.ref a := ry
    exact d_notIn (by omega) I g rx fun s3 I3 => ⟨.bl (!o.isSome), H, I3, rfl, q⟩
theorem flat_v {H : Hp} {ρ : Rho} {x : D} {v : V} (h : RelD c H ρ x v) (e : flatD x = true) : flatV v = true ∧ ∀ {y : D} {w : V}, RelD c H ρ y w → flatD y = true → eqV w v = sameFlat y x := by
  cases x with
  | non => cases h; exact ⟨rfl, fun {y w} hy ey => by cases y <;> first | (cases hy; rfl) | (obtain ⟨rfl, _⟩ := hy; rfl) | cases ey⟩
  | bl _ => cases h; exact ⟨rfl, fun {y w} hy ey => by cases y <;> first | (cases hy; rfl) | (obtain ⟨rfl, _⟩ := hy; rfl) | cases ey⟩
  | int _ => cases h; exact ⟨rfl, fun {y w} hy ey => by cases y <;> first | (cases hy; rfl) | (obtain ⟨rfl, _⟩ := hy; rfl) | cases ey⟩
  | str _ => obtain ⟨rfl, _⟩ := h; exact ⟨rfl, fun {y w} hy ey => by cases y <;> first | (cases hy; rfl) | (obtain ⟨rfl, _⟩ := hy; rfl) | cases ey⟩
  | _ => cases e
theorem RelR.flat {H : Hp} {ρ : Rho} {x : D} {v : V} (h : RelR c H ρ x v) (e : flatD x = true) : RelD c H ρ x v := by
  cases x <;> first | exact h | cases e
theorem flats_v {H : Hp} {ρ : Rho} {x : D} {v : V} (h : RelD c H ρ x v) (e : flatD x = true) : ∀ {ds : List D} {vs : List V}, RelDs c H ρ ds vs → ds.all flatD = true → vs.all flatV = true ∧ inV v vs = ds.any fun d => sameFlat d x
  | [], [], _, _ => ⟨rfl, rfl⟩
  | d :: ds, w :: vs, ⟨r, t⟩, q => by
    rw [List.all_cons, Bool.and_eq_true] at q
    obtain ⟨h1, h2⟩ := flats_v h e t q.2
    refine ⟨by rw [List.all_cons, (flat_v r q.1).1, h1]; rfl, ?_⟩
    show (eqV w v || inV v vs) = _
    rw [h2, (flat_v h e).2 r q.1, List.any_cons]
theorem in_spec {n : Bool} {H : Hp} {ρ : Rho} {x y : D} {v u : V} {b : Bool} {Q : VK} (rx : RelR c H ρ x v) (ry : RelR c H ρ y u) (e : dIn x y = some b) (k : Q (.bl (if n then !b else b)) H) : rInM c.K n v u H Q := by
  have tupcase : ∀ {ds : List D} {a : Addr} {xs : List V}, u = .ref a → SqT c.K H a xs → RelDs c H ρ ds xs → (if flatD x && ds.all flatD then some (ds.any fun d => sameFlat d x) else none) = some b → rInM c.K n v u H Q := fun {ds a xs} eu hq r e => by
    split at e
    · rename_i hf
      rw [Bool.and_eq_true] at hf
      cases e
      have hx := rx.flat hf.1
      obtain ⟨h1, h2⟩ := flats_v hx hf.1 r hf.2
      exact .inr (.inl ⟨a, xs, eu, .inr hq, (flat_v hx hf.1).1, h1, by rw [h2]; exact k⟩)
    · cases e
  unfold dIn at e
  split at e
  · rename_i z
    split at e
    · rename_i s
      split at e
      · rename_i hs
        cases e
        obtain ⟨e1, _⟩ := rx
        obtain ⟨e2, _⟩ := ry
        refine .inl ⟨s.cps.getD 0 0, z, ?_, e2, k⟩
        rw [e1]
        obtain ⟨⟨l⟩⟩ := s
        match l, hs with
        | [a], _ => rfl
      · cases e
    · cases e
  · obtain ⟨a, xs, eu, n, hH, l, r⟩ := ry
    exact tupcase eu (.of hH) r e
  · obtain ⟨a, xs, eu, t, l, r⟩ := ry
    exact tupcase eu t.sq r e
  · rename_i dsl
    split at e
    · rename_i p ps h1 h2
      split at e
      · rename_i hd
        cases e
        obtain ⟨a1, a2⟩ := dp_r rx h1
        have h3 : toPy (.lst dsl) = some (.list ps) := by simp only [toPy, h2, Option.map_some]
        obtain ⟨b1, b2⟩ := dp_r ry h3
        refine .inr (.inr (.inl ⟨p, ps, a1, b1, ?_, ?_, k⟩))
        · unfold SeqAt.shaped; rw [a2, Bool.true_and]; exact decide_eq_true (by omega)
        · unfold SeqAt.shaped; rw [b2, Bool.true_and]; exact decide_eq_true (by rw [PyData.depth]; omega)
      · cases e
    · cases e
  · obtain ⟨a, xs, eu, hd, r⟩ := ry
    obtain ⟨o, ho, rfl⟩ := Option.map_eq_some_iff.mp e
    obtain ⟨ov, g, ro⟩ := dget_of hd r rx ho
    refine .inr (.inr (.inr ⟨a, ov, eu, g, ?_⟩))
    have : ov.isSome = o.isSome := by
      cases o <;> cases ov <;> first | rfl | exact ro.elim
    rw [this]; exact k
  · cases e
theorem od_in : OpD c (rInM c.K false) dInD := fun H ρ x y v u z Q fr rx ry e k => by
  obtain ⟨b, hb, rfl⟩ := Option.map_eq_some_iff.mp e
  exact in_spec rx ry hb (k _ H (Same.refl H) rfl)
theorem od_notIn : OpD c (rInM c.K true) dNotInD := fun H ρ x y v u z Q fr rx ry e k => by
  obtain ⟨b, hb, rfl⟩ := Option.map_eq_some_iff.mp e
  exact in_spec rx ry hb (k _ H (Same.refl H) rfl)

/-! ### a[i] -/
def dIx (x y : D) : Option D := match x with
  | .lst ds => match y with
    | .int i => atI ds i
    | _ => none
  | .tup ds => match y with
    | .int i => atI ds i
    | _ => none
  | .ctp ds => match y with
    | .int i => atI ds i
    | _ => none
  | .str z => match y with
    | .int i => (atI z.cps.toList i).map fun ch => .str ⟨#[ch]⟩
    | _ => none
  | .dic t kvs => match dGet t kvs y with
    | some (some d) => some d
    | _ => none
  | _ => none
def rIxM (K : PySem.W.Frag) : R2 := fun x y H Q => rIx K x y H Q ∨ ∃ a v, x = .ref a ∧ DGet H a y (some v) ∧ Q v H
theorem ix_dict (hu : X.A.units + 1 < cLine) : IxR X (fun x y H Q => ∃ a v, x = .ref a ∧ DGet H a y (some v) ∧ Q v H) := by
  intro value slice pins s σ H x y v u Q I rx ry h hs
  obtain ⟨a, z, rfl, g, q⟩ := h
  obtain rfl : v = Value.ref a := rx
  exact tail_any (dict_typeIs I g) PySem.F.slot_dict_getitem.lookup (d_getItem hu I g ry fun w' s3 I3 rw' => ⟨z, H, I3, rw', q⟩) hs
theorem ix_M (hu : X.A.units + 1 < cLine) : IxR X (rIxM X.K) := ix_seq.or (ix_dict hu)
theorem atI_some {α : Type} {xs : List α} {i : Int} {v : α} (h : atI xs i = some v) : ∃ j, ixN xs.length i = some j ∧ xs[j]? = some v := by
  unfold atI at h
  cases q : ixN xs.length i with
  | none => rw [q] at h; cases h
  | some j => rw [q] at h; exact ⟨j, rfl, h⟩
theorem RelDs.atI {H : Hp} {ρ : Rho} {ds : List D} {vs : List V} {i : Int} {d : D} (r : RelDs c H ρ ds vs) (h : L2.atI ds i = some d) : ∃ v, L2.atI vs i = some v ∧ RelD c H ρ d v := by
  obtain ⟨j, h1, h2⟩ := atI_some h
  obtain ⟨v, h3, h4⟩ := r.get h2
  refine ⟨v, ?_, h4⟩
  unfold L2.atI
  rw [← r.length, h1]; exact h3
theorem strOk_one {z : Str} {ch : Nat} (h : PyData.strOk z = true) (e : ch ∈ z.cps.toList) : PyData.strOk ⟨#[ch]⟩ = true := by
  unfold PyData.strOk at *
  have := Array.all_eq_true_iff_forall_mem.mp h ch (by simpa using e)
  simpa using this
theorem od_ix : OpD c (rIxM c.K) dIx := fun H ρ x y v u z Q fr rx ry e k => by
  unfold dIx at e
  split at e
  · split at e
    · rename_i i
      obtain ⟨a, xs, rfl, hH, l, r⟩ := rx
      obtain ⟨w, h1, h2⟩ := r.atI e
      exact .inl (.inl ⟨a, xs, i, w, rfl, ry, .of hH, h1, k _ H (Same.refl H) h2⟩)
    · cases e
  · split at e
    · rename_i i
      obtain ⟨a, xs, rfl, n, hH, l, r⟩ := rx
      obtain ⟨w, h1, h2⟩ := r.atI e
      exact .inl (.inr (.inl ⟨a, xs, i, w, rfl, ry, .of hH, h1, k _ H (Same.refl H) h2⟩))
    · cases e
  · split at e
    · rename_i i
      obtain ⟨a, xs, rfl, t, l, r⟩ := rx
      obtain ⟨w, h1, h2⟩ := r.atI e
      exact .inl (.inr (.inl ⟨a, xs, i, w, rfl, ry, t.sq, h1, k _ H (Same.refl H) h2⟩))
    · cases e
  · rename_i zz
    split at e
    · rename_i i
      obtain ⟨ch, hc, rfl⟩ := Option.map_eq_some_iff.mp e
      obtain ⟨h1, h2, h3⟩ := rx
      obtain ⟨j, _, hj⟩ := atI_some hc
      exact .inl (.inr (.inr ⟨zz, i, ch, h1, ry, h2, hc, k _ H (Same.refl H) ⟨rfl, by show 1 ≤ sizeLine; decide, strOk_one h3 (List.mem_of_getElem? hj)⟩⟩))
    · cases e
  · split at e
    · rename_i d hd
      cases e
      obtain ⟨a, xs, rfl, hh, r⟩ := rx
      obtain ⟨ov, g, ro⟩ := dget_of hh r ry hd
      cases ov with
      | none => exact ro.elim
      | some w => exact .inr ⟨a, w, rfl, g, k _ H (Same.refl H) ro⟩
    · cases e
  · cases e
theorem me_ix {a b : Expr} {pos : Pos} {fa fb : FE} {c : Cn} (hc : X.K = c.K) (hu : X.A.units + 1 < cLine) (ha : PE X a (tM c U fa)) (hb : PE X b (tM c U fb)) (hs : PlainIx b := by exact fun _ _ => rfl) : PE X (.Subscript a b pos) (tM c U (mOp dIx fa fb)) := by
  have hx := pe_ix (pos := pos) (ix_M hu) ha hb hs
  rw [hc] at hx
  exact pe_imp hx fun σ H Q h => op_use od_ix h
end
end Mn

namespace Mn
open PySem PySem.Spec PyProof.Rows L2

section
variable {X : Cx} {c : Cn} {U : WX} {a b : Expr} {es : List Expr} {pos p p2 : Pos}
/-! ### slices -/
abbrev FO := PySem.Str → Nat
def mNoPart : Env → VH → Res (Option Int) := fun _ vh => .ok none vh
def mPart (f : FE) : Env → VH → Res (Option Int) := fun e vh => bnd (f e vh) fun w vh1 => match see vh1 w with
  | some (.int i) => .ok (some i) vh1
  | _ => .stuck
def tMO (c : Cn) (U : WX) (f : Env → VH → Res (Option Int)) : TO := fun σ H Q => ∃ e ρ vh, RelE c H ρ e σ ∧ RelH c H ρ vh ∧ Out c σ H ρ U (f e vh) fun o _ H' _ => Q o H'
theorem mo_none : PO X none (tMO c U mNoPart) := ⟨fun pins s σ H Q I ⟨e, ρ, vh, he, hh, h⟩ => po_none.run pins s σ H Q I (h.here hh)⟩
theorem mo_some {f : FE} (ha : PE X a (tM c U f)) : PO X (some a) (tMO c U (mPart f)) := ⟨fun pins s σ H Q I ⟨e, ρ, vh, he, hh, h⟩ => (po_some ha).run pins s σ H Q I ((use he hh h).mono fun v H1 ⟨w, vh1, ρ1, r, A, _, _⟩ => by
  have o := A.out
  split at o
  · rename_i i hs
    exact ⟨i, see_ok A.rh r hs, o.here A.rh⟩
  · exact o.elim)⟩
theorem useO {β : Type} {σ : L2.St} {H : Hp} {ρ : Rho} {e : Env} {vh : VH} {f : Env → VH → Res (Option Int)} {k : Option Int → VH → Res β} {K : β → VH → Hp → Rho → Prop} (he : RelE c H ρ e σ) (hh : RelH c H ρ vh) (h : Out c σ H ρ U (bnd (f e vh) k) K) :
    tMO c U f σ H fun b H1 => ∃ vh1 ρ1, Aft c U σ e H1 ρ1 vh1 (k b vh1) K ∧ Grow ρ H ρ1 ∧ Fm H H1 ρ := by
  refine ⟨e, ρ, vh, he, hh, ?_⟩
  cases q : f e vh with
  | ok w vh' =>
    rw [q] at h
    exact fun H' ρ' g fm rh => ⟨vh', ρ', ⟨he.stay g fm, rh, h.later g fm⟩, g, fm⟩
  | exn x vh' => rw [q] at h; exact h
  | stuck => rw [q] at h; exact h
theorem tMO.mono {σ : L2.St} {H : Hp} {f : Env → VH → Res (Option Int)} {Q Q' : Option Int → Hp → Prop} (h : tMO c U f σ H Q) (q : ∀ v H, Q v H → Q' v H) : tMO c U f σ H Q' := by
  obtain ⟨e, ρ, vh, he, hh, o⟩ := h
  exact ⟨e, ρ, vh, he, hh, o.mono fun _ _ _ _ k => q _ _ k⟩
def cutD (xs : List D) (lo hi : Option Int) : List D := (xs.drop (HT.sIx xs.length 0 lo)).take (HT.sIx xs.length xs.length hi - HT.sIx xs.length 0 lo)
def dSl (x : D) (lo hi : Option Int) : Option D := match x with
  | .lst ds => some (.lst (cutD ds lo hi))
  | .frz ds => some (.lst (cutD ds lo hi))
  | .tup ds => some (.tup (cutD ds lo hi))
  | .str z => some (.str (cutS z lo hi))
  | _ => none
def mSl (fa : FE) (fl fh : Env → VH → Res (Option Int)) : FE := fun e vh => bnd (fa e vh) fun w vh1 => bnd (fl e vh1) fun lo vh2 => bnd (fh e vh2) fun hi vh3 => opt (see vh3 w) fun x => opt (dSl x lo hi) fun z => .ok (.d z) vh3
def rSlM (K : PySem.W.Frag) : V → Option Int → Option Int → Hp → VK → Prop := fun x lo hi H Q => rSlL K x lo hi H Q ∨ rSlS x lo hi H Q ∨ rSlA K x lo hi H Q
theorem sl_M : SlR X (rSlM X.K) := sl_list.or (sl_str.or sl_tupA)
theorem cut_rel {H : Hp} {ρ : Rho} {ds : List D} {vs : List V} {lo hi : Option Int} (r : RelDs c H ρ ds vs) : RelDs c H ρ (cutD ds lo hi) (cutV vs lo hi) := by
  unfold cutD cutV
  rw [r.length]
  exact (r.drop _).take _
theorem cut_len (ds : List D) (lo hi : Option Int) : (cutD ds lo hi).length ≤ ds.length := by
  unfold cutD
  rw [List.length_take, List.length_drop]
  omega
theorem cutS_len (z : Str) (lo hi : Option Int) : (cutS z lo hi).length ≤ z.length := by
  show (List.toArray _).size ≤ _
  rw [List.size_toArray, List.length_take, List.length_drop]
  have : z.cps.toList.length = z.length := by simp [Str.length]
  omega
theorem strOk_sub {z y : Str} (h : PyData.strOk z = true) (s : ∀ c ∈ y.cps.toList, c ∈ z.cps.toList) : PyData.strOk y = true := by
  unfold PyData.strOk at *
  rw [Array.all_eq_true_iff_forall_mem] at *
  exact fun c hc => h c (by simpa using s c (by simpa using hc))
theorem strOk_cut {z : Str} {lo hi : Option Int} (h : PyData.strOk z = true) : PyData.strOk (cutS z lo hi) = true := strOk_sub h fun c hc => by
  have : c ∈ (z.cps.toList.drop (HT.sIx z.length 0 lo)).take (HT.sIx z.length z.length hi - HT.sIx z.length 0 lo) := by simpa [cutS] using hc
  exact List.mem_of_mem_drop (List.mem_of_mem_take this)
theorem sl_spec {H : Hp} {ρ : Rho} {x : D} {v : V} {lo hi : Option Int} {z : D} {Q : VK} (fr : Fresh c H ρ) (rx : RelR c H ρ x v) (e : dSl x lo hi = some z) (k : DK c H ρ z Q) : rSlM c.K v lo hi H Q := by
  unfold dSl at e
  split at e
  · cases e
    obtain ⟨a, xs, rfl, hH, l, r⟩ := rx
    exact .inl ⟨a, xs, rfl, .of hH, fun q hq => k _ _ (same_upd hq) ⟨q, _, rfl, fr q hq, upd_same, Nat.le_trans (cut_len _ _ _) l, (cut_rel r).stay (Grow.refl _ _) (Fm.new hq)⟩⟩
  · cases e
    rename_i ds
    obtain ⟨a, xs, rfl, t, l, r⟩ := rx
    exact .inl ⟨a, xs, rfl, t.sq, fun q hq => k _ _ (same_upd hq) ⟨q, _, rfl, fr q hq, upd_same, Nat.le_trans (cut_len _ _ _) l, (cut_rel r).stay (Grow.refl _ _) (Fm.new hq)⟩⟩
  · cases e
    obtain ⟨a, xs, rfl, n, hH, l, r⟩ := rx
    refine .inr (.inr ⟨a, xs, rfl, .of hH, fun ⟨h1, h2⟩ => ?_, fun _ q hq => k _ _ (same_upd hq) ⟨q, _, rfl, fr q hq, upd_same, Nat.le_trans (cut_len _ _ _) l, (cut_rel r).stay (Grow.refl _ _) (Fm.new hq)⟩⟩)
    refine k _ H (Same.refl H) ⟨a, xs, rfl, n, hH, Nat.le_trans (cut_len _ _ _) l, ?_⟩
    have : cutV xs lo hi = xs := by unfold cutV; rw [h1, h2]; simp
    have q := cut_rel (lo := lo) (hi := hi) r
    rwa [this] at q
  · cases e
    rename_i zz
    obtain ⟨h1, h2, h3⟩ := rx
    exact .inr (.inl ⟨zz, h1, h2, k _ H (Same.refl H) ⟨rfl, Nat.le_trans (cutS_len _ _ _) h2, strOk_cut h3⟩⟩)
  · cases e
theorem me_slice {lo hi : Option Expr} {fa : FE} {fl fh : Env → VH → Res (Option Int)} (hc : X.K = c.K) (ha : PE X a (tM c U fa)) (hl : PO X lo (tMO c U fl)) (hu : PO X hi (tMO c U fh)) : PE X (.Subscript a (.Slice lo hi none p2) pos) (tM c U (mSl fa fl fh)) := by
  have hx := pe_slice (pos := pos) (p2 := p2) sl_M ha hl hu
  rw [hc] at hx
  exact pe_imp hx fun σ H Q ⟨e, ρ, vh, he, hh, h⟩ =>
    (use he hh h).mono fun v1 H1 ⟨w1, vh1, ρ1, r1, A, g1, f1⟩ => (useO A.re A.rh A.out).mono fun lo H2 ⟨vh2, ρ2, B, g2, f2⟩ => (useO B.re B.rh B.out).mono fun hi H3 ⟨vh3, ρ3, C, g3, f3⟩ => by
      obtain ⟨x, e1, o⟩ := opt_out C.out
      obtain ⟨z, e2, o⟩ := opt_out o
      exact sl_spec C.rh.fr (see_ok C.rh ((r1.stay g2 f2).stay g3 f3) e1) e2 (pure_out C.rh o)

/-! ### builtins -/
theorem call_use {r : List V → Hp → VK → Prop} {g : List D → Option D} {fa : FA} (hd : CallD c r g) {σ : L2.St} {H : Hp} {Q : VK} (h : tM c U (mBlt g fa) σ H Q) : tMA c U fa σ H fun vs H1 => r vs H1 Q := by
  obtain ⟨e, ρ, vh, he, hh, h⟩ := h
  exact (useA he hh h).mono fun vs H1 ⟨ws, vh1, ρ1, rs, A, _, _⟩ => by
    obtain ⟨xs, e1, o⟩ := opt_out A.out
    obtain ⟨z, e2, o⟩ := opt_out o
    exact hd H1 ρ1 xs vs z Q A.rh.fr (sees_ok A.rh rs e1) e2 (pure_out A.rh o)
theorem me_callB {id : String} {x : Str} {r : List V → Hp → VK → Prop} {g : List D → Option D} {fa : FA} {e : Expr} (hc : CallR X (.builtin id) r) (hd : CallD c r g) (hg : Gl X x) (hm : X.mg x = none) (hv : bootBuiltins x = some (.builtin id)) (ha : PA X (e :: es) (tMA c U fa))
    (hn : x ≠ "__name__" := by decide) (hdb : (x == ("__debug__" : Str)) = false := by decide)
    (he : starEach (e :: es) X.env = (false, eval e X.env) :: starEach es X.env := by rfl) (hpl : (backTo pos (starEach es X.env)).any (·.1) = false := by rfl) : PE X (.Call (.Name x p) (e :: es) [] pos) (tM c U (mBlt g fa)) :=
  pe_imp (pe_callB hc hg hm hv ha hn hdb he hpl) fun σ H Q h => call_use hd h
theorem me_callTy {T : String} {x : Str} {r : List V → Hp → VK → Prop} {g : List D → Option D} {fa : FA} {e : Expr} (hc : CallR X (.type T) r) (hd : CallD c r g) (hg : Gl X x) (hm : X.mg x = none) (hv : bootBuiltins x = some (.type T)) (ha : PA X (e :: es) (tMA c U fa))
    (hn : x ≠ "__name__" := by decide) (hdb : (x == ("__debug__" : Str)) = false := by decide)
    (he : starEach (e :: es) X.env = (false, eval e X.env) :: starEach es X.env := by rfl) (hpl : (backTo pos (starEach es X.env)).any (·.1) = false := by rfl) : PE X (.Call (.Name x p) (e :: es) [] pos) (tM c U (mBlt g fa)) :=
  pe_imp (pe_callTy hc hg hm hv ha hn hdb he hpl) fun σ H Q h => call_use hd h
/-- a built-in class as a value -/
theorem me_ty {x : Str} {T : String} (hg : Gl X x) (hm : X.mg x = none) (hv : bootBuiltins x = some (.type T)) (hn : x ≠ "__name__" := by decide) (hdb : (x == ("__debug__" : Str)) = false := by decide) : PE X (.Name x pos) (tM c U (mC (.ty T))) := me_const (pe_bltn hg hm hv (v := .ty T) rfl hn hdb) fun _ _ => rfl

theorem RelRs.one {H : Hp} {ρ : Rho} {x : D} {vs : List V} (h : RelRs c H ρ [x] vs) : ∃ v, vs = [v] ∧ RelR c H ρ x v := by
  match vs, h with
  | [v], ⟨r, _⟩ => exact ⟨v, rfl, r⟩
theorem RelRs.two {H : Hp} {ρ : Rho} {x y : D} {vs : List V} (h : RelRs c H ρ [x, y] vs) : ∃ v w, vs = [v, w] ∧ RelR c H ρ x v ∧ RelR c H ρ y w := by
  match vs, h with
  | [v, w], ⟨r, s, _⟩ => exact ⟨v, w, rfl, r, s⟩

def cLen : List D → Option D
  | [.str z] => some (.int z.length)
  | [.lst ds] => some (.int ds.length)
  | [.frz ds] => some (.int ds.length)
  | [.tup ds] => some (.int ds.length)
  | [.ctp ds] => some (.int ds.length)
  | [.dic _ kvs] => some (.int kvs.length)
  | _ => none
def rLenM (K : PySem.W.Frag) : List V → Hp → VK → Prop := fun xs H Q => (∃ x n, xs = [x] ∧ LenV K x H n ∧ Q (.int n) H) ∨ (∃ a kvs, xs = [V.ref a] ∧ H a = some (.dK kvs) ∧ Q (.int kvs.length) H) ∨ (∃ (p : Addr) (kvs : List (List Key × V)), xs = [.ref p] ∧ H p = some (.dT kvs) ∧ Q (.int ((kvs.length : Nat) : Int)) H)
theorem call_lenM : CallR X (.builtin "len") (rLenM X.K) := call_len.or (call_lenD.or call_len_dT)
theorem HDic.len {H : Hp} {ρ : Rho} {a : Addr} {t : Bool} {kvs : List (D × D)} {xs : List V} (h : HDic H a t kvs xs) (r : RelDv c H ρ kvs xs) : (∃ ks, H a = some (.dK ks) ∧ ks.length = kvs.length) ∨ (∃ ks, H a = some (.dT ks) ∧ ks.length = kvs.length) := by
  cases t with
  | false =>
    obtain ⟨ks, h1, h2⟩ := h
    exact .inl ⟨_, h2, by rw [List.length_zip, keysK_len h1, ← r.length]; exact Nat.min_self _⟩
  | true =>
    obtain ⟨ks, h1, h2⟩ := h
    exact .inr ⟨_, h2, by rw [List.length_zip, keysT_len h1, ← r.length]; exact Nat.min_self _⟩
theorem cd_len : CallD c (rLenM c.K) cLen := fun H ρ xs vs z Q fr rs e k => by
  unfold cLen at e
  split at e
  · cases e
    obtain ⟨v, rfl, h1, h2, _⟩ := rs.one
    subst h1
    exact .inl ⟨_, _, rfl, ⟨h2, rfl⟩, k _ H (Same.refl H) rfl⟩
  · cases e
    obtain ⟨v, rfl, a, xs, rfl, hH, l, r⟩ := rs.one
    exact .inl ⟨_, _, rfl, .inl ⟨xs, .of hH, r.length⟩, k _ H (Same.refl H) rfl⟩
  · cases e
    obtain ⟨v, rfl, a, xs, rfl, t, l, r⟩ := rs.one
    exact .inl ⟨_, _, rfl, .inl ⟨xs, t.sq, r.length⟩, k _ H (Same.refl H) rfl⟩
  · cases e
    obtain ⟨v, rfl, a, xs, rfl, n, hH, l, r⟩ := rs.one
    exact .inl ⟨_, _, rfl, .inr ⟨xs, .of hH, r.length⟩, k _ H (Same.refl H) rfl⟩
  · cases e
    obtain ⟨v, rfl, a, xs, rfl, t, l, r⟩ := rs.one
    exact .inl ⟨_, _, rfl, .inr ⟨xs, t.sq, r.length⟩, k _ H (Same.refl H) rfl⟩
  · cases e
    obtain ⟨v, rfl, a, xs, rfl, hd, r⟩ := rs.one
    rcases hd.len r with ⟨ks, h1, h2⟩ | ⟨ks, h1, h2⟩
    · exact .inr (.inl ⟨a, ks, rfl, h1, by rw [h2]; exact k _ H (Same.refl H) rfl⟩)
    · exact .inr (.inr ⟨a, ks, rfl, h1, by rw [h2]; exact k _ H (Same.refl H) rfl⟩)
  · cases e
def asBools : List D → Option (List Bool)
  | [] => some []
  | .bl b :: r => (asBools r).map (b :: ·)
  | _ => none
theorem asBools_ok {H : Hp} {ρ : Rho} : ∀ {ds : List D} {vs : List V} {bs : List Bool}, RelDs c H ρ ds vs → asBools ds = some bs → vs = bs.map V.bl
  | [], [], _, _, e => by cases e; rfl
  | .bl b :: ds, v :: vs, bs, ⟨r, t⟩, e => by
    obtain ⟨bs', h, rfl⟩ := Option.map_eq_some_iff.mp e
    cases r
    rw [asBools_ok t h]; rfl
def cAll : List D → Option D
  | [.lst ds] => (asBools ds).map fun bs => .bl (bs.all id)
  | _ => none
def cAny : List D → Option D
  | [.lst ds] => (asBools ds).map fun bs => .bl (bs.any id)
  | _ => none
theorem cd_all : CallD c (rAll c.K) cAll := fun H ρ xs vs z Q fr rs e k => by
  unfold cAll at e
  split at e
  · obtain ⟨bs, h, rfl⟩ := Option.map_eq_some_iff.mp e
    obtain ⟨v, rfl, a, xs, rfl, hH, l, r⟩ := rs.one
    refine ⟨a, bs, rfl, ?_, k _ H (Same.refl H) rfl⟩
    rw [← asBools_ok r h]; exact .of hH
  · cases e
theorem cd_any : CallD c (rAny c.K) cAny := fun H ρ xs vs z Q fr rs e k => by
  unfold cAny at e
  split at e
  · obtain ⟨bs, h, rfl⟩ := Option.map_eq_some_iff.mp e
    obtain ⟨v, rfl, a, xs, rfl, hH, l, r⟩ := rs.one
    refine ⟨a, bs, rfl, ?_, k _ H (Same.refl H) rfl⟩
    rw [← asBools_ok r h]; exact .of hH
  · cases e
/-- the items of a list or a tuple -/
def asSeq : D → Option (List D)
  | .lst ds => some ds
  | .tup ds => some ds
  | .ctp ds => some ds
  | _ => none
theorem asSeq_ok {H : Hp} {ρ : Rho} {x : D} {v : V} {ds : List D} (h : RelR c H ρ x v) (e : asSeq x = some ds) : ∃ a xs, v = .ref a ∧ (SqL c.K H a xs ∨ SqT c.K H a xs) ∧ ds.length ≤ sizeLine ∧ RelDs c H ρ ds xs := by
  cases x with
  | lst _ => cases e; obtain ⟨a, xs, rfl, hH, l, r⟩ := h; exact ⟨a, xs, rfl, .inl (.of hH), l, r⟩
  | tup _ => cases e; obtain ⟨a, xs, rfl, n, hH, l, r⟩ := h; exact ⟨a, xs, rfl, .inr (.of hH), l, r⟩
  | ctp _ => cases e; obtain ⟨a, xs, rfl, t, l, r⟩ := h; exact ⟨a, xs, rfl, .inr t.sq, l, r⟩
  | _ => cases e
def cList : List D → Option D
  | [x] => (asSeq x).map .lst
  | _ => none
theorem cd_list : CallD c (fun xs H Q => ∃ p ys, xs = [.ref p] ∧ (SqL c.K H p ys ∨ SqT c.K H p ys) ∧ ∀ l, H l = none → Q (.ref l) (upd H l (.lst ys))) cList := fun H ρ xs vs z Q fr rs e k => by
  unfold cList at e
  split at e
  · obtain ⟨ds, h, rfl⟩ := Option.map_eq_some_iff.mp e
    obtain ⟨v, rfl, r⟩ := rs.one
    obtain ⟨a, xs, rfl, hs, l, rr⟩ := asSeq_ok r h
    exact ⟨a, xs, rfl, hs, fun q hq => k _ _ (same_upd hq) ⟨q, xs, rfl, fr q hq, upd_same, l, rr.stay (Grow.refl _ _) (Fm.new hq)⟩⟩
  · cases e
def cTuple : List D → Option D
  | [.lst ds] => some (.tup ds)
  | [.tup ds] => some (.tup ds)
  | [.ctp ds] => some (.ctp ds)
  | _ => none
theorem cd_tuple : CallD c (fun xs H Q => ∃ p ys, xs = [.ref p] ∧ ((SqL c.K H p ys ∧ ∀ l, H l = none → Q (.ref l) (upd H l (.tup ys))) ∨ (SqT c.K H p ys ∧ Q (.ref p) H))) cTuple := fun H ρ xs vs z Q fr rs e k => by
  unfold cTuple at e
  split at e
  · cases e
    obtain ⟨v, rfl, a, xs, rfl, hH, l, r⟩ := rs.one
    exact ⟨a, xs, rfl, .inl ⟨.of hH, fun q hq => k _ _ (same_upd hq) ⟨q, xs, rfl, fr q hq, upd_same, l, r.stay (Grow.refl _ _) (Fm.new hq)⟩⟩⟩
  · cases e
    obtain ⟨v, rfl, a, xs, rfl, n, hH, l, r⟩ := rs.one
    exact ⟨a, xs, rfl, .inr ⟨.of hH, k _ H (Same.refl H) ⟨a, xs, rfl, n, hH, l, r⟩⟩⟩
  · cases e
    obtain ⟨v, rfl, a, xs, rfl, t, l, r⟩ := rs.one
    exact ⟨a, xs, rfl, .inr ⟨t.sq, k _ H (Same.refl H) ⟨a, xs, rfl, t, l, r⟩⟩⟩
  · cases e
def cInt : List D → Option D
  | [.int i] => some (.int i)
  | _ => none
theorem cd_int : CallD c (fun xs H Q => (∃ i, xs = [.int i] ∧ Q (.int i) H) ∨ ∃ k, xs = [.bl k] ∧ Q (.int (if k then 1 else 0)) H) cInt := fun H ρ xs vs z Q fr rs e k => by
  unfold cInt at e
  split at e
  · cases e
    obtain ⟨v, rfl, r⟩ := rs.one
    exact .inl ⟨_, by rw [show v = .int _ from r], k _ H (Same.refl H) rfl⟩
  · cases e
/-- a built-in type's name -/
def tyName : D → Option String
  | .non => some "NoneType"
  | .bl _ => some "bool"
  | .int _ => some "int"
  | .str _ => some "str"
  | .tup _ => some "tuple"
  | .ctp _ => some "tuple"
  | .lst _ => some "list"
  | .dic _ _ => some "dict"
  | _ => none
theorem tyx_of {H : Hp} {ρ : Rho} {x : D} {v : V} {T : String} (h : RelR c H ρ x v) (e : tyName x = some T) : TyX c.K H v (.type T) := by
  cases x with
  | non => cases e; cases h; exact .base .non
  | bl _ => cases e; cases h; exact .base (.bl _)
  | int _ => cases e; cases h; exact .base (.int _)
  | str _ => cases e; obtain ⟨rfl, _⟩ := h; exact .base (.str _)
  | tup _ => cases e; obtain ⟨a, xs, rfl, n, hH, l, r⟩ := h; exact .base (.tup hH)
  | ctp _ => cases e; obtain ⟨a, xs, rfl, ⟨o, its, n, h1, h2, _⟩, l, r⟩ := h; exact .kTuple h1 h2
  | lst _ => cases e; obtain ⟨a, xs, rfl, hH, l, r⟩ := h; exact .base (.lst hH)
  | dic t kvs =>
    cases e
    obtain ⟨a, xs, rfl, hd, r⟩ := h
    cases t with
    | false => obtain ⟨ks, h1, h2⟩ := hd; exact .base (.dK h2)
    | true => obtain ⟨ks, h1, h2⟩ := hd; exact .base (.dT h2)
  | _ => cases e
def cIsi : List D → Option D
  | [x, .ty T] => match tyName x with
    | some S => (kitB S T).map .bl
    | none => none
  | _ => none
theorem cd_isi : CallD c (rIsi c.K) cIsi := fun H ρ xs vs z Q fr rs e k => by
  unfold cIsi at e
  split at e
  · split at e
    · rename_i S hS
      obtain ⟨b, hb, rfl⟩ := Option.map_eq_some_iff.mp e
      obtain ⟨v, w, rfl, r1, r2⟩ := rs.two
      cases r2
      exact ⟨v, _, _, _, b, rfl, .ty _, tyx_of r1 hS, kit_ty hb, k _ H (Same.refl H) rfl⟩
    · cases e
  · cases e
end
end Mn

namespace Mn
open PySem PySem.Spec PyProof.Rows L2

section
variable {X : Cx} {c : Cn} {U : WX} {a b : Expr} {es : List Expr} {pos p p2 : Pos}
/-! ### a built-in type's methods that change nothing -/
def MtD (c : Cn) (T : String) (r : V → List V → Hp → VK → Prop) (g : D → List D → Option D) : Prop :=
  ∀ H ρ x xs v vs z Q, Fresh c H ρ → RelR c H ρ x v → RelRs c H ρ xs vs → g x xs = some z → DK c H ρ z Q → r v vs H Q
theorem tyV_of {H : Hp} {ρ : Rho} {x : D} {v : V} {T : String} (h : RelR c H ρ x v) (e : tyName x = some T) (ht : T = "str" ∨ T = "list" ∨ T = "dict") : tyV c.K T v H := by
  cases x with
  | str _ => cases e; obtain ⟨rfl, _⟩ := h; rfl
  | lst _ => cases e; obtain ⟨a, xs, rfl, hH, l, r⟩ := h; exact .inl ⟨rfl, xs, .of hH⟩
  | dic t kvs =>
    cases e
    obtain ⟨a, xs, rfl, hd, r⟩ := h
    cases t with
    | false => obtain ⟨ks, h1, h2⟩ := hd; exact .inr (.inr (.inl ⟨rfl, .inl ⟨_, h2⟩⟩))
    | true => obtain ⟨ks, h1, h2⟩ := hd; exact .inr (.inr (.inl ⟨rfl, .inr ⟨_, h2⟩⟩))
  | non => cases e; exact absurd ht (by decide)
  | bl _ => cases e; exact absurd ht (by decide)
  | int _ => cases e; exact absurd ht (by decide)
  | tup _ => cases e; exact absurd ht (by decide)
  | ctp _ => cases e; exact absurd ht (by decide)
  | _ => cases e
def mMt (T : String) (g : D → List D → Option D) (fo : FE) (fa : FA) : FE := fun e vh => bnd (fo e vh) fun w vh1 => opt (see vh1 w) fun x0 => if tyName x0 = some T ∧ (T = "str" ∨ T = "list" ∨ T = "dict") then
  bnd (fa e vh1) fun ws vh2 => opt (see vh2 w) fun x => opt (sees vh2 ws) fun xs => opt (g x xs) fun z => .ok (.d z) vh2 else .stuck
theorem me_mt {o : Expr} {e : Expr} {name : Str} {apos cpos : Pos} {T id : String} {r : V → List V → Hp → VK → Prop} {g : D → List D → Option D} {fo : FE} {fa : FA} (hc : X.K = c.K) (pa : PlainAttrs T) (slot : Slot T name id) (hty : typeOf (.builtin id) = pure (.type "method_descriptor")) (hm : MtR X id r) (hd : MtD c T r g) (ho : PE X o (tM c U fo)) (ha : PA X (e :: es) (tMA c U fa))
    (hbase : attributeBase o name X.env (eval o X.env) = eval o X.env := by rfl)
    (hfew : ((backTo cpos (starEach (e :: es) X.env)).all (fun x => !x.1) && (backToKw cpos (keywordEach [] X.env)).all (fun x => x.1.isSome)
      && decide ((e :: es).length + ([] : List Keyword).length + (if ([] : List Keyword).isEmpty then 0 else 1) < 30)) = true := by rfl)
    (hline : (apos.endLine == cpos.line) = true := by rfl) (hs : starEach (e :: es) X.env = (false, eval e X.env) :: starEach es X.env := by rfl) (hplain : (backTo cpos (starEach es X.env)).any (·.1) = false := by rfl) :
    PE X (.Call (.Attribute o name apos) (e :: es) [] cpos) (tM c U (mMt T g fo fa)) := by
  have hx := pe_bm pa slot hty hm ho ha hbase hfew hline hs hplain
  rw [hc] at hx
  exact pe_imp hx fun σ H Q ⟨e, ρ, vh, he, hh, h⟩ => (use he hh h).mono fun v H1 ⟨w, vh1, ρ1, r1, A, g1, f1⟩ => by
    obtain ⟨x0, e0, o⟩ := opt_out A.out
    split at o
    · rename_i ht
      refine ⟨tyV_of (see_ok A.rh r1 e0) ht.1 ht.2, ?_⟩
      refine (useA A.re A.rh o).mono fun vs H2 ⟨ws, vh2, ρ2, rs, B, g2, f2⟩ => ?_
      obtain ⟨x, e1, o⟩ := opt_out B.out
      obtain ⟨xs, e2, o⟩ := opt_out o
      obtain ⟨z, e3, o⟩ := opt_out o
      exact hd H2 ρ2 x xs v vs z Q B.rh.fr (see_ok B.rh (r1.stay g2 f2) e1) (sees_ok B.rh rs e2) e3 (pure_out B.rh o)
    · exact o.elim
theorem me_mt0 {o : Expr} {name : Str} {apos cpos : Pos} {T id : String} {r : V → List V → Hp → VK → Prop} {g : D → List D → Option D} {fo : FE} (hc : X.K = c.K) (pa : PlainAttrs T) (slot : Slot T name id) (hty : typeOf (.builtin id) = pure (.type "method_descriptor")) (hm : MtR X id r) (hd : MtD c T r g) (ho : PE X o (tM c U fo))
    (hbase : attributeBase o name X.env (eval o X.env) = eval o X.env := by rfl) (hline : (apos.endLine == cpos.line) = true := by rfl) : PE X (.Call (.Attribute o name apos) [] [] cpos) (tM c U (mMt T g fo mNil)) := by
  have hx := pe_bm0 pa slot hty hm ho hbase hline
  rw [hc] at hx
  exact pe_imp hx fun σ H Q ⟨e, ρ, vh, he, hh, h⟩ => (use he hh h).mono fun v H1 ⟨w, vh1, ρ1, r1, A, g1, f1⟩ => by
    obtain ⟨x0, e0, o⟩ := opt_out A.out
    split at o
    · rename_i ht
      refine ⟨tyV_of (see_ok A.rh r1 e0) ht.1 ht.2, ?_⟩
      obtain ⟨x, e1, o1⟩ := opt_out (show Out _ _ _ _ _ (opt (see vh1 w) _) _ from o)
      obtain ⟨xs, e2, o2⟩ := opt_out o1
      obtain ⟨z, e3, o3⟩ := opt_out o2
      have e4 : xs = [] := (Option.some.inj e2).symm
      rw [e4] at e3
      exact hd H1 ρ1 x [] v [] z Q A.rh.fr (see_ok A.rh r1 e1) trivial e3 (pure_out A.rh o3)
    · exact o.elim
/-- all are texts -/
def asStrs : List D → Option (List Str)
  | [] => some []
  | .str b :: r => (asStrs r).map (b :: ·)
  | _ => none
theorem asStrs_ok {H : Hp} {ρ : Rho} : ∀ {ds : List D} {vs : List V} {bs : List Str}, RelDs c H ρ ds vs → asStrs ds = some bs → vs = bs.map V.str ∧ ∀ b ∈ bs, PyData.strOk b = true
  | [], [], _, _, e => by cases e; exact ⟨rfl, fun _ h => nomatch h⟩
  | .str b :: ds, v :: vs, bs, ⟨⟨r, _, hs⟩, t⟩, e => by
    obtain ⟨bs', h, rfl⟩ := Option.map_eq_some_iff.mp e
    subst r
    obtain ⟨h1, h2⟩ := asStrs_ok t h
    exact ⟨by rw [h1]; rfl, fun x hx => by
      rcases List.mem_cons.mp hx with e | hx
      · rw [e]; exact hs
      · exact h2 x hx⟩
def gJoin (x : D) (xs : List D) : Option D := match x, xs with
  | .str a, [y] => match asSeq y with
    | some ds => match asStrs ds with
      | some ys => if (ys.map (·.length)).sum + ys.length * a.length ≤ 16777216 ∧ (Txt.join a ys).length ≤ sizeLine ∧ PyData.strOk (Txt.join a ys) = true then some (.str (Txt.join a ys)) else none
      | none => none
    | none => none
  | _, _ => none
theorem md_join : MtD c "str" (fun x xs H Q => ∃ a p, ∃ ys : List Str, x = .str a ∧ xs = [.ref p] ∧ (SqL c.K H p (ys.map V.str) ∨ SqT c.K H p (ys.map V.str)) ∧
    (ys.map (·.length)).sum + ys.length * a.length ≤ 16777216 ∧ Q (.str (Txt.join a ys)) H) gJoin := fun H ρ x xs v vs z Q fr rx rs e k => by
  unfold gJoin at e
  split at e
  · split at e
    · rename_i ds hds
      split at e
      · rename_i ys hys
        split at e
        · rename_i hl
          cases e
          obtain ⟨w, rfl, rw'⟩ := rs.one
          obtain ⟨q, us, rfl, hq, l, r⟩ := asSeq_ok rw' hds
          obtain ⟨h1, h2⟩ := asStrs_ok r hys
          rw [h1] at hq
          exact ⟨_, q, ys, rx.1, rfl, hq, hl.1, k _ H (Same.refl H) ⟨rfl, hl.2.1, hl.2.2⟩⟩
        · cases e
      · cases e
    · cases e
  · cases e

/-! ### methods that change a list -/
/-- what a changing method does: the result, the new items -/
def MutD (c : Cn) (r : V → List V → Hp → VK → Prop) (g : List D → List D → Option (D × List D)) : Prop :=
  ∀ H ρ a ds us xs vs z ds' Q, H a = some (.lst us) → ds.length ≤ sizeLine → RelDs c H ρ ds us → RelDs c H ρ xs vs → g ds xs = some (z, ds') →
    (∀ v' us', RelDs c H ρ ds' us' → ds'.length ≤ sizeLine → (∀ ρ', Grow ρ H ρ' → RelD c (upd H a (.lst us')) ρ' z v' ∨ RelD c H ρ z v') → Q v' (upd H a (.lst us'))) → r (.ref a) vs H Q
def mMut (g : List D → List D → Option (D × List D)) (fo : FE) (fa : FA) : FE := fun e vh => bnd (fo e vh) fun w vh1 => match w with
  | .ref k => match vh1[k]? with
    | some (.lst _) => bnd (fa e vh1) fun ws vh2 => opt (datas ws) fun xs => match vh2[k]? with
      | some (.lst ds) => opt (g ds xs) fun z => .ok (.d z.1) (vh2.set k (.lst z.2))
      | _ => .stuck
    | _ => .stuck
  | _ => .stuck
/-- the object at k is replaced -/
theorem RelH.put {H : Hp} {ρ : Rho} {vh : VH} {k : Nat} {a : Addr} {o : HO} {vo : VO} (hh : RelH c H ρ vh) (ha : ρ[k]? = some (some a)) (r : RelO c (upd H a o) ρ vo (some a)) : RelH c (upd H a o) ρ (vh.set k vo) := by
  have hm : some a ∈ ρ := List.mem_of_getElem? ha
  have fm : Fm H (upd H a o) ρ := fun b u hb e => by rw [upd_ne (fun (z : b = a) => hb (by rw [z]; exact hm))]; exact e
  refine ⟨by rw [List.length_set]; exact hh.len, hh.inj, fun i w e => ?_, fun b hb => ?_⟩
  rotate_left
  · obtain ⟨⟨u, e⟩, n⟩ := hh.hid b hb
    exact ⟨⟨u, by rw [upd_ne (fun z => n (by rw [z]; exact hm))]; exact e⟩, n⟩
  by_cases hi : i = k
  · subst hi
    rw [List.getElem?_set] at e
    rw [if_pos rfl] at e
    split at e
    · cases e; exact ⟨some a, ha, r⟩
    · cases e
  · rw [List.getElem?_set_ne (fun z => hi z.symm)] at e
    obtain ⟨q, hq, rq⟩ := hh.at' i w e
    refine ⟨q, hq, rq.stay (Grow.refl _ _) fm fun b u eb hb => ?_⟩
    rw [upd_ne]
    · exact hb
    · intro z
      subst z
      subst eb
      exact hi (hh.inj i k b hq ha)
theorem Fm.put {H : Hp} {ρ : Rho} {k : Nat} {a : Addr} {o : HO} (ha : ρ[k]? = some (some a)) : Fm H (upd H a o) ρ := fun b u hb e => by rw [upd_ne (fun (z : b = a) => hb (by rw [z]; exact List.mem_of_getElem? ha))]; exact e
theorem mut_use {K : PySem.W.Frag} {r : V → List V → Hp → VK → Prop} {g : List D → List D → Option (D × List D)} {fo : FE} {fa : FA} (hk : c.K = K) (hd : MutD c r g) {σ : L2.St} {H : Hp} {Q : VK} (h : tM c U (mMut g fo fa) σ H Q) :
    tM c U fo σ H fun x H1 => tyV K "list" x H1 ∧ tMA c U fa σ H1 fun xs H2 => r x xs H2 Q := by
  subst hk
  obtain ⟨e, ρ, vh, he, hh, h⟩ := h
  refine (use he hh h).mono fun v H1 ⟨w, vh1, ρ1, r1, A, g1, f1⟩ => ?_
  have o := A.out
  split at o
  · rename_i k
    split at o
    · rename_i ds0 hk0
      obtain ⟨q, hq, a, xs0, rfl, hH0, l0, r0⟩ := A.rh.at' k _ hk0
      obtain rfl := r1.2 a hq
      refine ⟨.inl ⟨rfl, xs0, .of hH0⟩, ?_⟩
      refine (useA A.re A.rh o).mono fun vs H2 ⟨ws, vh2, ρ2, rs, B, g2, f2⟩ => ?_
      obtain ⟨xs, e1, o⟩ := opt_out B.out
      split at o
      · rename_i ds hk
        obtain ⟨z, e2, o⟩ := opt_out o
        obtain ⟨q, hq2, a2, us, rfl, hH, l, rr⟩ := B.rh.at' k _ hk
        have r1' := r1.stay g2 f2
        obtain rfl : a = a2 := V.ref.inj (r1'.2 a2 hq2)
        refine hd H2 ρ2 a ds us xs vs z.1 z.2 Q hH l rr (datas_ok rs e1) e2 fun v' us' ru lu hz => ?_
        have fm := Fm.put (H := H2) (o := .lst us') hq2
        refine o _ _ (Grow.refl _ _) fm (B.rh.put (o := .lst us') (vo := .lst z.2) hq2 ⟨a, us', rfl, upd_same, lu, ru.stay (Grow.refl _ _) fm⟩) v' ?_
        rcases hz ρ2 (Grow.refl _ _) with h | h
        · exact h
        · exact RelD.stay (Grow.refl _ _) fm h
      · exact o.elim
    · exact o.elim
  · exact o.elim
theorem me_mut {o : Expr} {e : Expr} {name : Str} {apos cpos : Pos} {id : String} {r : V → List V → Hp → VK → Prop} {g : List D → List D → Option (D × List D)} {fo : FE} {fa : FA} (hc : X.K = c.K) (slot : Slot "list" name id) (hty : typeOf (.builtin id) = pure (.type "method_descriptor")) (hm : MtM X id r) (hd : MutD c r g) (ho : PE X o (tM c U fo)) (ha : PA X (e :: es) (tMA c U fa))
    (hbase : attributeBase o name X.env (eval o X.env) = eval o X.env := by rfl)
    (hfew : ((backTo cpos (starEach (e :: es) X.env)).all (fun x => !x.1) && (backToKw cpos (keywordEach [] X.env)).all (fun x => x.1.isSome)
      && decide ((e :: es).length + ([] : List Keyword).length + (if ([] : List Keyword).isEmpty then 0 else 1) < 30)) = true := by rfl)
    (hline : (apos.endLine == cpos.line) = true := by rfl) (hs : starEach (e :: es) X.env = (false, eval e X.env) :: starEach es X.env := by rfl) (hplain : (backTo cpos (starEach es X.env)).any (·.1) = false := by rfl) :
    PE X (.Call (.Attribute o name apos) (e :: es) [] cpos) (tM c U (mMut g fo fa)) :=
  pe_imp (pe_bm PySem.F.plainAttrs_list slot hty hm ho ha hbase hfew hline hs hplain) fun σ H Q h => mut_use (by rw [hc]) hd h
theorem me_mut0 {o : Expr} {name : Str} {apos cpos : Pos} {id : String} {r : V → List V → Hp → VK → Prop} {g : List D → List D → Option (D × List D)} {fo : FE} (hc : X.K = c.K) (slot : Slot "list" name id) (hty : typeOf (.builtin id) = pure (.type "method_descriptor")) (hm : MtM X id r) (hd : MutD c r g) (ho : PE X o (tM c U fo))
    (hbase : attributeBase o name X.env (eval o X.env) = eval o X.env := by rfl) (hline : (apos.endLine == cpos.line) = true := by rfl) : PE X (.Call (.Attribute o name apos) [] [] cpos) (tM c U (mMut g fo mNil)) :=
  pe_imp (pe_bm0 PySem.F.plainAttrs_list slot hty hm ho hbase hline) fun σ H Q h => (mut_use (K := X.K) (by rw [hc]) hd h).mono fun v H1 ⟨h1, e, ρ, vh, he, hh, h2⟩ => ⟨h1, h2.here hh [] trivial⟩
def gAppend (ds xs : List D) : Option (D × List D) := match xs with
  | [x] => if ds.length < sizeLine then some (.non, ds ++ [x]) else none
  | _ => none
theorem mu_append : MutD c rAppend gAppend := fun H ρ a ds us xs vs z ds' Q hH l r rx e k => by
  unfold gAppend at e
  split at e
  · split at e
    · rename_i x hl
      cases e
      match vs, rx with
      | [v], ⟨r1, _⟩ =>
        refine ⟨a, us, v, rfl, rfl, hH, by rw [← r.length]; exact hl, k .non _ (r.append ⟨r1, trivial⟩) ?_ fun ρ' _ => .inr rfl⟩
        rw [List.length_append]; exact hl
    · cases e
  · cases e
def gInsert (ds xs : List D) : Option (D × List D) := match xs with
  | [.int i, x] => if ds.length < sizeLine ∧ 0 ≤ i ∧ i < 2 ^ 63 then some (.non, ds.take i.toNat ++ [x] ++ ds.drop i.toNat) else none
  | _ => none
abbrev rInsert : V → List V → Hp → VK → Prop := fun x vs H Q => ∃ (l : Addr) (xs : List V) (i : Int) (y : V), x = .ref l ∧ vs = [.int i, y] ∧ H l = some (.lst xs) ∧ xs.length < sizeLine ∧ 0 ≤ i ∧ i < 2 ^ 63 ∧ Q .non (upd H l (.lst (xs.take i.toNat ++ [y] ++ xs.drop i.toNat)))
theorem mu_insert : MutD c rInsert gInsert := fun H ρ a ds us xs vs z ds' Q hH l r rx e k => by
  unfold gInsert at e
  split at e
  · split at e
    · rename_i i x hl
      cases e
      match vs, rx with
      | [v0, v], ⟨r0, r1, _⟩ =>
        cases r0
        refine ⟨a, us, i, v, rfl, rfl, hH, by rw [← r.length]; exact hl.1, hl.2.1, hl.2.2, k .non _ (((r.take i.toNat).append (show RelDs c H ρ [x] [v] from ⟨r1, trivial⟩)).append (r.drop i.toNat)) ?_ fun ρ' _ => .inr rfl⟩
        have h1 := hl.1
        simp only [List.length_append, List.length_take, List.length_drop, List.length_singleton]
        omega
    · cases e
  · cases e
def gClear (ds xs : List D) : Option (D × List D) := match xs with
  | [] => some (.non, [])
  | _ => none
theorem mu_clear : MutD c rClear gClear := fun H ρ a ds us xs vs z ds' Q hH l r rx e k => by
  unfold gClear at e
  split at e
  · cases e
    match vs, rx with
    | [], _ => exact ⟨a, us, rfl, rfl, hH, k .non [] trivial (Nat.zero_le _) fun ρ' _ => .inr rfl⟩
  · cases e
end
end Mn

namespace Mn
open PySem PySem.Spec PyProof.Rows L2

/-! ### targets -/
abbrev FTg := D → Env → Option Env
def SameBut (vs : List Nat) (σ σ' : L2.St) : Prop := σ'.length = σ.length ∧ ∀ i, i ∉ vs → σ'[i]? = σ[i]?
def tMG (c : Cn) (A : FTg) (vs : List Nat) : TG := fun v σ H Q => ∃ e ρ d e', RelE c H ρ e σ ∧ RelD c H ρ d v ∧ A d e = some e' ∧ ∀ σ', RelE c H ρ e' σ' → SameBut vs σ σ' → Q σ' H
def aName (i : Nat) : FTg := fun d e => some (e.set i (some (.d d)))
abbrev FTgs := List D → Env → Option Env
def aNil : FTgs := fun ds e => match ds with
  | [] => some e
  | _ => none
def aCons (A : FTg) (B : FTgs) : FTgs := fun ds e => match ds with
  | d :: r => match A d e with
    | some e' => B r e'
    | none => none
  | [] => none
def aTup (n : Nat) (B : FTgs) : FTg := fun d e => match asTup d with
  | some ds => if ds.length = n then B ds e else none
  | none => none
def tMGs (c : Cn) (A : FTgs) (vs : List Nat) : TGs := fun us σ H Q => ∃ e ρ ds e', RelE c H ρ e σ ∧ RelDs c H ρ ds us ∧ A ds e = some e' ∧ ∀ σ', RelE c H ρ e' σ' → SameBut vs σ σ' → Q σ' H
section
variable {X : Cx} {c : Cn} {U : WX} {pos : Pos}
theorem SameBut.refl (vs : List Nat) (σ : L2.St) : SameBut vs σ σ := ⟨rfl, fun _ _ => rfl⟩
theorem SameBut.trans {vs : List Nat} {σ σ1 σ2 : L2.St} (a : SameBut vs σ σ1) (b : SameBut vs σ1 σ2) : SameBut vs σ σ2 := ⟨b.1.trans a.1, fun i hi => (b.2 i hi).trans (a.2 i hi)⟩
theorem SameBut.mono {vs ws : List Nat} {σ σ1 : L2.St} (a : SameBut vs σ σ1) (h : ∀ i ∈ vs, i ∈ ws) : SameBut ws σ σ1 := ⟨a.1, fun i hi => a.2 i fun z => hi (h i z)⟩
theorem pg_imp {tg : Expr} {t t' : TG} (h : PG X tg t) (i : ∀ v σ H Q, t' v σ H Q → t v σ H Q) : PG X tg t' := ⟨fun pins s σ H v u Q I r q => h.run pins s σ H v u Q I r (i v σ H Q q)⟩
theorem pgs_imp {ts : List Expr} {t t' : TGs} (h : PGs X ts t) (i : ∀ v σ H Q, t' v σ H Q → t v σ H Q) : PGs X ts t' := ⟨fun pins s σ H v u Q I r q => h.run pins s σ H v u Q I r (i v σ H Q q)⟩
theorem mg_name (i : Nat) {x : Str} (hN : X.N.Nodup) (hi : X.N[i]? = some x := by rfl) (hx : Loc X.env.scope x := by first | exact Or.inl rfl | exact Or.inr rfl) (hf : X.fn x = true ∨ X.env.scope.names.lookup x = some .local := by first | exact .inl rfl | exact .inr rfl) : PG X (.Name x pos) (tMG c (aName i) [i]) :=
  pg_imp (pg_name hN hi hx hf) fun v σ H Q ⟨e, ρ, d, e', he, hd, ha, k⟩ => by
    cases ha
    exact k _ (he.set (show RelW c H ρ (.d d) v from hd)) ⟨by rw [List.length_set], fun j hj => by rw [List.getElem?_set_ne (fun z => hj (by simp [z]))]⟩
theorem mgs_nil : PGs X [] (tMGs c aNil []) := pgs_imp pgs_nil fun v σ H Q ⟨e, ρ, ds, e', he, hd, ha, k⟩ => by
  cases ds with
  | nil => cases ha; cases v with
    | nil => exact ⟨rfl, k σ he (SameBut.refl _ _)⟩
    | cons _ _ => exact hd.elim
  | cons _ _ => cases ha
theorem mgs_cons {t : Expr} {ts : List Expr} {A : FTg} {B : FTgs} {vs ws : List Nat} (h1 : PG X t (tMG c A vs)) (h2 : PGs X ts (tMGs c B ws)) (hs : (assignEach (t :: ts) X.env).map (·.2) = assign t X.env :: (assignEach ts X.env).map (·.2) := by rfl) : PGs X (t :: ts) (tMGs c (aCons A B) (vs ++ ws)) :=
  pgs_imp (pgs_cons h1 h2 hs) fun us σ H Q ⟨e, ρ, ds, e', he, hd, ha, k⟩ => by
    match ds, us, hd with
    | [], _, _ => cases ha
    | d :: ds, u :: us, ⟨r, t⟩ =>
      simp only [aCons] at ha
      split at ha
      · rename_i e1 h1
        exact ⟨u, us, rfl, e, ρ, d, e1, he, r, h1, fun σ1 he1 s1 => ⟨e1, ρ, ds, e', he1, t, ha, fun σ2 he2 s2 => k σ2 he2 ((s1.mono fun i hi => List.mem_append_left _ hi).trans (s2.mono fun i hi => List.mem_append_right _ hi))⟩⟩
      · cases ha
theorem mg_tup {ts : List Expr} {k : Nat} {B : FTgs} {vs : List Nat} {n : Nat} (hk : X.K = c.K) (hc : X.calm = true) (h : PGs X ts (tMGs c B vs)) (hn : (assignEach ts X.env).length = n := by rfl) (hst : (assignEach ts X.env).findIdx? (·.1) = none := by rfl) : PG X (.Tuple ts k pos) (tMG c (aTup n B) vs) :=
  pg_imp (pg_tup hc h hn hst) fun v σ H Q ⟨e, ρ, d, e', he, hd, ha, k⟩ => by
    unfold aTup at ha
    split at ha
    · rename_i ds hds
      split at ha
      · rename_i hl
        obtain ⟨a, xs, rfl, hs, _, r⟩ := asTup_ok hd.r hds
        exact ⟨a, xs, rfl, by rw [hk]; exact hs, by rw [← r.length]; exact hl, e, ρ, ds, e', he, r, ha, k⟩
      · cases ha
    · cases ha
end

/-! ### a[i] = v -/
def mSetItem (fo fi fv : FE) : FS := fun e vh => lft (fv e vh) e fun wv vh1 => lft (fo e vh1) e fun wo vh2 => lft (fi e vh2) e fun wi vh3 => match wo with
  | .d _ => .stuck
  | .ref k => match wv with
  | .ref _ => .stuck
  | .d x => match see vh3 wi with
  | none => .stuck
  | some i => match vh3[k]? with
    | some (.lst ds) => match i with
      | .int n => match ixN ds.length n with
        | some j => .nx e (vh3.set k (.lst (ds.set j x)))
        | none => .stuck
      | _ => .stuck
    | some (.dic t kvs) => match dPut t kvs i x with
      | some kvs' => if kvs.length < sizeLine then .nx e (vh3.set k (.dic t kvs')) else .stuck
      | none => .stuck
    | _ => .stuck
section
variable {X : Cx} {c : Cn} {U : WX} {pos : Pos}
theorem PSet.or {t t' : TSet} (h : PSet X t) (h' : PSet X t') : PSet X (fun o i v H Q => t o i v H Q ∨ t' o i v H Q) := by
  intro pins s σ H o i v ov iv u Q I ro ri rv q
  rcases q with q | q
  · exact h pins s σ H o i v ov iv u Q I ro ri rv q
  · exact h' pins s σ H o i v ov iv u Q I ro ri rv q
theorem ms_setItem {o i v : Expr} {fo fi fv : FE} {pos' : Pos} (hu : X.A.units + 1 < cLine) (ho : PE X o (tM c U fo)) (hi : PE X i (tM c U fi)) (hv : PE X v (tM c U fv)) (hs : swapsWithSole [.Subscript o i pos'] v pos.line X.env = pure false := by rfl) (hw : swappedStores [.Subscript o i pos'] v X.env = pure none := by rfl)
    (h1 : (assignEach [.Subscript o i pos'] X.env).map (·.2) = [assign (.Subscript o i pos') X.env] := by rfl)
    (ha : ∀ v, assign (.Subscript o i pos') X.env v = (do
      let ov ← holding [v] (eval o X.env)
      let iv ← holding [v, ov] (eval i X.env)
      standAt pos'
      holding [v, ov, iv] (setItem ov iv v)
      release [v, ov, iv] []) := by intro _; rfl) : PS X (.Assign [.Subscript o i pos'] v pos) (tMS c U (mSetItem fo fi fv)) :=
  ps_imp (ps_asg hv (pg_sub ho hi (PSet.or set_list (set_dict hu)) ha) hs hw h1) fun D σ H ⟨e, ρ, vh, he, hh, h⟩ =>
    (useS he hh h).mono fun v1 H1 ⟨w1, vh1, ρ1, r1, A, g1, f1⟩ => (useS A.re A.rh A.out).mono fun v2 H2 ⟨w2, vh2, ρ2, r2, B, g2, f2⟩ => (useS B.re B.rh B.out).mono fun v3 H3 ⟨w3, vh3, ρ3, r3, C, g3, f3⟩ => by
      have o := C.out
      have r1' := (r1.stay g2 f2).stay g3 f3
      have r2' := r2.stay g3 f3
      cases w2 with
      | d _ => exact o.elim
      | ref k => cases w1 with
      | ref _ => exact o.elim
      | d x =>
      dsimp only at o
      cases hs3 : see vh3 w3 with
      | none => rw [hs3] at o; exact o.elim
      | some i =>
        rw [hs3] at o
        dsimp only at o
        have r3' := see_ok C.rh r3 hs3
        split at o
        · rename_i ds hk
          split at o
          · rename_i n
            split at o
            · rename_i j hj
              obtain ⟨q, hq, a, us, rfl, hH, l, rr⟩ := C.rh.at' k _ hk
              obtain rfl := r2'.2 a hq
              refine .inl ⟨a, us, n, j, rfl, r3', hH, by rw [← rr.length]; exact hj, ?_⟩
              have fm := Fm.put (H := H3) (o := .lst (us.set j v1)) hq
              refine o _ _ _ (Grow.refl _ _) fm (C.re.stay (Grow.refl _ _) fm) (C.rh.put (o := .lst (us.set j v1)) (vo := .lst (ds.set j x)) hq ⟨a, _, rfl, upd_same, by rw [List.length_set]; exact l, ?_⟩)
              exact RelDs.stay (Grow.refl _ _) fm (rr.set r1')
            · exact o.elim
          · exact o.elim
        · rename_i t kvs hk
          split at o
          · rename_i kvs' hp
            split at o
            · rename_i hl
              obtain ⟨q, hq, a, us, rfl, hd, rr⟩ := C.rh.at' k _ hk
              obtain rfl := r2'.2 a hq
              have fin : ∀ (ob : HO) (us' : List V), HDic (upd H3 a ob) a t kvs' us' → RelDv c H3 ρ3 kvs' us' → D.nx σ (upd H3 a ob) := fun ob us' hd' rr' => by
                have fm := Fm.put (H := H3) (o := ob) hq
                exact o _ _ _ (Grow.refl _ _) fm (C.re.stay (Grow.refl _ _) fm) (C.rh.put (o := ob) (vo := .dic t kvs') hq ⟨a, us', rfl, hd', RelDv.stay (Grow.refl _ _) fm rr'⟩)
              cases t with
              | false =>
                obtain ⟨ks, h1, h2⟩ := hd
                obtain ⟨key, hk1, rfl⟩ := Option.map_eq_some_iff.mp hp
                obtain ⟨ks', xs', e1, e2, e3⟩ := putK_K (v := v1) (d := x) hk1 r1' h1 rr
                refine .inr ⟨a, _, rfl, .inl ⟨_, key, h2, r3'.d_key hk1, by rw [List.length_zip, keysK_len h1, ← rr.length, Nat.min_self]; exact hl, rfl⟩, ?_⟩
                rw [e2]
                exact fin _ xs' ⟨ks', e1, upd_same⟩ e3
              | true =>
                obtain ⟨ks, h1, h2⟩ := hd
                obtain ⟨key, hk1, rfl⟩ := Option.map_eq_some_iff.mp hp
                obtain ⟨ks', xs', e1, e2, e3⟩ := putK_T (v := v1) (d := x) hk1 r1' h1 rr
                obtain ⟨b, eb, hb⟩ := r3'.d_keyT hk1
                refine .inr ⟨a, _, rfl, .inr ⟨_, key, b, h2, eb, hb, by rw [List.length_zip, keysT_len h1, ← rr.length, Nat.min_self]; exact hl, rfl⟩, ?_⟩
                rw [e2]
                exact fin _ xs' ⟨ks', e1, upd_same⟩ e3
            · exact o.elim
          · exact o.elim
        · exact o.elim
end

/-! ### other hidden lists, other places -/
structure Cn.Ext (c c' : Cn) (H : Hp) : Prop where
  k : c'.K = c.K
  m : c'.mg = c.mg
  h : ∀ a, a ∈ c'.hid → a ∈ c.hid ∨ ∀ o, H a ≠ some o
structure Mv (c : Cn) (ρ : Rho) (c' : Cn) (ρ' : Rho) (H : Hp) : Prop where
  k : c'.K = c.K
  m : c'.mg = c.mg
  off : ∀ a o, Off c ρ a → H a = some o → Off c' ρ' a
section
variable {c c' : Cn} {H : Hp} {ρ ρ' : Rho}
mutual
theorem RelD.mv (x : Mv c ρ c' ρ' H) : ∀ {d : D} {v : V}, RelD c H ρ d v → RelD c' H ρ' d v
  | .non, _, h => h
  | .bl _, _, h => h
  | .int _, _, h => h
  | .str _, _, h => h
  | .tup _, _, ⟨b, xs, e, n, hH, l, r⟩ => ⟨b, xs, e, x.off _ _ n hH, hH, l, RelDs.mv x r⟩
  | .ctp _, _, ⟨b, xs, e, ⟨o, its, m, h1, h2⟩, l, r⟩ => ⟨b, xs, e, ⟨o, its, m, by rw [x.k]; exact h1, h2⟩, l, RelDs.mv x r⟩
  | .lst _, _, ⟨b, xs, e, n, hH, l, r⟩ => ⟨b, xs, e, x.off _ _ n hH, hH, l, RelDs.mv x r⟩
  | .frz _, _, ⟨b, xs, e, t, l, r⟩ => ⟨b, xs, e, t.elim (fun ⟨n, hr⟩ => .inl ⟨hr.elim (fun hr => x.off _ _ n hr) fun ⟨_, hr⟩ => x.off _ _ n hr, hr⟩) (fun ⟨o, its, m, h1, h2⟩ => .inr ⟨o, its, m, by rw [x.k]; exact h1, h2⟩), l, RelDs.mv x r⟩
  | .dic _ _, _, ⟨b, xs, e, n, hH, r⟩ => ⟨b, xs, e, let ⟨_, ho⟩ := hH.ex; x.off _ _ n ho, hH, RelDv.mv x r⟩
  | .ins _ _, _, ⟨b, C, dx, xs, e, n, hm, hH, r⟩ => ⟨b, C, dx, xs, e, x.off _ _ n hH, by rw [x.m]; exact hm, hH, RelDf.mv x r⟩
  | .ty _, _, h => h
  | .cls _, _, ⟨C, e, hm⟩ => ⟨C, e, by rw [x.m]; exact hm⟩
theorem RelDs.mv (x : Mv c ρ c' ρ' H) : ∀ {xs : List D} {vs : List V}, RelDs c H ρ xs vs → RelDs c' H ρ' xs vs
  | [], [], h => trivial
  | _ :: _, _ :: _, ⟨h, t⟩ => ⟨RelD.mv x h, RelDs.mv x t⟩
theorem RelDv.mv (x : Mv c ρ c' ρ' H) : ∀ {xs : List (D × D)} {vs : List V}, RelDv c H ρ xs vs → RelDv c' H ρ' xs vs
  | [], [], h => trivial
  | (_, _) :: _, _ :: _, ⟨h, t⟩ => ⟨RelD.mv x h, RelDv.mv x t⟩
theorem RelDf.mv (x : Mv c ρ c' ρ' H) : ∀ {xs : List (Str × D)} {vs : List V}, RelDf c H ρ xs vs → RelDf c' H ρ' xs vs
  | [], [], h => trivial
  | (_, _) :: _, _ :: _, ⟨h, t⟩ => ⟨RelD.mv x h, RelDf.mv x t⟩
end
theorem Cn.Ext.mv (x : c.Ext c' H) : Mv c ρ c' ρ H := ⟨x.k, x.m, fun a o h e => ⟨h.1, fun z => (x.h a z).elim h.2 fun w => w o e⟩⟩
theorem RelD.re (x : c.Ext c' H) {d : D} {v : V} (h : RelD c H ρ d v) : RelD c' H ρ d v := RelD.mv x.mv h
theorem RelDs.re (x : c.Ext c' H) {d : List D} {v : List V} (h : RelDs c H ρ d v) : RelDs c' H ρ d v := RelDs.mv x.mv h
theorem Cn.Ext.refl : c.Ext c H := ⟨rfl, rfl, fun _ h => .inl h⟩
end
/-! ### what is walked -/
def Feeds (c : Cn) (ds : List D) (H0 : Hp) (ρ0 : Rho) (J : It) : Prop := ∀ c' H ρ i, c.Ext c' H0 → Grow ρ0 H0 ρ → Fw c' H0 H ρ0 → Fresh c' H ρ →
  (i < ds.length → J.go i H ∧ ∀ x H', J.yld i H x H' → Same H H' ∧ ∃ d, ds[i]? = some d ∧ RelD c' H' ρ d x) ∧ (ds.length ≤ i → J.stop i H)
abbrev FI := Env → VH → Res (List D)
def tMI (c : Cn) (U : WX) (f : FI) : TI := fun σ H R => ∃ e ρ vh, RelE c H ρ e σ ∧ RelH c H ρ vh ∧ Out c σ H ρ U (f e vh) fun ds _ H' ρ' => ∀ J, Feeds c ds H' ρ' J → R J H'
def mSeqI (f : FE) : FI := fun e vh => bnd (f e vh) fun w vh1 => match w with
  | .d x => match x with
    | .str z => .ok (z.cps.toList.map fun ch => .str ⟨#[ch]⟩) vh1
    | x => opt (asSeq x) fun ds => .ok ds vh1
  | _ => .stuck
def mRange1 (f : FE) : FI := fun e vh => bnd (f e vh) fun w vh1 => match see vh1 w with
  | some (.int j) => if -(2 ^ 62) ≤ j ∧ j < 2 ^ 62 then .ok ((List.range j.toNat).map fun (i : Nat) => .int (i : Int)) vh1 else .stuck
  | _ => .stuck
section
variable {X : Cx} {c : Cn} {U : WX} {pos p : Pos} {tg iter e : Expr}
theorem useI {β : Type} {f : FI} {k : List D → VH → RS} {D : Ends} {σ : L2.St} {H : Hp} {ρ : Rho} {e : Env} {vh : VH} (he : RelE c H ρ e σ) (hh : RelH c H ρ vh) (h : OutS c H ρ U (lft (f e vh) e k) D) :
    tMI c U f σ H fun J H1 => ∃ ds vh1 ρ1, Feeds c ds H1 ρ1 J ∧ AftS c U σ e H1 ρ1 vh1 (k ds vh1) D ∧ Grow ρ H ρ1 ∧ Fm H H1 ρ := by
  refine ⟨e, ρ, vh, he, hh, ?_⟩
  cases q : f e vh with
  | ok ds vh' =>
    rw [q] at h
    exact fun H' ρ' g fm rh J fd => ⟨ds, vh', ρ', fd, ⟨he.stay g fm, rh, h.later g fm⟩, g, fm⟩
  | exn x vh' => rw [q] at h; exact fun cls d H' ρ' g fm rx rh => h cls d σ H' ρ' g fm rx (he.stay g fm) rh
  | stuck => rw [q] at h; exact h
theorem useIE {β : Type} {f : FI} {k : List D → VH → Res β} {K : β → VH → Hp → Rho → Prop} {σ : L2.St} {H : Hp} {ρ : Rho} {e : Env} {vh : VH} (he : RelE c H ρ e σ) (hh : RelH c H ρ vh) (h : Out c σ H ρ U (bnd (f e vh) k) K) :
    tMI c U f σ H fun J H1 => ∃ ds vh1 ρ1, Feeds c ds H1 ρ1 J ∧ Aft c U σ e H1 ρ1 vh1 (k ds vh1) K ∧ Grow ρ H ρ1 ∧ Fm H H1 ρ := by
  refine ⟨e, ρ, vh, he, hh, ?_⟩
  cases q : f e vh with
  | ok ds vh' =>
    rw [q] at h
    exact fun H' ρ' g fm rh J fd => ⟨ds, vh', ρ', fd, ⟨he.stay g fm, rh, h.later g fm⟩, g, fm⟩
  | exn x vh' => rw [q] at h; exact h
  | stuck => rw [q] at h; exact h
theorem tMI.mono {f : FI} {σ : L2.St} {H : Hp} {Q Q' : It → Hp → Prop} (h : tMI c U f σ H Q) (q : ∀ v H, Q v H → Q' v H) : tMI c U f σ H Q' := by
  obtain ⟨e, ρ, vh, he, hh, o⟩ := h
  exact ⟨e, ρ, vh, he, hh, o.mono fun _ _ _ _ k J fd => q _ _ (k J fd)⟩
theorem pi_imp {t t' : TI} (h : PI X tg iter t) (i : ∀ σ H R, t' σ H R → t σ H R) : PI X tg iter t' := ⟨fun pins s σ H R I q => h.run pins s σ H R I (i σ H R q)⟩
theorem pi_or {t t' u : TI} (h : PI X tg iter t) (h' : PI X tg iter t') (k : ∀ σ H R, u σ H R → t σ H R ∨ t' σ H R) : PI X tg iter u := ⟨fun pins s σ H R I q => (k σ H R q).elim (h.run pins s σ H R I) (h'.run pins s σ H R I)⟩
theorem range_it' : True := trivial
/-- a list, a tuple or a text -/
theorem mi_seq {f : FE} (hk : X.K = c.K) (he : PE X iter (tM c U f)) : PI X tg iter (tMI c U (mSeqI f)) := by
  refine ⟨fun pins s σ H R I hw => ?_⟩
  obtain ⟨en, ρ, vh, he0, hh, h⟩ := hw
  have h2 : tM c U f σ H fun v H1 => (∃ a xs ds ρ1 vh1, v = .ref a ∧ H1 a = some (.lst xs) ∧ RelD c H1 ρ1 (.lst ds) v ∧ RelH c H1 ρ1 vh1 ∧ ∀ J, Feeds c ds H1 ρ1 J → R J H1) ∨ (∃ a xs ds ρ1 vh1, v = .ref a ∧ SqT c.K H1 a xs ∧ (RelD c H1 ρ1 (.tup ds) v ∨ RelD c H1 ρ1 (.ctp ds) v) ∧ RelH c H1 ρ1 vh1 ∧ ∀ J, Feeds c ds H1 ρ1 J → R J H1) ∨
      (∃ z, v = .str z ∧ ∃ ρ1, PyData.strOk z = true ∧ ∀ J, Feeds c (z.cps.toList.map fun ch => .str ⟨#[ch]⟩) H1 ρ1 J → R J H1) := by
    refine (use he0 hh h).mono fun v H1 ⟨w, vh1, ρ1, r, A, g1, f1⟩ => ?_
    have o := A.out
    split at o
    · rename_i x
      split at o
      · rename_i z
        exact .inr (.inr ⟨z, r.1, ρ1, r.2.2, o.here A.rh⟩)
      · obtain ⟨ds, hd, o⟩ := opt_out o
        have k := o.here A.rh
        cases x with
        | lst _ => cases hd; obtain ⟨a, xs, e1, n, hH, l, rr⟩ := id r; exact .inl ⟨a, xs, ds, ρ1, vh1, e1, hH, r, A.rh, k⟩
        | tup _ => cases hd; obtain ⟨a, xs, e1, n, hH, l, rr⟩ := id r; exact .inr (.inl ⟨a, xs, ds, ρ1, vh1, e1, .of hH, .inl r, A.rh, k⟩)
        | ctp _ => cases hd; obtain ⟨a, xs, e1, t, l, rr⟩ := id r; exact .inr (.inl ⟨a, xs, ds, ρ1, vh1, e1, t.sq, .inr r, A.rh, k⟩)
        | _ => cases hd
    · exact o.elim
  refine thn (he.run pins s σ H _ I h2) fun v s1 ⟨x, H1, I1, r1, q1⟩ => ?_
  rcases q1 with ⟨a, xs, ds, ρ1, vh1, rfl, hH, hr, rh, k⟩ | ⟨a, xs, ds, ρ1, vh1, rfl, hs, hr, rh, k⟩ | ⟨z, rfl, ρ1, hs, k⟩
  · cases r1
    obtain ⟨its, rv, p, hz⟩ := I1.list (.of hH)
    refine wpAny_pyIter_list p.isList ?_
    refine ⟨s1.heap.objs.size, [s1.heap.objs.size], _, _, H1, rfl, I1.kept (t' := s1.toks) fun b o e => Heap.get?_push_of_some _ e, turn_list a _, ⟨_, Heap.get?_push_size _ rfl, rfl, rfl⟩, fun b hb => ?_, k _ ?_⟩
    · have e : b = s1.heap.objs.size := by simpa using hb
      subst e
      exact I1.fpOk (Nat.le_refl _) (I1.hok.fresh (Nat.le_refl _))
    · intro c' H' ρ' i ce g f fr
      obtain ⟨a', xs', e1, n', hH', l', rr'⟩ := RelD.stayw g f (RelD.re ce hr)
      cases e1
      refine ⟨fun hi => ⟨⟨xs', xs'[i]'(by rw [← rr'.length]; exact hi), .of hH', by simp [← rr'.length, hi]⟩, fun x H2 hy => ?_⟩, fun hi => ⟨xs', .of hH', by rw [← rr'.length]; exact hi⟩⟩
      obtain ⟨rfl, hx⟩ := hy
      have hx' := hx xs' (.of hH')
      obtain ⟨d, h1, h2⟩ := rr'.get' hx'
      exact ⟨Same.refl _, d, h1, h2⟩
  · cases r1
    obtain ⟨its, rv, p, hz⟩ := I1.tuple (show SqT X.K H1 a xs by rw [hk]; exact hs)
    refine wpAny_pyIter_tuple (show s1.heap.IsTuple a its.toArray from p) ?_
    refine ⟨s1.heap.objs.size, [s1.heap.objs.size], _, _, H1, rfl, I1.kept (t' := s1.toks) fun b o e => Heap.get?_push_of_some _ e, turn_tuple a _, ⟨_, Heap.get?_push_size _ rfl, rfl, rfl⟩, fun b hb => ?_, k _ ?_⟩
    · have e : b = s1.heap.objs.size := by simpa using hb
      subst e
      exact I1.fpOk (Nat.le_refl _) (I1.hok.fresh (Nat.le_refl _))
    · intro c' H' ρ' i ce g f fr
      obtain ⟨xs', hs', rr'⟩ : ∃ xs', SqT X.K H' a xs' ∧ RelDs c' H' ρ' ds xs' := by
        rw [hk, ← ce.k]
        rcases hr with hr | hr
        · obtain ⟨a', xs', e1, n', hH', l', rr'⟩ := RelD.stayw g f (RelD.re ce hr); cases e1; exact ⟨xs', .of hH', rr'⟩
        · obtain ⟨a', xs', e1, t', l', rr'⟩ := RelD.stayw g f (RelD.re ce hr); cases e1; exact ⟨xs', t'.sq, rr'⟩
      refine ⟨fun hi => ⟨⟨xs', xs'[i]'(by rw [← rr'.length]; exact hi), hs', by simp [← rr'.length, hi]⟩, fun x H2 hy => ?_⟩, fun hi => ⟨xs', hs', by rw [← rr'.length]; exact hi⟩⟩
      obtain ⟨rfl, hx⟩ := hy
      have hx' := hx xs' hs'
      obtain ⟨d, h1, h2⟩ := rr'.get' hx'
      exact ⟨Same.refl _, d, h1, h2⟩
  · obtain ⟨t, rfl⟩ := r1
    have fd : Feeds c (z.cps.toList.map fun ch => .str ⟨#[ch]⟩) H1 ρ1 (Its z) := fun c' H' ρ' i ce g f fr => by
      rw [List.length_map, Array.length_toList]
      refine ⟨fun hi => ⟨hi, fun x H2 hy => ?_⟩, fun hi => hi⟩
      obtain ⟨rfl, ch, hc, rfl⟩ := hy
      have hm : ch ∈ z.cps.toList := by simpa using Array.mem_of_getElem? hc
      exact ⟨Same.refl _, .str ⟨#[ch]⟩, by rw [List.getElem?_map, Array.getElem?_toList, hc]; rfl, rfl, by show 1 ≤ sizeLine; decide, strOk_one hs hm⟩
    cases ha : z.cps.all (· < 128)
    · exact wpAny_pyIter_wide ha (pi_one (tk := s1.toks) I1 _ (turn_str _ z t "str_iterator" (.inr rfl)) ⟨_, Heap.get?_push_size _ rfl, rfl, rfl⟩ (k _ fd))
    · exact wpAny_pyIter_ascii ha (pi_one (tk := s1.toks) I1 _ (turn_str _ z t "str_ascii_iterator" (.inl rfl)) ⟨_, Heap.get?_push_size _ rfl, rfl, rfl⟩ (k _ fd))
/-- range(n) -/
theorem mi_range1 {a : Expr} {f : FE} (hg : Gl X "range") (hm : X.mg "range" = none) (ha : PE X a (tM c U f)) (hs : starEach [a] X.env = [(false, eval a X.env)] := by rfl) : PI X tg (.Call (.Name "range" p) [a] [] pos) (tMI c U (mRange1 f)) :=
  pi_imp (pi_range1 hg hm (ma_cons ha ma_nil (by rw [hs]; rfl)) hs) fun σ H R ⟨e, ρ, vh, he, hh, h⟩ => by
    refine ⟨e, ρ, vh, he, hh, ?_⟩
    unfold mRange1 at h
    unfold mCons mNil
    cases q : f e vh with
    | stuck => rw [q] at h; exact h.elim
    | exn x vh' => rw [q] at h; exact h
    | ok w vh' =>
      rw [q, bnd_ok] at h
      rw [bnd_ok, bnd_ok]
      intro H' ρ' g f rh vs hr
      match vs, hr with
      | [v], ⟨r, _⟩ =>
        cases hs : see vh' w with
        | none => simp only [hs] at h; exact h.elim
        | some x =>
          simp only [hs] at h
          split at h
          · rename_i j hj
            cases hj
            split at h
            · rename_i hb
              refine ⟨j, by rw [show v = .int j from see_ok rh r hs], hb.1, hb.2, h H' ρ' g f rh _ fun c' H2 ρ2 i ce g2 f2 fr => ?_⟩
              rw [List.length_map, List.length_range]
              refine ⟨fun hi => ⟨hi, fun x H3 hy => ?_⟩, fun hi => hi⟩
              obtain ⟨rfl, rfl⟩ := hy
              exact ⟨Same.refl _, .int (i : Int), by simp [hi], by show V.int (0 + (i : Int)) = V.int (i : Int); rw [Int.zero_add]⟩
            · exact h.elim
          · exact h.elim
end
end Mn

namespace Mn
open PySem PySem.Spec PyProof.Rows L2

/-! ### for, while -/
def mFor (A : FTg) (f : FS) : List D → Env → VH → RS
  | [], e, vh => .nx e vh
  | d :: ds, e, vh => match A d e with
    | none => .stuck
    | some e' => match f e' vh with
      | .nx e2 vh2 => mFor A f ds e2 vh2
      | .ct e2 vh2 => mFor A f ds e2 vh2
      | .bk e2 vh2 => .nx e2 vh2
      | r => r
def mForS (fi : FI) (A : FTg) (f : FS) : FS := fun e vh => lft (fi e vh) e fun ds vh' => mFor A f ds e vh'
def mWhile (t : FT) (f : FS) : Nat → Env → VH → RS
  | 0, _, _ => .stuck
  | n + 1, e, vh => lft (t e vh) e fun b vh1 => if b = true then match f e vh1 with
      | .nx e2 vh2 => mWhile t f n e2 vh2
      | .ct e2 vh2 => mWhile t f n e2 vh2
      | .bk e2 vh2 => .nx e2 vh2
      | r => r
    else .nx e vh1
section
variable {X : Cx} {c : Cn} {U : WX} {pos : Pos}
theorem ms_for {tg iter : Expr} {body : List Stmt} {fi : FI} {A : FTg} {vs : List Nat} {f : FS} (hp : PassesOwn (model X.prog X.w) X.A X.env X.xe) (hc : X.calm = true) (hi : PI X tg iter (tMI c U fi)) (hg : PG X tg (tMG c A vs)) (hb : PSs X body (tMS c U f))
    (hs : ∀ x, foldedSetIterable iter X.env x = pure x := by intro _; rfl) : PS X (.For tg iter body [] pos) (tMS c U (mForS fi A f)) :=
  ps_imp (ps_for hp hc hi hg hb hs) fun D σ H ⟨e, ρ, vh, he, hh, h⟩ => (useI (β := Unit) he hh h).mono fun J H1 ⟨ds, vh1, ρ1, fd, A0, g1, f1⟩ => by
    refine ⟨fun i m σ2 H2 => m = ds.length - i ∧ i ≤ ds.length ∧ ∃ e2 ρ2 vh2, Grow ρ1 H1 ρ2 ∧ Fm H1 H2 ρ1 ∧ RelE c H2 ρ2 e2 σ2 ∧ RelH c H2 ρ2 vh2 ∧ OutS c H2 ρ2 U (mFor A f (ds.drop i) e2 vh2) D,
      ⟨ds.length, by simp, Nat.zero_le _, e, ρ1, vh1, Grow.refl _ _, Fm.refl _ _, A0.re, A0.rh, A0.out⟩, ?_⟩
    rintro i m σ2 H2 ⟨rfl, hi, e2, ρ2, vh2, g2, f2, re, rh, o⟩
    obtain ⟨k1, k2⟩ := fd c H2 ρ2 i .refl g2 f2.w rh.fr
    by_cases hlt : i < ds.length
    · obtain ⟨go, yl⟩ := k1 hlt
      refine .inr ⟨go, fun σ' H' => ∃ e' ρ' vh', Grow ρ1 H1 ρ' ∧ Fm H1 H' ρ1 ∧ RelE c H' ρ' e' σ' ∧ RelH c H' ρ' vh' ∧ OutS c H' ρ' U (mFor A f (ds.drop (i + 1)) e' vh') D, fun σ' H' ⟨e', ρ', vh', a1, a2, a3, a4, a5⟩ => ⟨ds.length - (i + 1), by omega, rfl, hlt, e', ρ', vh', a1, a2, a3, a4, a5⟩, fun x H' hy => ?_⟩
      obtain ⟨sm, d, hd, rd⟩ := yl x H' hy
      rw [List.drop_eq_getElem_cons hlt] at o
      have ed : ds[i] = d := by rw [List.getElem?_eq_getElem hlt] at hd; exact Option.some.inj hd
      rw [ed] at o
      have re' : RelE c H' ρ2 e2 σ2 := re.stay (Grow.refl _ _) (Fm.same sm)
      have o' := o.later (Grow.refl _ _) (Fm.same sm)
      simp only [mFor] at o'
      cases qa : A d e2 with
      | none => rw [qa] at o'; exact o'.elim
      | some e' =>
        rw [qa] at o'
        dsimp only at o'
        refine ⟨e2, ρ2, d, e', re', rd, qa, fun σ' re2 _ => ⟨e', ρ2, vh2, re2, rh.same sm, ?_⟩⟩
        have f3 : Fm H1 H' ρ1 := Fm.trans g2 f2 (Fm.same sm)
        cases qf : f e' vh2 with
        | nx e3 vh3 => rw [qf] at o'; exact fun σ3 H3 ρ3 g3 f4 a b => ⟨e3, ρ3, vh3, g2.trans f2 (by exact ⟨g3.len, g3.old, fun a ha => (g3.new a ha).imp id fun z => by cases q : H2 a with | none => rfl | some o => rw [sm a o q] at z; cases z⟩), Fm.trans g2 f2 (Fm.trans (Grow.refl ρ2 H2) (Fm.same sm) f4), a, b, o'.later g3 f4⟩
        | ct e3 vh3 => rw [qf] at o'; exact fun σ3 H3 ρ3 g3 f4 a b => ⟨e3, ρ3, vh3, g2.trans f2 (by exact ⟨g3.len, g3.old, fun a ha => (g3.new a ha).imp id fun z => by cases q : H2 a with | none => rfl | some o => rw [sm a o q] at z; cases z⟩), Fm.trans g2 f2 (Fm.trans (Grow.refl ρ2 H2) (Fm.same sm) f4), a, b, o'.later g3 f4⟩
        | bk e3 vh3 => rw [qf] at o'; exact o'
        | rt w vh3 => rw [qf] at o'; exact o'
        | exn x e3 vh3 => rw [qf] at o'; exact o'
        | stuck => rw [qf] at o'; exact o'
    · have ei : i = ds.length := by omega
      subst ei
      rw [List.drop_length] at o
      exact .inl ⟨k2 (Nat.le_refl _), o.here re rh⟩
theorem ms_while {test : Expr} {body : List Stmt} {t : FT} {f : FS} (n : Nat) (hp : PassesOwn (model X.prog X.w) X.A X.env X.xe) (hc : PT X test (tMT c U t)) (hb : PSs X body (tMS c U f)) : PS X (.While test body [] pos) (tMS c U (mWhile t f n)) :=
  ps_imp (ps_while hp hc hb) fun D σ H ⟨e, ρ, vh, he, hh, h⟩ => by
    refine ⟨fun m σ2 H2 => ∃ e2 ρ2 vh2, RelE c H2 ρ2 e2 σ2 ∧ RelH c H2 ρ2 vh2 ∧ OutS c H2 ρ2 U (mWhile t f m e2 vh2) D, ⟨n, e, ρ, vh, he, hh, h⟩, ?_⟩
    rintro m σ2 H2 ⟨e2, ρ2, vh2, re, rh, o⟩
    cases m with
    | zero => exact o.elim
    | succ m =>
      simp only [mWhile] at o
      refine (useST re rh o).mono fun b H3 ⟨vh3, ρ3, B, _, _⟩ => ?_
      have o' := B.out
      cases b with
      | false => exact iteF (o'.here B.re B.rh)
      | true =>
        refine iteT ⟨fun σ' H' => ∃ e' ρ' vh', RelE c H' ρ' e' σ' ∧ RelH c H' ρ' vh' ∧ OutS c H' ρ' U (mWhile t f m e' vh') D, fun σ' H' ⟨e', ρ', vh', a3, a4, a5⟩ => ⟨m, Nat.lt_succ_self m, e', ρ', vh', a3, a4, a5⟩, ⟨e2, ρ3, vh3, B.re, B.rh, ?_⟩⟩
        rw [if_pos rfl] at o'
        cases qf : f e2 vh3 with
        | nx e3 vh4 => rw [qf] at o'; exact fun σ3 H3 ρ3 g3 f4 a b => ⟨e3, ρ3, vh4, a, b, o'.later g3 f4⟩
        | ct e3 vh4 => rw [qf] at o'; exact fun σ3 H3 ρ3 g3 f4 a b => ⟨e3, ρ3, vh4, a, b, o'.later g3 f4⟩
        | bk e3 vh4 => rw [qf] at o'; exact o'
        | rt w vh4 => rw [qf] at o'; exact o'
        | exn x e3 vh4 => rw [qf] at o'; exact o'
        | stuck => rw [qf] at o'; exact o'
end

/-! ### comprehensions -/
def wipeE (e : Env) : List Nat → Env
  | [] => e
  | v :: vs => (wipeE e vs).set v none
def mTests : List FT → FT
  | [] => fun _ vh => .ok true vh
  | t :: ts => fun e vh => bnd (t e vh) fun b vh1 => if b = true then mTests ts e vh1 else .ok false vh1
def mComp (A : FTg) (t : FT) (f : FE) (e : Env) : List D → VH → Res (List D)
  | [], vh => .ok [] vh
  | d :: ds, vh => match A d e with
    | none => .stuck
    | some e' => match t e' vh with
      | .ok false vh1 => mComp A t f e ds vh1
      | .ok true vh1 => match f e' vh1 with
        | .ok (.d x) vh2 => match mComp A t f e ds vh2 with
          | .ok xs vh3 => .ok (x :: xs) vh3
          | _ => .stuck
        | _ => .stuck
      | _ => .stuck
/-- a list comprehension; m: it will change -/
def mLc (m : Bool) (fi : FI) (A : FTg) (t : FT) (f : FE) (vs : List Nat) : FE := fun e vh => bnd (fi e vh) fun ds vh1 => match mComp A t f (wipeE e vs) ds vh1 with
  | .ok xs vh2 => if xs.length ≤ sizeLine then (if m then .ok (.ref vh2.length) (vh2 ++ [.lst xs]) else .ok (.d (.lst xs)) vh2) else .stuck
  | _ => .stuck
abbrev Cn.hide (c : Cn) (a : Addr) : Cn := { c with hid := a :: c.hid }
section
variable {c : Cn} {H : Hp} {ρ : Rho} {vh : VH}
theorem RelE.wipe {e : Env} {σ : L2.St} (h : RelE c H ρ e σ) : ∀ vs : List Nat, RelE c H ρ (wipeE e vs) (L2.wipe σ vs)
  | [] => h
  | v :: vs => by
    have go : ∀ {e : Env} {σ : L2.St} {i : Nat}, RelE c H ρ e σ → RelE c H ρ (e.set i none) (σ.set i none) := by
      intro e
      induction e with
      | nil => intro σ i h; cases σ with
        | nil => trivial
        | cons _ _ => exact h.elim
      | cons o e ih => intro σ i h; cases σ with
        | nil => cases o <;> exact h.elim
        | cons s σ =>
          cases i with
          | zero => cases o with
            | none => exact h
            | some w => cases s with
              | none => exact h.elim
              | some v => exact h.2
          | succ i => cases o with
            | none => exact ih (σ := σ) (i := i) h
            | some w => cases s with
              | none => exact h.elim
              | some v => exact ⟨h.1, ih (σ := σ) (i := i) h.2⟩
    exact go (RelE.wipe h vs)
theorem Cn.ext_hide {a : Addr} (ha : H a = none) : c.Ext (c.hide a) H := ⟨rfl, rfl, fun b hb => (List.mem_cons.mp hb).elim (fun e => .inr fun o z => by rw [e, ha] at z; cases z) .inl⟩
theorem Cn.ext_bare {a : Addr} : (c.hide a).Ext c H := ⟨rfl, rfl, fun b hb => .inl (List.mem_cons_of_mem _ hb)⟩
/-- the places of ρ stand in ρ' -/
def Pre (ρ ρ' : Rho) : Prop := ρ.length ≤ ρ'.length ∧ ∀ i, i < ρ.length → ρ'[i]? = ρ[i]?
theorem Pre.refl (ρ : Rho) : Pre ρ ρ := ⟨Nat.le_refl _, fun _ _ => rfl⟩
theorem RelW.conv {c' : Cn} {H' : Hp} {ρ' : Rho} (p : Pre ρ ρ') (k : ∀ x v, RelD c H ρ x v → RelD c' H' ρ' x v) : ∀ {w : W} {v : V}, RelW c H ρ w v → RelW c' H' ρ' w v
  | .d _, _, h => k _ _ h
  | .ref _, _, ⟨h1, h2⟩ => ⟨Nat.lt_of_lt_of_le h1 p.1, fun a ha => h2 a (by rw [← p.2 _ h1]; exact ha)⟩
theorem RelE.conv {c' : Cn} {H' : Hp} {ρ' : Rho} (p : Pre ρ ρ') (k : ∀ x v, RelD c H ρ x v → RelD c' H' ρ' x v) : ∀ {e : Env} {σ : L2.St}, RelE c H ρ e σ → RelE c' H' ρ' e σ
  | [], [], h => trivial
  | some _ :: _, some _ :: _, ⟨h, t⟩ => ⟨RelW.conv p k h, RelE.conv p k t⟩
  | none :: e, _ :: σ, t => RelE.conv (e := e) (σ := σ) p k t
theorem RelDs.conv {c' : Cn} {H' : Hp} {ρ' : Rho} (k : ∀ x v, RelD c H ρ x v → RelD c' H' ρ' x v) : ∀ {xs : List D} {vs : List V}, RelDs c H ρ xs vs → RelDs c' H' ρ' xs vs
  | [], [], h => trivial
  | _ :: _, _ :: _, ⟨h, t⟩ => ⟨k _ _ h, RelDs.conv k t⟩
theorem RelDv.conv {c' : Cn} {H' : Hp} {ρ' : Rho} (k : ∀ x v, RelD c H ρ x v → RelD c' H' ρ' x v) : ∀ {xs : List (D × D)} {vs : List V}, RelDv c H ρ xs vs → RelDv c' H' ρ' xs vs
  | [], [], h => trivial
  | (_, _) :: _, _ :: _, ⟨h, t⟩ => ⟨k _ _ h, RelDv.conv k t⟩
theorem RelWf.conv {c' : Cn} {H' : Hp} {ρ' : Rho} (p : Pre ρ ρ') (k : ∀ x v, RelD c H ρ x v → RelD c' H' ρ' x v) : ∀ {xs : List (Str × W)} {vs : List V}, RelWf c H ρ xs vs → RelWf c' H' ρ' xs vs
  | [], [], h => trivial
  | (_, _) :: _, _ :: _, ⟨h, t⟩ => ⟨RelW.conv p k h, RelWf.conv p k t⟩
theorem RelO.conv {c' : Cn} {H' : Hp} {ρ' : Rho} (p : Pre ρ ρ') (km : c'.mg = c.mg) (k : ∀ x v, RelD c H ρ x v → RelD c' H' ρ' x v) {vo : VO} {o : Option Addr} (s : ∀ a u, o = some a → H a = some u → H' a = some u) (h : RelO c H ρ vo o) : RelO c' H' ρ' vo o := by
  cases vo with
  | dead => exact h
  | lst ds => obtain ⟨a, xs, e, hH, l, r⟩ := h; exact ⟨a, xs, e, s a _ e hH, l, r.conv k⟩
  | dic t kvs => obtain ⟨a, xs, e, hH, r⟩ := h; exact ⟨a, xs, e, hH.to fun u q => s a u e q, r.conv k⟩
  | ins n fs => obtain ⟨a, C, dx, xs, e, hm, hH, r⟩ := h; exact ⟨a, C, dx, xs, e, by rw [km]; exact hm, s a _ e hH, r.conv p k⟩
/-- the hidden list comes to light as a changeable one -/
theorem Mv.show {a : Addr} : Mv (c.hide a) ρ c (ρ ++ [some a]) H := ⟨rfl, rfl, fun b o h e => ⟨fun z => by
  rcases List.mem_append.mp z with z | z
  · exact h.1 z
  · simp at z; subst z; exact h.2 List.mem_cons_self, fun z => h.2 (List.mem_cons_of_mem _ z)⟩⟩
theorem Pre.snoc {o : Option Addr} : Pre ρ (ρ ++ [o]) := ⟨by simp, fun i hi => List.getElem?_append_left hi⟩
theorem RelH.show {a : Addr} {vo : VO} (h : RelH (c.hide a) H ρ vh) (hc : a ∉ c.hid) (r : RelO c H (ρ ++ [some a]) vo (some a)) : RelH c H (ρ ++ [some a]) (vh ++ [vo]) where
  len := by simp [h.len]
  inj := fun i j b hi hj => by
    have na := (h.hid a List.mem_cons_self).2
    have at_ : ∀ i b, (ρ ++ [some a])[i]? = some (some b) → (i < ρ.length ∧ ρ[i]? = some (some b)) ∨ (i = ρ.length ∧ b = a) := fun i b e => by
      by_cases li : i < ρ.length
      · rw [List.getElem?_append_left li] at e; exact .inl ⟨li, e⟩
      · rw [List.getElem?_append_right (by omega)] at e
        cases q : i - ρ.length with
        | zero => rw [q] at e; exact .inr ⟨by omega, by simpa using e.symm⟩
        | succ n => rw [q] at e; simp at e
    rcases at_ i b hi with ⟨l1, e1⟩ | ⟨e1, z1⟩
    · rcases at_ j b hj with ⟨l2, e2⟩ | ⟨e2, z2⟩
      · exact h.inj i j b e1 e2
      · subst z2; exact absurd (List.mem_of_getElem? e1) na
    · rcases at_ j b hj with ⟨l2, e2⟩ | ⟨e2, z2⟩
      · subst z1; exact absurd (List.mem_of_getElem? e2) na
      · omega
  at' := fun i vo' e => by
    by_cases li : i < vh.length
    · rw [List.getElem?_append_left li] at e
      obtain ⟨u, hu, r'⟩ := h.at' i vo' e
      exact ⟨u, by rw [List.getElem?_append_left (by rw [h.len]; exact li)]; exact hu, RelO.conv (c := c.hide a) (c' := c) (H := H) (H' := H) Pre.snoc rfl (fun x v hx => RelD.mv Mv.show hx) (fun _ _ _ z => z) r'⟩
    · rw [List.getElem?_append_right (by omega)] at e
      cases q : i - vh.length with
      | zero =>
        rw [q] at e
        simp at e; subst e
        refine ⟨some a, ?_, r⟩
        rw [List.getElem?_append_right (by rw [h.len]; omega), h.len, q]; rfl
      | succ n => rw [q] at e; simp at e
  hid := fun b hb => by
    obtain ⟨e, n⟩ := h.hid b (List.mem_cons_of_mem _ hb)
    refine ⟨e, fun z => ?_⟩
    rcases List.mem_append.mp z with z | z
    · exact n z
    · simp at z; subst z; exact hc hb
theorem RelH.hide {a : Addr} {o : HO} (h : RelH c H ρ vh) (ha : H a = none) : RelH (c.hide a) (upd H a o) ρ vh where
  len := h.len
  inj := h.inj
  at' := fun i vo e => by
    obtain ⟨q, hq, r⟩ := h.at' i vo e
    have r2 : RelO (c.hide a) H ρ vo q := RelO.conv (c := c) (c' := c.hide a) (H := H) (H' := H) (.refl _) rfl (fun x v hx => RelD.re (Cn.ext_hide ha) hx) (fun _ _ _ z => z) r
    exact ⟨q, hq, RelO.stay (Grow.refl _ _) (Fm.new ha) (fun b u _ z => same_upd ha b u z) r2⟩
  hid := fun b hb => by
    rcases List.mem_cons.mp hb with e | hb
    · subst e
      exact ⟨⟨o, upd_same⟩, (h.fresh ha).1⟩
    · obtain ⟨⟨u, e⟩, n⟩ := h.hid b hb
      exact ⟨⟨u, same_upd ha b u e⟩, n⟩
theorem RelH.bare {a : Addr} (h : RelH (c.hide a) H ρ vh) : RelH c H ρ vh where
  len := h.len
  inj := h.inj
  at' := fun i vo e => by
    obtain ⟨q, hq, r⟩ := h.at' i vo e
    have r2 : RelO c H ρ vo q := RelO.conv (c := c.hide a) (c' := c) (H := H) (H' := H) (.refl _) rfl (fun x v hx => RelD.re Cn.ext_bare hx) (fun _ _ _ z => z) r
    exact ⟨q, hq, r2⟩
  hid := fun b hb => h.hid b (List.mem_cons_of_mem _ hb)
/-- the hidden list is written -/
theorem Fw.hid {a : Addr} {o : HO} : Fw (c.hide a) H (upd H a o) ρ := fun b u hb e => by
  rw [upd_ne fun z => hb.2 (by rw [z]; exact List.mem_cons_self)]; exact e
theorem RelH.wr {a : Addr} {o : HO} (h : RelH (c.hide a) H ρ vh) : RelH (c.hide a) (upd H a o) ρ vh where
  len := h.len
  inj := h.inj
  at' := fun i vo e => by
    obtain ⟨q, hq, r⟩ := h.at' i vo e
    refine ⟨q, hq, RelO.conv (c := c.hide a) (c' := c.hide a) (H := H) (H' := upd H a o) (.refl _) rfl (fun x v hx => RelD.stayw (Grow.refl _ _) Fw.hid hx) (fun b u eb z => ?_) r⟩
    rw [upd_ne]
    · exact z
    · intro w
      subst w; subst eb
      exact (h.hid b List.mem_cons_self).2 (List.mem_of_getElem? hq)
  hid := fun b hb => by
    obtain ⟨⟨u, e⟩, n⟩ := h.hid b hb
    refine ⟨?_, n⟩
    by_cases z : b = a
    · subst z; exact ⟨o, upd_same⟩
    · exact ⟨u, by rw [upd_ne z]; exact e⟩
theorem wipe_same {vs : List Nat} {σ σ' : L2.St} (h : SameBut vs (L2.wipe σ vs) σ') : L2.wipe σ' vs = L2.wipe σ vs := by
  have at_ : ∀ (vs : List Nat) (σ : L2.St) (i : Nat), (L2.wipe σ vs)[i]? = if i ∈ vs then (if i < σ.length then some none else none) else σ[i]? := by
    intro vs
    induction vs with
    | nil => intro σ i; simp [L2.wipe]
    | cons v vs ih =>
      intro σ i
      unfold L2.wipe
      by_cases hi : v = i
      · subst hi
        rw [List.getElem?_set_self', if_pos List.mem_cons_self]
        rw [ih]
        by_cases hl : v < σ.length
        · by_cases hm : v ∈ vs <;> simp [hl, hm]
        · by_cases hm : v ∈ vs <;> simp [hl, hm]
      · rw [List.getElem?_set_ne hi, ih]
        have : (i ∈ v :: vs) ↔ i ∈ vs := by
          rw [List.mem_cons]
          exact ⟨fun z => z.elim (fun w => absurd w.symm hi) id, .inr⟩
        simp only [this]
  refine List.ext_getElem? fun i => ?_
  rw [at_, at_]
  have hl : σ'.length = σ.length := by rw [h.1, L2.wipe_length]
  by_cases hi : i ∈ vs
  · rw [if_pos hi, if_pos hi, hl]
  · rw [if_neg hi, if_neg hi, h.2 i hi, at_, if_neg hi]
end
section
variable {X : Cx} {c : Cn} {U : WX} {pos : Pos}
abbrev U0 : WX := fun _ _ _ _ => False
theorem lc_use {fi : FI} {A : FTg} {t : FT} {f : FE} {vs ws : List Nat} {mm : Bool} (hvw : ∀ i ∈ ws, i ∈ vs) {σ : L2.St} {H : Hp} {Q : VK} (h : tM c U (mLc mm fi A t f vs) σ H Q) : tMI c U fi σ H fun J H1 => ∀ Dd, H1 Dd = none → ∃ W : Nat → Nat → Hp → Prop, (∃ m, W 0 m (upd H1 Dd (.lst []))) ∧ ∀ i m H, W i m H →
    (J.stop i H ∧ Q (.ref Dd) H) ∨ (J.go i H ∧ ∃ Nx : Hp → Prop, (∀ H', Nx H' → ∃ m', m' < m ∧ W (i + 1) m' H') ∧ ∀ x H', J.yld i H x H' → (∃ hid, tMG ⟨c.K, c.mg, hid⟩ A ws x (L2.wipe σ vs) H' fun σ2 H2 => L2.wipe σ2 vs = L2.wipe σ vs ∧ (∃ hid, tMT ⟨c.K, c.mg, hid⟩ U0 t σ2 H2 fun b H3 =>
      if b = true then (∃ hid, tM ⟨c.K, c.mg, hid⟩ U0 f σ2 H3 fun y H4 => ∃ acc, H4 Dd = some (.lst acc) ∧ acc.length < sizeLine ∧ Nx (upd H4 Dd (.lst (acc ++ [y])))) else Nx H3))) := by
  obtain ⟨e, ρ, vh, he, hh, h⟩ := h
  refine (useIE he hh h).mono fun J H1 ⟨ds, vh1, ρ1, fd, A0, g1, f1⟩ Dd hD => ?_
  have o := A0.out
  cases q0 : mComp A t f (wipeE e vs) ds vh1 with
  | exn x h => rw [q0] at o; exact o.elim
  | stuck => rw [q0] at o; exact o.elim
  | ok xs0 vh0 =>
  rw [q0] at o
  by_cases hl0 : xs0.length ≤ sizeLine
  rotate_left
  · simp only [hl0, if_false] at o
    exact o.elim
  have o : Out c σ H1 ρ1 U (if mm = true then .ok (.ref vh0.length) (vh0 ++ [.lst xs0]) else .ok (.d (.lst xs0)) vh0) (KW c Q) := by simpa only [hl0, if_true] using o
  let St : Nat → Hp → Prop := fun i H2 => ∃ ρ2 vh2 acc us xs, Grow ρ1 H1 ρ2 ∧ Fm H1 H2 ρ1 ∧ RelE (c.hide Dd) H2 ρ2 (wipeE e vs) (L2.wipe σ vs) ∧ RelH (c.hide Dd) H2 ρ2 vh2 ∧ H2 Dd = some (.lst us) ∧ RelDs (c.hide Dd) H2 ρ2 acc us ∧
    mComp A t f (wipeE e vs) (ds.drop i) vh2 = .ok xs vh0 ∧ acc ++ xs = xs0
  refine ⟨fun i m H2 => m = ds.length - i ∧ i ≤ ds.length ∧ St i H2, ⟨ds.length, by simp, Nat.zero_le _, ρ1, vh1, [], [], xs0, Grow.refl _ _, Fm.new hD, ?_, A0.rh.hide hD, upd_same, trivial, q0, rfl⟩, ?_⟩
  · exact RelE.stay (Grow.refl _ _) (Fm.new hD) ((A0.re.wipe vs).conv (c' := c.hide Dd) (H' := H1) (.refl _) fun x v hx => RelD.re (Cn.ext_hide hD) hx)
  rintro i m H2 ⟨rfl, hi, ρ2, vh2, acc, us, xs, g2, f2, re, rh, hDd, ra, hq, hx⟩
  obtain ⟨k1, k2⟩ := fd (c.hide Dd) H2 ρ2 i (Cn.ext_hide hD) g2 f2.w rh.fr
  have hDρ : some Dd ∉ ρ2 := (rh.hid Dd List.mem_cons_self).2
  by_cases hlt : i < ds.length
  · obtain ⟨go, yl⟩ := k1 hlt
    refine .inr ⟨go, St (i + 1), fun H' a => ⟨ds.length - (i + 1), by omega, rfl, hlt, a⟩, fun x H' hy => ?_⟩
    obtain ⟨sm, d, hd, rd⟩ := yl x H' hy
    rw [List.drop_eq_getElem_cons hlt] at hq
    have ed : ds[i] = d := by rw [List.getElem?_eq_getElem hlt] at hd; exact Option.some.inj hd
    rw [ed] at hq
    have fs : Fm H2 H' ρ2 := Fm.same sm
    have g0 : Grow ρ2 H2 ρ2 := Grow.refl _ _
    have re' := re.stay g0 fs
    have rh' := rh.same sm
    simp only [mComp] at hq
    cases qa : A d (wipeE e vs) with
    | none => rw [qa] at hq; cases hq
    | some e' =>
    rw [qa] at hq
    try dsimp only at hq
    refine ⟨Dd :: c.hid, wipeE e vs, ρ2, d, e', re', rd, qa, fun σ2 re2 sb => ⟨wipe_same (sb.mono hvw), Dd :: c.hid, e', ρ2, vh2, re2, rh', ?_⟩⟩
    cases qt : t e' vh2 with
    | stuck => rw [qt] at hq; cases hq
    | exn x h => rw [qt] at hq; cases hq
    | ok b vh3 =>
    rw [qt] at hq
    try dsimp only at hq
    intro H3 ρ3 g3 f3 rh3
    have g23 : Grow ρ2 H2 ρ3 := g0.trans fs g3
    have f23 : Fm H2 H3 ρ2 := Fm.trans g0 fs f3
    have fD3 : H3 Dd = some (.lst us) := f23 Dd _ hDρ hDd
    have re3 : RelE (c.hide Dd) H3 ρ3 (wipeE e vs) (L2.wipe σ vs) := re.stay g23 f23
    cases b with
    | false =>
      refine iteF ⟨ρ3, vh3, acc, us, xs, g2.trans f2 g23, Fm.trans g2 f2 f23, re3, rh3, fD3, ra.stay g23 f23, hq, hx⟩
    | true =>
      dsimp only at hq
      refine iteT ⟨Dd :: c.hid, e', ρ3, vh3, re2.stay g3 f3, rh3, ?_⟩
      cases qf : f e' vh3 with
      | stuck => rw [qf] at hq; cases hq
      | exn x h => rw [qf] at hq; cases hq
      | ok w vh4 =>
      rw [qf] at hq
      cases w with
      | ref k => cases hq
      | d y0 =>
      try dsimp only at hq
      cases qc : mComp A t f (wipeE e vs) (ds.drop (i + 1)) vh4 with
      | stuck => rw [qc] at hq; cases hq
      | exn x h => rw [qc] at hq; cases hq
      | ok ys vh5 =>
      rw [qc] at hq
      cases hq
      intro H4 ρ4 g4 f4 rh4 y ry
      have g24 : Grow ρ2 H2 ρ4 := g23.trans f23 g4
      have f24 : Fm H2 H4 ρ2 := Fm.trans g23 f23 f4
      have hD4 : some Dd ∉ ρ4 := (rh4.hid Dd List.mem_cons_self).2
      have fD4 : H4 Dd = some (.lst us) := f24 Dd _ hDρ hDd
      have ra4 : RelDs (c.hide Dd) H4 ρ4 acc us := ra.stay g24 f24
      refine ⟨us, fD4, ?_, ρ4, vh4, acc ++ [y0], us ++ [y], ys, g2.trans f2 g24, ?_, RelE.stayw (Grow.refl _ _) Fw.hid (re.stay g24 f24), rh4.wr, upd_same, RelDs.stayw (Grow.refl _ _) Fw.hid (ra4.append ⟨ry, trivial⟩), qc, by rw [← hx, List.append_assoc]; rfl⟩
      · rw [← ra4.length]
        have : (acc ++ y0 :: ys).length ≤ sizeLine := by rw [hx]; exact hl0
        rw [List.length_append, List.length_cons] at this
        omega
      · intro b u hb hu
        by_cases z : b = Dd
        · subst z; rw [hD] at hu; cases hu
        · rw [upd_ne z]; exact Fm.trans g2 f2 f24 b u hb hu
  · have ei : i = ds.length := by omega
    subst ei
    rw [List.drop_length] at hq
    cases hq
    rw [List.append_nil] at hx
    subst hx
    refine .inl ⟨k2 (Nat.le_refl _), ?_⟩
    have ra' : RelDs c H2 ρ2 acc us := RelDs.re Cn.ext_bare ra
    have rh' : RelH c H2 ρ2 vh0 := RelH.bare rh
    have hDh : Dd ∉ c.hid := (A0.rh.fresh hD).2
    cases mm with
    | false =>
      rw [if_neg Bool.false_ne_true] at o
      exact o H2 ρ2 g2 f2 rh' (.ref Dd) ⟨Dd, us, rfl, ⟨hDρ, hDh⟩, hDd, hl0, ra'⟩
    | true =>
      rw [if_pos rfl] at o
      refine o H2 (ρ2 ++ [some Dd]) ⟨by have := g2.len; simp; omega, fun i hi => ?_, fun a ha => ?_⟩ f2 (rh.show hDh ⟨Dd, us, rfl, hDd, hl0, RelDs.mv Mv.show ra⟩) (.ref Dd) ⟨by simp [rh.len], fun a ha => ?_⟩
      · rw [List.getElem?_append_left (Nat.lt_of_lt_of_le hi g2.len)]; exact g2.old i hi
      · rcases List.mem_append.mp ha with z | z
        · exact g2.new a z
        · simp at z; subst z; exact .inr hD
      · rw [← rh.len, List.getElem?_append_right (Nat.le_refl _)] at ha
        simp at ha; rw [ha]
theorem pg_ex {tg : Expr} {t : List Addr → TG} (h : ∀ hid, PG X tg (t hid)) : PG X tg (fun v σ H Q => ∃ hid, t hid v σ H Q) := ⟨fun pins s σ H v u Q I r ⟨hid, q⟩ => (h hid).run pins s σ H v u Q I r q⟩
theorem pe_ex {e : Expr} {t : List Addr → TE} (h : ∀ hid, PE X e (t hid)) : PE X e (fun σ H Q => ∃ hid, t hid σ H Q) := ⟨fun pins s σ H Q I ⟨hid, q⟩ => (h hid).run pins s σ H Q I q⟩
theorem pts_ex {ifs : List Expr} {t : List Addr → TT} (h : ∀ hid, PTs X ifs (t hid)) : PTs X ifs (fun σ H Q => ∃ hid, t hid σ H Q) := ⟨fun pins s σ H Q I ⟨hid, q⟩ => (h hid).run pins s σ H Q I q⟩
theorem mts_nil : PTs X [] (tMT c U fun _ vh => .ok true vh) := ⟨fun pins s σ H Q I ⟨e, ρ, vh, he, hh, h⟩ => pts_nil.run pins s σ H Q I (h.here hh)⟩
theorem mts_one {a : Expr} {t : FT} (h : PT X a (tMT c U t)) : PTs X [a] (tMT c U t) := pts_one h
theorem me_lc {elt tg iter : Expr} {ifs : List Expr} {scope : Scope} {own : List (Str × Nat)} {fi : FI} {A : FTg} {t : FT} {f : FE} {ws : List Nat} {vs : List Nat} (mm : Bool) (hc : X.calm = true) (hN : X.N.Nodup) (hi : PI X tg iter (tMI c U fi)) (ok : BlkOk X.N X.env.scope scope own)
    (hg : ∀ (s : Shared) (H : Hp) (C : Addr) (cl : List (Str × Addr)) (fp : List Addr) (hid : List Addr), PG (X.blk s H scope (compEnvC scope cl C X.env) fp) tg (tMG ⟨c.K, c.mg, hid⟩ A ws))
    (ht : ∀ (s : Shared) (H : Hp) (C : Addr) (cl : List (Str × Addr)) (fp : List Addr) (hid : List Addr), PTs (X.blk s H scope (compEnvC scope cl C X.env) fp) ifs (tMT ⟨c.K, c.mg, hid⟩ U0 t))
    (he : ∀ (s : Shared) (H : Hp) (C : Addr) (cl : List (Str × Addr)) (fp : List Addr) (hid : List Addr), PE (X.blk s H scope (compEnvC scope cl C X.env) fp) elt (tM ⟨c.K, c.mg, hid⟩ U0 f))
    (hvs : own.map (·.2) = vs := by rfl) (hvw : ∀ i ∈ ws, i ∈ vs := by decide) (hs : ∀ x, foldedSetIterable iter X.env x = pure x := by intro _; rfl) :
    PE X (.ListComp elt [⟨tg, iter, ifs, 0⟩] scope pos) (tM c U (mLc mm fi A t f vs)) := by
  subst hvs
  exact pe_imp (pe_lc hc hN hi ok (fun s H C cl fp => pg_ex (hg s H C cl fp)) (fun s H C cl fp => pts_ex (ht s H C cl fp)) (fun s H C cl fp => pe_ex (he s H C cl fp)) hs) fun σ H Q h => lc_use hvw h
end
end Mn

namespace Mn
open PySem PySem.Spec PyProof.Rows L2

/-! ### defs where no repr runs around -/
def NoGuard (A : Around) : Prop := A.guards = some []
theorem NoGuard.deeper {A : Around} (h : NoGuard A) (env : PySem.Env) : NoGuard (A.deeper env) := h
theorem NoGuard.in1 {A : Around} (h : NoGuard A) : NoGuard A.in1 := h
theorem NoGuard.make {A : Around} (h : NoGuard A) (C : Addr) (us : List Value) (kw : List (Str × Value)) : NoGuard (A.under (.builtin "type.__call__" ⟨.ref C :: us, kw⟩)) := by
  unfold NoGuard at *
  simp [Around.under, Code.guards, Code.isGuard, guardIds, pushGuards, h]
/-- as FnOk, but run only where no guard stands around -/
structure FnG (P : Program) (w : World) (K : PySem.W.Frag) (mg : Str → Option Value) (base : Heap) (k : Nat) (f : Addr) (fd : FuncData) (ps : List Str) (F : FN) : Prop where
  ar : ∀ ws vh, ws.length ≠ ps.length → F ws vh = .stuck
  go : ∀ (A : Around) (outer : List PySem.Env) (s : Shared) (H : Hp) (args : Args) (us : List Value) (vs : List V) (Q : VK) (E : XK), Room k A → NoGuard A → Env0 P w K mg base A outer s H → BindsTo s fd args (ps.zip us) → Vals vs us →
    spM K mg F vs H Q E → codeAny (model P w) A (.call (.ref f) args) (CR (L2.CX P w) outer P w H s Q E) s
section
variable {P : Program} {w : World} {K : PySem.W.Frag} {mg : Str → Option Value} {base : Heap}
theorem FnG.mono {j k : Nat} {f : Addr} {fd : FuncData} {ps : List Str} {F : FN} (G : FnG P w K mg base j f fd ps F) (h : j ≤ k) : FnG P w K mg base k f fd ps F :=
  ⟨G.ar, fun A outer s H args us vs Q E hr => G.go A outer s H args us vs Q E (hr.mono h)⟩
theorem mFn_ar {np nn : Nat} {g : FS} (ws : List W) (vh : VH) (h : ws.length ≠ np) : mFn np nn g ws vh = .stuck := by unfold mFn; rw [if_neg h]
theorem spM_len {F : FN} {np : Nat} (ar : ∀ ws vh, ws.length ≠ np → F ws vh = .stuck) {vs : List V} {H : Hp} {Q : VK} {E : XK} (h : spM K mg F vs H Q E) : vs.length = np := by
  obtain ⟨c, _, _, ws, ρ, vh, rs, hh, o⟩ := h
  by_cases e : ws.length = np
  · rw [← rs.length, e]
  · rw [ar ws vh e] at o; exact o.elim
theorem FnG.shut {k : Nat} {f : Addr} {fd : FuncData} {ps : List Str} {F : FN} (G : FnG P w K mg base k f fd ps F) : FnG P w K mg base k f fd ps (mShut F) where
  ar := fun ws vh e => by unfold mShut; rw [G.ar ws vh e]
  go := fun A outer s H args us vs Q E hr hg e0 hb rv h => G.go A outer s H args us vs Q E hr hg e0 hb rv (spM.shut _ _ _ _ h)
theorem FnG.eqM {k : Nat} {f : Addr} {fd : FuncData} {ps : List Str} {F G : FN} (g : FnG P w K mg base k f fd ps F) (e : F = G) : FnG P w K mg base k f fd ps G := e ▸ g
/-- a def of the text keeps its meaning -/
theorem FnG.of {x qual : Str} {st : Stmt} {f : Addr} {fd : FuncData} {N ps : List Str} {k : Nat} {g : FS} (F : Fun K x qual st f fd) (S : FnScope N ps (defScope st))
    (body : ∀ (cdv : Value) (A : Around) (outer : List PySem.Env) (s : Shared) (H : Hp) (E : XK) (hid : List Addr), Room k (A.deeper (envOfC qual (defScope st) s.heap.objs.size f cdv)) → NoGuard (A.deeper (envOfC qual (defScope st) s.heap.objs.size f cdv)) →
      Takes (cxOf (L2.CX P w) P w K mg base N qual (defScope st) f cdv A outer s H E) (fun cls d _ H => E cls d H) →
      PSs (cxOf (L2.CX P w) P w K mg base N qual (defScope st) f cdv A outer s H E) (defBody st) (tMS ⟨K, mg, hid⟩ (fun cls d _ H => E cls d H) g)) :
    FnG P w K mg base (k + 1) f fd ps (mFn ps.length N.length g) := by
  refine ⟨mFn_ar, fun A outer s H args us vs Q E hr ng e0 hb rv hsp => ?_⟩
  have hl : vs.length = ps.length := spM_len mFn_ar hsp
  obtain ⟨oc, od, kV, doc, pm, an, cdv, ct, osl, rfl, lk, hcd⟩ := F.ex
  have inH : K.In s.heap := e0.mod.kin.keeps fun b o e => (e0.bs b o e).1
  have noLim : s.heap.NoLimit := e0.mod.nolimit.keeps fun b o e => (e0.bs b o e).1
  refine codeAny_call_function hr.depth (inH _ _ lk) rfl S.co S.gen rfl (PySem.W.codeRec_of inH hcd) (hb _ _ _ _ ?_)
  refine wpAny_newFunctionEnv_cells S.kind (fun y hy => (S.par y.1 (List.of_mem_zip (a := y.1) (b := y.2) hy).1).imp id fun q => ⟨q, PySem.W.cellsFrom_some _ _ _ (.inl q)⟩) fun env he s1 x => ?_
  cases he
  refine ⟨noLim.keeps x.toInCall.keep, codeAny_func ?_⟩
  obtain ⟨⟨K', mg', hid⟩, rfl, rfl, ws, ρ, vh, rs, hh, h⟩ := hsp
  have D := body cdv A outer s H E hid (hr.deeper _) (ng.deeper _) (takes_of rfl rfl rfl rfl)
  have I := inv_start (CX := L2.CX P w) (E := E) S hr.hd e0 hl rv x
  have rd : tMS ⟨K', mg', hid⟩ (fun cls d _ H => E cls d H) g { nx := fun _ H' => Q .non H', rt := Q } (L2.start N vs) H := by
    unfold mFn at h
    split at h
    · rename_i e
      refine ⟨_, ρ, vh, entry_rel (np := ps.length) rs, hh, ?_⟩
      have e2 : entry ps.length N.length ws = ws.map some ++ List.replicate (N.length - vs.length) none := by unfold entry; rw [← rs.length, e]
      rw [← e2]
      cases q : g (entry ps.length N.length ws) vh with
      | nx e' vh' => rw [q] at h; exact fun σ' H' ρ' g' f' x y => h H' ρ' g' f' y .non rfl
      | bk e' vh' => rw [q] at h; exact h.elim
      | ct e' vh' => rw [q] at h; exact h.elim
      | rt w vh' => rw [q] at h; exact fun v H' ρ' g' f' x y => h H' ρ' g' f' y v x
      | exn x e' vh' => rw [q] at h; exact fun cls d σ' H' ρ' g' f' x y z => h cls d H' ρ' g' f' x z
      | stuck => rw [q] at h; exact h.elim
    · exact h.elim
  refine wpAny_mono (D.run [] s1 _ H _ I rd) (fun fl s' hs => ?_) fun _ _ z => z
  cases fl with
  | ret u => obtain ⟨v, σ', H', J, r1, q⟩ := hs; exact ⟨v, H', J.os, J.bare, J.base, J.hok, r1, q⟩
  | next => obtain ⟨σ', H', J, q⟩ := hs; exact ⟨.non, H', J.os, J.bare, J.base, J.hok, rfl, q⟩
  | brk => obtain ⟨_, _, _, q⟩ := hs; exact q.elim
  | cont => obtain ⟨_, _, _, q⟩ := hs; exact q.elim
end

/-! ### calls of such -/
section
variable {X : Cx} {U : WX} {k : Nat} {f : Addr} {fd : FuncData} {ps : List Str} {F : FN} {c : Cn} {e : Expr} {es : List Expr} {pos p : Pos} {x : Str} {ds : List Value} {dvs : List V} {dws : List W} {fa : FA}
theorem run_g {pins : List (Addr × Obj)} {σ : L2.St} {H : Hp} {s : Shared} {Q : VK} {us : List Value} {vs : List V} {args : Args} (G : FnG X.prog X.w X.K X.mg X.base k f fd ps F) (hr : Room k X.A) (ng : NoGuard X.A) (hb : BindsTo s fd args (ps.zip us)) (tk : Takes X U)
    (I : L2.Inv X pins σ H s) (r : Vals vs us) (h : spM X.K X.mg F vs H Q (WE U σ)) : wpAny (model X.prog X.w) X.A (call (.ref f) args.pos args.kw) (EP X pins σ Q) X.xe s := by
  refine wpAny_call (codeAny_mono (G.go X.A X.stack s H args us vs Q (WE U σ) hr ng I.env0 hb r h) fun r s' hq => ?_)
  cases r with
  | error e => exact passAt tk σ pins H s e s' I hq
  | ok fl => cases fl with
    | ret u => exact I.after hq
    | next => exact hq.elim
    | brk => exact hq.elim
    | cont => exact hq.elim
theorem spM_use {σ : L2.St} {H : Hp} {ρ : Rho} {vh : VH} {ws : List W} {vs : List V} {Q : VK} (hc : c.K = X.K) (hcm : c.mg = X.mg) (rs : RelWs c H ρ ws vs) (rh : RelH c H ρ vh) (o : Out c σ H ρ U (F ws vh) (KW c Q)) : spM X.K X.mg F vs H Q (WE U σ) :=
  ⟨c, hc, hcm, ws, ρ, vh, rs, rh, o.sigma (τ := []) fun _ _ _ h => h⟩
/-- f(e, ..): the defaults fill up -/
theorem mg_call (hc : c.K = X.K) (hcm : c.mg = X.mg) (G : FnG X.prog X.w X.K X.mg X.base k f fd ps F) (hr : Room k X.A) (ng : NoGuard X.A) (tk : Takes X U) (hg : Gl X x) (hm : X.mg x = some (.ref f)) (hk : PySem.W.keepIn X.K (.ref f) = true) (hb : Binds X.K fd ps ds) (hd : Vals dvs ds) (hdw : ∀ H ρ, RelWs c H ρ dws dvs)
    (ha : PA X (e :: es) (tMA c U fa)) (hdb : (x == ("__debug__" : Str)) = false := by decide) (he : starEach (e :: es) X.env = (false, eval e X.env) :: starEach es X.env := by rfl) (hpl : (backTo pos (starEach es X.env)).any (·.1) = false := by rfl) :
    PE X (.Call (.Name x p) (e :: es) [] pos) (tM c U (mCall F dws fa)) := by
  refine ⟨fun pins s σ H Q I ⟨en, ρ, vh, hE, hh, h⟩ => wpAny_Call_Name_kw (ld_glob I hg hm ?_ hdb)⟩
  refine PySem.W.callWith_K (h₀ := X.base) I.ok.mod.kin hk (thn (ha.run pos pins s σ H _ I (useA hE hh h)) fun us s1 ⟨vs, H1, I1, r, ws, vh1, ρ1, rs, A, g1, f1⟩ => ⟨I1.kIn, ?_⟩) he hpl
  have q : spM X.K X.mg F (vs ++ dvs) H1 Q (WE U σ) := spM_use hc hcm (rs.append (hdw _ _)) A.rh A.out
  have r2 := r.append hd
  exact run_g (args := ⟨us, []⟩) G hr ng (hb s1 us I1.kIn (by rw [← r2.length]; exact spM_len G.ar q)) tk I1 r2 q
/-- f(): nothing but defaults -/
theorem mg_call0 (hc : c.K = X.K) (hcm : c.mg = X.mg) (G : FnG X.prog X.w X.K X.mg X.base k f fd ps F) (hr : Room k X.A) (ng : NoGuard X.A) (tk : Takes X U) (hg : Gl X x) (hm : X.mg x = some (.ref f)) (hk : PySem.W.keepIn X.K (.ref f) = true) (hb : Binds X.K fd ps ds) (hd : Vals dvs ds) (hdw : ∀ H ρ, RelWs c H ρ dws dvs)
    (hdb : (x == ("__debug__" : Str)) = false := by decide) : PE X (.Call (.Name x p) [] [] pos) (tM c U (mCall F dws mNil)) := by
  refine ⟨fun pins s σ H Q I ⟨en, ρ, vh, hE, hh, h⟩ => wpAny_Call_Name_kw (ld_glob I hg hm (PySem.W.callWith_K0 I.kIn hk ?_) hdb)⟩
  have q : spM X.K X.mg F dvs H Q (WE U σ) := spM_use hc hcm (ws := [] ++ dws) (hdw _ _) hh h
  exact run_g (args := ⟨[], []⟩) G hr ng (hb s [] I.kIn (by rw [List.nil_append, ← hd.length]; exact spM_len G.ar q)) tk I hd q
end

/-! ### repr -/
def cRepr : List D → Option D
  | [x] => match toPy x with
    | some p => if p.showable = true ∧ p.depth ≤ 60 ∧ p.shown.length ≤ sizeLine then some (.str p.shown) else none
    | none => none
  | _ => none
def rRepr (K : PySem.W.Frag) : List V → Hp → VK → Prop := fun xs H Q => ∃ x d, xs = [x] ∧ Dp K H x d ∧ d.showable = true ∧ d.depth ≤ 60 ∧ d.shown.length ≤ sizeLine ∧ (∃ a, x = .ref a) ∧ d.hasDict = false ∧ Q (.str d.shown) H
theorem call_reprM {X : Cx} (hr : X.A.units + 64 < cLine) (ng : NoGuard X.A) : CallR X (.builtin "repr") (rRepr X.K) := by
  intro pins s σ H xs us Q I r h
  obtain ⟨x, d, rfl, hd, h1, h2, h3, ⟨a, rfl⟩, h5, q⟩ := h
  obtain ⟨u, rfl, rx⟩ := vals1 r
  cases rx
  obtain ⟨as, rd⟩ := Dp.reads I d _ _ hd rfl
  refine repr_of_reads' rd h1 (fun z => by rw [h5] at z; cases z) ng (by omega) (fun _ _ e => e) (fun h' t tk hk => ?_) h3
  exact ⟨.str d.shown, H, I.kept (h' := h') (t' := tk) hk, ⟨t, rfl⟩, q⟩
end Mn

namespace Mn
open PySem PySem.Spec PyProof.Rows L2

/-! ### repr of data, as data -/
theorem strOk_ofString (s : String) : PyData.strOk (Str.ofString s) = true := by
  rw [Str.ofString_eq_toList]
  unfold PyData.strOk
  rw [Array.all_eq_true_iff_forall_mem]
  intro x hx
  simp only [List.mem_toArray, List.mem_map] at hx
  obtain ⟨ch, _, rfl⟩ := hx
  have h := ch.valid
  simp only [UInt32.isValidChar, Nat.isValidChar] at h
  have : ch.toNat = ch.val.toNat := rfl
  rw [this]
  exact decide_eq_true (by omega)
theorem strOk_iff {x : Str} : PyData.strOk x = true ↔ ∀ ch ∈ x.cps.toList, ch < 1114112 := by
  unfold PyData.strOk
  rw [Array.all_eq_true_iff_forall_mem]
  exact ⟨fun h ch hc => of_decide_eq_true (h ch (by simpa using hc)), fun h ch hc => decide_eq_true (h ch (by simpa using hc))⟩
theorem digits_small : ∀ ch ∈ (Nat.toDigits 16 n).map Char.toNat, ch < 1114112 := fun ch h => by
  obtain ⟨a, _, rfl⟩ := List.mem_map.mp h
  have h := a.valid
  simp only [UInt32.isValidChar, Nat.isValidChar] at h
  have : a.toNat = a.val.toNat := rfl
  omega
theorem reprChar_small {q ch : Nat} (hq : q < 128) (hc : ch < 1114112) : ∀ y ∈ Builtin.Str.reprChar q ch, y < 1114112 := by
  intro y hy
  have hex : ∀ k, y ∈ List.replicate (k - ((Nat.toDigits 16 ch).map Char.toNat).length) 48 ++ (Nat.toDigits 16 ch).map Char.toNat → y < 1114112 := fun k h => by
    rcases List.mem_append.mp h with h | h
    · have := (List.mem_replicate.mp h).2; omega
    · exact digits_small _ h
  unfold Builtin.Str.reprChar at hy
  simp only at hy
  split at hy
  · simp at hy; omega
  split at hy
  · simp at hy; omega
  split at hy
  · simp at hy; omega
  split at hy
  · simp at hy; omega
  split at hy
  · simp at hy; omega
  split at hy
  · rcases List.mem_append.mp hy with h | h
    · simp at h; omega
    · exact hex 2 h
  split at hy
  · rcases List.mem_append.mp hy with h | h
    · simp at h; omega
    · exact hex 4 h
  · rcases List.mem_append.mp hy with h | h
    · simp at h; omega
    · exact hex 8 h
theorem strOk_repr {x : Str} (h : PyData.strOk x = true) : PyData.strOk (reprText x) = true := by
  rw [strOk_iff] at *
  have hq : reprQuote x < 128 := by unfold reprQuote; split <;> omega
  have go : ∀ (l : List Nat) (acc : Array Nat), (∀ ch ∈ l, ch < 1114112) → (∀ ch ∈ acc.toList, ch < 1114112) → ∀ ch ∈ (l.foldl (fun out c => out ++ (Builtin.Str.reprChar (reprQuote x) c).toArray) acc).toList, ch < 1114112 := by
    intro l
    induction l with
    | nil => intro acc _ h2; exact h2
    | cons a l ih =>
      intro acc h1 h2
      refine ih _ (fun ch hc => h1 ch (List.mem_cons_of_mem _ hc)) fun ch hc => ?_
      rw [Array.toList_append] at hc
      rcases List.mem_append.mp hc with hc | hc
      · exact h2 ch hc
      · exact reprChar_small hq (h1 a List.mem_cons_self) ch (by simpa using hc)
  intro ch hc
  unfold reprText at hc
  rw [Array.toList_push] at hc
  rcases List.mem_append.mp hc with hc | hc
  · rw [← Array.foldl_toList] at hc
    exact go _ _ h (fun ch hc => by simp at hc; omega) ch hc
  · simp at hc; omega
theorem strOk_join {y : Str} (hy : PyData.strOk y = true) : ∀ {ts : List Str}, (∀ t ∈ ts, PyData.strOk t = true) → PyData.strOk (Str.join y ts) = true
  | [], _ => by show PyData.strOk Str.empty = true; decide +kernel
  | [t], h => h t List.mem_cons_self
  | t :: u :: r, h => by
    show PyData.strOk (t ++ y ++ Str.join y (u :: r)) = true
    exact strOk_append (strOk_append (h t List.mem_cons_self) hy) (strOk_join hy fun z hz => h z (List.mem_cons_of_mem _ hz))
mutual
theorem strOk_shown : ∀ {p : PyData}, p.canLay0 = true → PyData.strOk p.shown = true
  | .none, _ => by rw [PyData.shown_none]; decide +kernel
  | .bool b, _ => by cases b <;> (rw [PyData.shown_bool]; decide +kernel)
  | .int i, _ => by rw [PyData.shown_int]; exact strOk_ofString _
  | .str x, h => by rw [PyData.shown_str]; exact strOk_repr (by simpa [PyData.canLay0] using h)
  | .list xs, h => by
    rw [PyData.shown_list]
    exact strOk_append (strOk_append (by decide +kernel) (strOk_join (by decide +kernel) (strOk_shownAll (by simpa [PyData.canLay0] using h)))) (by decide +kernel)
  | .tuple xs, h => by
    rw [PyData.shown_tuple]
    exact strOk_append (strOk_append (by decide +kernel) (strOk_join (by decide +kernel) (strOk_shownAll (by simpa [PyData.canLay0] using h)))) (by split <;> decide +kernel)
  | .dict _, h => by simp [PyData.canLay0] at h
theorem strOk_shownAll : ∀ {xs : List PyData}, PyData.canLayAll0 xs = true → ∀ t ∈ PyData.shownAll xs, PyData.strOk t = true
  | [], _ => fun t h => by simp [PyData.shownAll] at h
  | x :: xs, h => fun t ht => by
    simp only [PyData.canLayAll0, Bool.and_eq_true] at h
    rw [PyData.shownAll_cons] at ht
    rcases List.mem_cons.mp ht with e | ht
    · rw [e]; exact strOk_shown h.1
    · exact strOk_shownAll h.2 t ht
end
mutual
theorem noDict_of : ∀ {x : D} {p : PyData}, toPy x = some p → p.hasDict = false
  | .non, _, e => by cases e; rfl
  | .bl _, _, e => by cases e; rfl
  | .int _, _, e => by cases e; rfl
  | .str _, _, e => by cases e; rfl
  | .tup ds, _, e => by obtain ⟨ps, h, rfl⟩ := Option.map_eq_some_iff.mp (show (toPys ds).map PyData.tuple = _ by simpa only [toPy] using e); simpa [PyData.hasDict] using noDict_ofs h
  | .ctp ds, _, e => by obtain ⟨ps, h, rfl⟩ := Option.map_eq_some_iff.mp (show (toPys ds).map PyData.tuple = _ by simpa only [toPy] using e); simpa [PyData.hasDict] using noDict_ofs h
  | .lst ds, _, e => by obtain ⟨ps, h, rfl⟩ := Option.map_eq_some_iff.mp (show (toPys ds).map PyData.list = _ by simpa only [toPy] using e); simpa [PyData.hasDict] using noDict_ofs h
  | .frz _, _, e => by cases e
  | .dic _ _, _, e => by cases e
  | .ins _ _, _, e => by cases e
  | .ty _, _, e => by cases e
  | .cls _, _, e => by cases e
theorem noDict_ofs : ∀ {xs : List D} {ps : List PyData}, toPys xs = some ps → PyData.hasDictAll ps = false
  | [], _, e => by cases e; rfl
  | x :: xs, ps, e => by
    simp only [toPys] at e
    split at e
    · rename_i p qs h1 h2
      cases e
      simp [PyData.hasDictAll, noDict_of h1, noDict_ofs h2]
    · cases e
end
/-- repr of a list or a tuple -/
def cRep : List D → Option D
  | [x] => match x with
    | .str _ => none
    | .int _ => none
    | .bl _ => none
    | .non => none
    | x => match toPy x with
      | some p => if p.showable = true ∧ p.depth ≤ 60 ∧ p.weight ≤ 1048576 ∧ p.intsShort 13 = true then some (.str p.shown) else none
      | none => none
  | _ => none
theorem cd_repr {c : Cn} : CallD c (rRepr c.K) cRep := fun H ρ xs vs z Q fr rs e k => by
  match xs, rs, e with
  | [x], rs, e =>
    obtain ⟨v, rfl, r⟩ := rs.one
    have main : ∀ {p : PyData}, toPy x = some p → (∃ a, v = .ref a) → (if p.showable = true ∧ p.depth ≤ 60 ∧ p.weight ≤ 1048576 ∧ p.intsShort 13 = true then some (D.str p.shown) else none) = some z → rRepr c.K [v] H Q := fun {p} hp hr he => by
      split at he
      · rename_i hc
        obtain ⟨h1, h2, h3, h4⟩ := hc
        cases he
        obtain ⟨a1, a2⟩ := dp_r r hp
        have lay : PyData.layable0 p = true := by
          unfold PyData.layable0
          rw [a2, decide_eq_true (show p.depth ≤ 64 by omega), decide_eq_true (show p.weight ≤ 2 ^ 20 from h3)]
          rfl
        have hz := PyData.shown_fits_of_layable0 (B := 13) (by omega) (by omega) lay h4
        exact ⟨v, p, rfl, a1, h1, h2, hz, hr, noDict_of hp, k _ H (Same.refl H) ⟨rfl, hz, strOk_shown a2⟩⟩
      · cases he
    cases x with
    | tup ds =>
      simp only [cRep] at e
      split at e
      · rename_i p hp
        obtain ⟨a, xs, e1, _⟩ := id r
        exact main hp ⟨a, e1⟩ e
      · cases e
    | ctp ds =>
      simp only [cRep] at e
      split at e
      · rename_i p hp
        obtain ⟨a, xs, e1, _⟩ := id r
        exact main hp ⟨a, e1⟩ e
      · cases e
    | lst ds =>
      simp only [cRep] at e
      split at e
      · rename_i p hp
        obtain ⟨a, xs, e1, _⟩ := id r
        exact main hp ⟨a, e1⟩ e
      · cases e
    | _ => cases e
end Mn

namespace Mn
open PySem PySem.Spec PyProof.Rows L2

theorem relDs_ints {c : Cn} {H : Hp} {ρ : Rho} : ∀ ns : List Int, RelDs c H ρ (ns.map D.int) (ns.map V.int)
  | [] => trivial
  | _ :: ns => ⟨rfl, relDs_ints ns⟩
/-- the law, called from outside, where nothing is tracked but the script -/
theorem law_end {P : Program} {w : World} {K : PySem.W.Frag} {mg mb : Str → Option Value} {k : Nat} {fa a : Addr} {fd : FuncData} {x : Str} {F : FN} {s₁ : Shared} {vs : List Value} {ns : List Int}
    (inH : K.In s₁.heap) (nsM : s₁.heap.Ns mainGlobals mg) (nsB : s₁.heap.Ns builtinsNs mb) (mbB : ∀ y : Str, y ≠ "__name__" → mb y = bootBuiltins y) (noLim : s₁.heap.NoLimit) (noGen : s₁.gens = #[])
    (atA : s₁.heap.get? a = some { cls := .type "list", data := .seq vs.toArray }) (are : IntsAre vs ns) (len : ns.length ≤ sizeLine) (room : Room k callerA)
    (G : ∀ base : Heap, K.In base → base.Ns mainGlobals mg → FnG P w K mg base k fa fd [x] F) (bind : ∀ (s : Shared) (u : Value), BindsTo s fd ⟨[u], []⟩ [(x, u)])
    (law : ∃ vh, F [.d (.frz (ns.map D.int))] [] = .ok (.d (.bl true)) vh) :
    codeAny (model P w) callerA (.call (.ref fa) ⟨[.ref a], []⟩) (fun r s' => r = .ok (.ret (.bool true)) ∧ PySem.OldK s₁.heap s'.heap ∧ s'.os = s₁.os ∧ AllBare s'.gens) s₁ := by
  obtain ⟨vhE, law⟩ := law
  have lenV := are.length
  let it : Obj := { cls := .type "list", data := .seq vs.toArray }
  -- over any abstract heap that knows at most the script
  have main : ∀ H : Hp, (∀ b u, H b = some u → b = a ∧ u = .frz it (.lst (ns.map V.int)) ∧ K.lookup a = none) → SqL K H a (ns.map V.int) →
      codeAny (model P w) callerA (.call (.ref fa) ⟨[.ref a], []⟩) (fun r s' => r = .ok (.ret (.bool true)) ∧ PySem.OldK s₁.heap s'.heap ∧ s'.os = s₁.os ∧ AllBare s'.gens) s₁ := by
    intro H known sq
    have free : ∀ {b : Addr} {o : Obj}, s₁.heap.get? b = some o → (∀ us n, o.data ≠ .seq us n) → H b = none := fun {b o} e d => by
      cases q : H b with
      | none => rfl
      | some u =>
        obtain ⟨rfl, _⟩ := known b u q
        rw [atA] at e
        cases e
        exact absurd rfl (d _ _)
    have hok : HOk P w H s₁.heap := fun b u q => by
      obtain ⟨rfl, rfl, _⟩ := known b u q
      exact ⟨atA, by rw [List.length_map]; exact len, vs, _, vals_ints are, atA⟩
    have stay : ∀ {b : Addr} {m : Str → Option Value}, s₁.heap.Ns b m → (hidT s₁.heap H).Ns b m := fun {b m} ⟨o, es, ep, e, d, r⟩ =>
      ⟨o, es, ep, hidT_get e (free e fun us n z => by rw [d] at z; cases z), d, r⟩
    have inB : K.In (hidT s₁.heap H) := fun b o e => hidT_get (inH b o e) (by
      cases q : H b with
      | none => rfl
      | some u =>
        obtain ⟨rfl, _, z⟩ := known b u q
        rw [z] at e; cases e)
    have md : Mod K mg (hidT s₁.heap H) := ⟨inB, stay nsM, ⟨mb, stay nsB, mbB⟩, let ⟨mc, h1, h2⟩ := noLim; ⟨mc, stay h1, h2⟩⟩
    have e0 : Env0 P w K mg (hidT s₁.heap H) callerA [] s₁ H :=
      { frames := rfl, mod := md, bs := fun b o e => of_hidT e, bsz := Nat.le_of_eq (hidT_size _ _), funs := trivial, frf := fun b hb => (nomatch (show b ∈ ([] : List Addr) from hb)), hok := hok, bare := .of_eq noGen }
    have arg : RelWs ⟨K, mg, []⟩ H [] [.d (.frz (ns.map D.int))] [.ref a] := by
      refine ⟨⟨a, ns.map V.int, rfl, sq.imp (fun z => ⟨⟨(fun h => nomatch h), (fun h => nomatch h)⟩, z⟩) id, by rw [List.length_map]; exact len, relDs_ints ns⟩, trivial⟩
    have rh : RelH ⟨K, mg, []⟩ H [] [] := ⟨rfl, fun i j b h => by simp at h, fun i vo h => by simp at h, fun b h => nomatch h⟩
    have pr : spM K mg F [.ref a] H (fun v _ => v = .bl true) (fun _ _ _ => False) := by
      refine ⟨⟨K, mg, []⟩, rfl, rfl, _, [], [], arg, rh, ?_⟩
      rw [law]
      exact fun H' ρ' g f r v rv => rv
    refine codeAny_mono ((G _ inB (stay nsM)).go callerA [] s₁ H ⟨[.ref a], []⟩ [.ref a] [.ref a] _ _ room rfl e0 (bind s₁ (.ref a)) (.cons rfl .nil) pr) fun r s' h => ?_
    cases r with
    | error e => obtain ⟨_, _, _, _, _, _, _, _, _, _, _, _, z⟩ := h; exact z.elim
    | ok fl => cases fl with
      | next => exact h.elim
      | brk => exact h.elim
      | cont => exact h.elim
      | ret u =>
        obtain ⟨v, H', os, bare, un, ok', rv, q⟩ := h
        cases q
        cases rv
        refine ⟨rfl, PySem.OldK.of_keep fun b o e => ?_, os, bare⟩
        cases q : H b with
        | none => exact un.keep b o e q (fun z => nomatch (show b ∈ ([] : List Addr) from z)) (fun z => nomatch z)
        | some u =>
          obtain ⟨rfl, rfl, _⟩ := known b u q
          rw [atA] at e
          cases e
          exact (ok' b _ (un.frzs b _ _ q)).1
  cases hk : K.lookup a with
  | some o =>
    have e := inH a o hk
    rw [atA] at e
    cases e
    exact main (fun _ => none) (fun b u z => by cases (show (none : Option HO) = some u from z)) (.inr ⟨_, vs.toArray, _, hk, rfl, rfl, rfl, by rw [List.size_toArray, lenV]; exact len, by simpa using vals_ints are⟩)
  | none =>
    refine main (fun b => if b = a then some (.frz it (.lst (ns.map V.int))) else none) (fun b u z => ?_) (.inl (.inr ⟨it, if_pos rfl⟩))
    by_cases hb : b = a
    · rw [if_pos hb] at z
      exact ⟨hb, (Option.some.inj z).symm, hk⟩
    · rw [if_neg hb] at z; cases z
theorem walk_end {l : PySem.W.OpenLaw} {n k : Nat} {q : Program} {loose : List Str} {XP : (Str → Option Value) → Heap → Prop} {YP : World → Heap → Prop} {d : DefRec} {K : Params → PySem.W.Frag} {F : FN} {x : Str}
    (most : l.most = some n) (small : n ≤ sizeLine) (noDef : d.params.defaults = []) (room : Room k callerA) (inK : ∀ (w : World) (h : Heap), YP w h → (K w.params).In h)
    (defs : ∀ (w : World) (mg : Str → Option Value) (fa : Addr) (h : Heap), (K w.params).In h → h.Ns mainGlobals mg → mg d.name = some (.ref fa) →
      ∃ fd : FuncData, (∀ (s : Shared) (u : Value), BindsTo s fd ⟨[u], []⟩ [(x, u)]) ∧ ∀ base : Heap, (K w.params).In base → base.Ns mainGlobals mg → FnG l.prog w (K w.params) mg base k fa fd [x] F)
    (law : ∀ ns : List Int, ns.length ≤ n → ∃ vh, F [.d (.frz (ns.map D.int))] [] = .ok (.d (.bl true)) vh) : PySem.W.WalkO q loose XP YP l.row.toRowW d [] (fun f vs => PySem.call f vs) := by
  refine Att.attach_call most noDef fun w s₀ s₁ mg mb fa o pm cd doc a vs ns G Y ho hd hcd hmg hobj hints hlen hg => ?_
  obtain ⟨fd, b, g⟩ := defs w mg fa _ (inK w _ Y) G.T.g hmg
  exact law_end (inK w _ Y) G.T.g G.T.b G.T.builtins G.T.nolimit hg hobj hints (Nat.le_trans hlen small) room g b (law ns hlen)
end Mn

namespace Mn
open PySem PySem.Spec PyProof.Rows L2

theorem bt_all : bootBuiltins "all" = some (.builtin "all") := by decide +kernel
theorem bt_any : bootBuiltins "any" = some (.builtin "any") := by decide +kernel
theorem bt_len : bootBuiltins "len" = some (.builtin "len") := by decide +kernel
theorem bt_repr : bootBuiltins "repr" = some (.builtin "repr") := by decide +kernel
theorem bt_isinstance : bootBuiltins "isinstance" = some (.builtin "isinstance") := by decide +kernel
theorem bt_sorted : bootBuiltins "sorted" = some (.builtin "sorted") := by decide +kernel
theorem bt_int : bootBuiltins "int" = some (.type "int") := by decide +kernel
theorem bt_str : bootBuiltins "str" = some (.type "str") := by decide +kernel
theorem bt_list : bootBuiltins "list" = some (.type "list") := by decide +kernel
theorem bt_tuple : bootBuiltins "tuple" = some (.type "tuple") := by decide +kernel

/-! ### a module's constants -/
def Konst (K : PySem.W.Frag) (mg : Str → Option Value) (x : Str) (d : D) : Prop := ∃ u v, mg x = some u ∧ RelV v u ∧ ∀ hid H ρ, RelD ⟨K, mg, hid⟩ H ρ d v
def valD : Value → Option D
  | .none => some .non
  | .bool b => some (.bl b)
  | .int i _ => some (.int i)
  | .str x _ => if (decide (x.length ≤ sizeLine) && PyData.strOk x) = true then some (.str x) else none
  | _ => none
def valsD : List Value → Option (List D)
  | [] => some []
  | u :: us => match valD u, valsD us with
    | some x, some xs => some (x :: xs)
    | _, _ => none
theorem valD_ok {c : Cn} {H : Hp} {ρ : Rho} {u : Value} {x : D} (h : valD u = some x) : ∃ v, RelV v u ∧ absV u = some v ∧ RelD c H ρ x v := by
  cases u with
  | none => cases h; exact ⟨.non, rfl, rfl, rfl⟩
  | bool b => cases h; exact ⟨.bl b, rfl, rfl, rfl⟩
  | int i t => cases h; exact ⟨.int i, ⟨t, rfl⟩, rfl, rfl⟩
  | str y t =>
    simp only [valD] at h
    split at h
    · rename_i hk
      rw [Bool.and_eq_true, decide_eq_true_eq] at hk
      cases h
      exact ⟨.str y, ⟨t, rfl⟩, rfl, rfl, hk⟩
    · cases h
  | _ => cases h
def absVs : List Value → List V
  | [] => []
  | u :: us => (absV u).getD .non :: absVs us
theorem valsD_ok {c : Cn} {H : Hp} {ρ : Rho} : ∀ {us : List Value} {xs : List D}, valsD us = some xs → Vals (absVs us) us ∧ RelDs c H ρ xs (absVs us)
  | [], _, h => by cases h; exact ⟨.nil, trivial⟩
  | u :: us, xs, h => by
    simp only [valsD] at h
    split at h
    · rename_i x ys h1 h2
      cases h
      obtain ⟨v, r, e, d⟩ := valD_ok (c := c) (H := H) (ρ := ρ) h1
      obtain ⟨t1, t2⟩ := valsD_ok (c := c) (H := H) (ρ := ρ) h2
      have e2 : absVs (u :: us) = v :: absVs us := by simp only [absVs, e, Option.getD_some]
      rw [e2]
      exact ⟨.cons r t1, d, t2⟩
    · cases h
section
variable {K : PySem.W.Frag} {mg : Str → Option Value} {h : Heap} {x : Str}
theorem konst_flat {u : Value} {d : D} (X : K.In h) (G : h.Ns mainGlobals mg) (a : PySem.W.nsIn K mainGlobals x = some (some u)) (e : valD u = some d) : Konst K mg x d := by
  have hm := PySem.W.mg_of X G a
  refine ⟨u, (absV u).getD .non, hm, ?_, fun hid H ρ => ?_⟩
  · obtain ⟨v, r, e1, _⟩ := valD_ok (c := ⟨K, mg, []⟩) (H := fun _ => none) (ρ := []) e
    rw [e1]; exact r
  · obtain ⟨v, r, e1, q⟩ := valD_ok (c := ⟨K, mg, hid⟩) (H := H) (ρ := ρ) e
    rw [e1]; exact q
theorem konst_tup {a : Addr} {od : Option Addr} {its : Array Value} {n : Nat} {sl : Array (Option Value)} {ds : List D} (X : K.In h) (G : h.Ns mainGlobals mg) (e1 : PySem.W.nsIn K mainGlobals x = some (some (.ref a))) (e2 : K.lookup a = some ⟨.type "tuple", od, .seq its n, sl⟩)
    (e : valsD its.toList = some ds) (z : decide (its.size ≤ sizeLine) = true) : Konst K mg x (.ctp ds) := by
  have hm := PySem.W.mg_of X G e1
  refine ⟨.ref a, .ref a, hm, rfl, fun hid H ρ => ?_⟩
  obtain ⟨r1, r2⟩ := valsD_ok (c := ⟨K, mg, hid⟩) (H := H) (ρ := ρ) e
  refine ⟨a, absVs its.toList, rfl, ⟨_, its, n, e2, rfl, rfl, of_decide_eq_true z, r1⟩, ?_, r2⟩
  rw [r2.length, r1.length]
  simpa using of_decide_eq_true z
theorem konst_no (X : K.In h) (G : h.Ns mainGlobals mg) (a : PySem.W.nsIn K mainGlobals x = some none) : mg x = none := PySem.W.mg_none_of X G a
/-- a def of the text, by its global name -/
structure GDef (K : PySem.W.Frag) (mg : Str → Option Value) (x : Str) (st : Stmt) (f : Addr) (fd : FuncData) : Prop where
  F : Fun K x x st f fd
  m : mg x = some (.ref f)
theorem gdef_of {st : Stmt} {f : Addr} {oc : Value} {od an : Option Addr} {osl : Array (Option Value)} {kV doc pm cdv ct : Value} (X : K.In h) (G : h.Ns mainGlobals mg) (a : PySem.W.nsIn K mainGlobals x = some (some (.ref f)))
    (l : K.lookup f = some ⟨oc, od, .func (PySem.W.fnOf x x (defArgs st) (defBody st) (defScope st) .none kV doc pm an cdv ct), osl⟩) (c : PySem.W.codeIn K cdv x = true) (k : PySem.W.keepIn K (.ref f) = true) :
    GDef K mg x st f (PySem.W.fnOf x x (defArgs st) (defBody st) (defScope st) .none kV doc pm an cdv ct) := ⟨fun_mk l c k, PySem.W.mg_of X G a⟩
end
section
variable {X : Cx} {c : Cn} {U : WX} {pos p : Pos}
theorem me_k {K : PySem.W.Frag} {mg : Str → Option Value} {hid : List Addr} {x : Str} {d : D} (k : Konst K mg x d) (hK : X.mg = mg) (hg : Gl X x) (hdb : (x == ("__debug__" : Str)) = false := by decide) : PE X (.Name x pos) (tM ⟨K, mg, hid⟩ U (mC d)) := by
  obtain ⟨u, v, h1, h2, h3⟩ := k
  exact me_glob hg (by rw [hK]; exact h1) h2 (fun H ρ => h3 hid H ρ) hdb
theorem ms_setLc (i : Nat) {y : Str} {py : Pos} {elt tg iter : Expr} {ifs : List Expr} {scope : Scope} {own : List (Str × Nat)} {spos : Pos} {fi : FI} {A : FTg} {t : FT} {f : FE} {ws : List Nat} {vs : List Nat} (mm : Bool) (hc : X.calm = true) (hN : X.N.Nodup)
    (hi : PI X tg iter (tMI c U fi)) (ok : BlkOk X.N X.env.scope scope own)
    (hg : ∀ (s : Shared) (H : Hp) (C : Addr) (cl : List (Str × Addr)) (fp : List Addr) (hid : List Addr), PG (X.blk s H scope (compEnvC scope cl C X.env) fp) tg (tMG ⟨c.K, c.mg, hid⟩ A ws))
    (ht : ∀ (s : Shared) (H : Hp) (C : Addr) (cl : List (Str × Addr)) (fp : List Addr) (hid : List Addr), PTs (X.blk s H scope (compEnvC scope cl C X.env) fp) ifs (tMT ⟨c.K, c.mg, hid⟩ U0 t))
    (he : ∀ (s : Shared) (H : Hp) (C : Addr) (cl : List (Str × Addr)) (fp : List Addr) (hid : List Addr), PE (X.blk s H scope (compEnvC scope cl C X.env) fp) elt (tM ⟨c.K, c.mg, hid⟩ U0 f))
    (hy : X.N[i]? = some y := by rfl) (hyl : X.env.scope.names.lookup y = some .local := by rfl)
    (hsw : swapsWith (.ListComp elt [⟨tg, iter, ifs, 0⟩] scope pos) (some (.Name y py)) spos.line X.env = pure true := by exact sw_true rfl rfl rfl (by decide +kernel))
    (hvs : own.map (·.2) = vs := by rfl) (hvw : ∀ i ∈ ws, i ∈ vs := by decide) (hs : ∀ x, foldedSetIterable iter X.env x = pure x := by intro _; rfl) :
    PS X (.Assign [.Name y py] (.ListComp elt [⟨tg, iter, ifs, 0⟩] scope pos) spos) (tMS c U (mSet i (mLc mm fi A t f vs))) := by
  subst hvs
  exact ps_imp (ps_setLc hc hN hy hyl hsw hi ok (fun s H C cl fp => pg_ex (hg s H C cl fp)) (fun s H C cl fp => pts_ex (ht s H C cl fp)) (fun s H C cl fp => pe_ex (he s H C cl fp)) hs) fun D σ H ⟨e, ρ, vh, he, hh, h⟩ => by
    have q : tM c U (mLc mm fi A t f (own.map (·.2))) σ H fun v H1 => D.nx (σ.set i (some v)) H1 := (useS he hh h).mono fun v H1 ⟨w, vh1, ρ1, r, A, _, _⟩ => A.out.here (A.re.set r) A.rh
    exact lc_use (U := U) hvw q
def mPar2 (i j : Nat) (fa : FA) : FS := fun e vh => lft (fa e vh) e fun ws vh1 => match ws with
  | [w1, w2] => .nx ((e.set i (some w1)).set j (some w2)) vh1
  | _ => .stuck
theorem ms_par2 (i j : Nat) {x y : Str} {a b : Expr} {fa : FA} {px py pt : Pos} {kt k2 : Nat} {pt2 : Pos} (hc : X.calm = true) (hN : X.N.Nodup) (ha : PA X [a, b] (tMA c U fa)) (hi : X.N[i]? = some x := by rfl) (hj : X.N[j]? = some y := by rfl) (hij : i ≠ j := by decide)
    (hx : X.env.scope.names.lookup x = some .local := by rfl) (hy : X.env.scope.names.lookup y = some .local := by rfl)
    (hw : swappedStores [.Tuple [.Name x px, .Name y py] kt pt] (.Tuple [a, b] k2 pt2) X.env = pure (some [x, y]) := by rfl)
    (hs : swapsWithSole [.Tuple [.Name x px, .Name y py] kt pt] (.Tuple [a, b] k2 pt2) pos.line X.env = pure false := by rfl) : PS X (.Assign [.Tuple [.Name x px, .Name y py] kt pt] (.Tuple [a, b] k2 pt2) pos) (tMS c U (mPar2 i j fa)) :=
  ps_imp (ps_par hc hN hi hj hij hx hy ha hw hs) fun D σ H ⟨e, ρ, vh, he, hh, h⟩ => (useSA he hh h).mono fun vs H1 ⟨ws, vh1, ρ1, rs, A, _, _⟩ => by
    have o := A.out
    match ws, vs, rs, o with
    | [w1, w2], [v1, v2], ⟨r1, r2, _⟩, o => exact ⟨v1, v2, rfl, o.here ((A.re.set r1).set r2) A.rh⟩
def mPar3 (i j l : Nat) (fa : FA) : FS := fun e vh => lft (fa e vh) e fun ws vh1 => match ws with
  | [w1, w2, w3] => .nx (((e.set i (some w1)).set j (some w2)).set l (some w3)) vh1
  | _ => .stuck
theorem ms_par3 (i j l : Nat) {x y z : Str} {a b d : Expr} {fa : FA} {px py pz pt : Pos} {kt k2 : Nat} {pt2 : Pos} (hc : X.calm = true) (hN : X.N.Nodup) (ha : PA X [a, b, d] (tMA c U fa)) (hi : X.N[i]? = some x := by rfl) (hj : X.N[j]? = some y := by rfl) (hl : X.N[l]? = some z := by rfl)
    (hij : i ≠ j := by decide) (hil : i ≠ l := by decide) (hjl : j ≠ l := by decide) (hx : X.env.scope.names.lookup x = some .local := by rfl) (hy : X.env.scope.names.lookup y = some .local := by rfl) (hz : X.env.scope.names.lookup z = some .local := by rfl)
    (hw : swappedStores [.Tuple [.Name x px, .Name y py, .Name z pz] kt pt] (.Tuple [a, b, d] k2 pt2) X.env = pure (some [x, y, z]) := by rfl)
    (hs : swapsWithSole [.Tuple [.Name x px, .Name y py, .Name z pz] kt pt] (.Tuple [a, b, d] k2 pt2) pos.line X.env = pure false := by rfl) : PS X (.Assign [.Tuple [.Name x px, .Name y py, .Name z pz] kt pt] (.Tuple [a, b, d] k2 pt2) pos) (tMS c U (mPar3 i j l fa)) :=
  ps_imp (ps_par3 hc hN hi hj hl hij hil hjl hx hy hz ha hw hs) fun D σ H ⟨e, ρ, vh, he, hh, h⟩ => (useSA he hh h).mono fun vs H1 ⟨ws, vh1, ρ1, rs, A, _, _⟩ => by
    have o := A.out
    match ws, vs, rs, o with
    | [w1, w2, w3], [v1, v2, v3], ⟨r1, r2, r3, _⟩, o => exact ⟨v1, v2, v3, rfl, o.here (((A.re.set r1).set r2).set r3) A.rh⟩
/-- targets = value, the targets a tuple -/
def mAsg (f : FE) (A : FTg) : FS := fun e vh => lft (f e vh) e fun w vh1 => match w with
  | .d x => match A x e with
    | some e' => .nx e' vh1
    | none => .stuck
  | .ref _ => .stuck
theorem ms_tup {tg a : Expr} {f : FE} {A : FTg} {vs : List Nat} (ha : PE X a (tM c U f)) (hg : PG X tg (tMG c A vs)) (hs : swapsWithSole [tg] a pos.line X.env = pure false := by rfl) (hw : swappedStores [tg] a X.env = pure none := by rfl)
    (h1 : (assignEach [tg] X.env).map (·.2) = [assign tg X.env] := by rfl) : PS X (.Assign [tg] a pos) (tMS c U (mAsg f A)) :=
  ps_imp (ps_asg ha hg hs hw h1) fun D σ H ⟨e, ρ, vh, he, hh, h⟩ => (useS he hh h).mono fun v H1 ⟨w, vh1, ρ1, r, A0, _, _⟩ => by
    have o := A0.out
    cases w with
    | ref k => exact o.elim
    | d x =>
      dsimp only at o
      cases q : A x e with
      | none => rw [q] at o; exact o.elim
      | some e' => rw [q] at o; exact ⟨e, ρ1, x, e', A0.re, r, q, fun σ' re' _ => o.here re' A0.rh⟩
theorem mt_insertM : MtM X "list.insert" rInsert := mt_insert
end
end Mn

namespace Mn
open PySem PySem.Spec PyProof.Rows L2

/-! ### how the meanings are reckoned -/
section
variable {e : Env} {vh : VH} {f g : FE} {s t : FS} {fa : FA} {ft gt : FT}
def seqR (r : RS) (g : FS) : RS := match r with
  | .nx e' vh' => g e' vh'
  | r => r
@[simp] theorem seqR_nx : seqR (.nx e vh) t = t e vh := rfl
@[simp] theorem seqR_rt {w : W} : seqR (.rt w vh) t = .rt w vh := rfl
@[simp] theorem seqR_bk : seqR (.bk e vh) t = .bk e vh := rfl
@[simp] theorem seqR_ct : seqR (.ct e vh) t = .ct e vh := rfl
@[simp] theorem seqR_exn {x : Exn} : seqR (.exn x e vh) t = .exn x e vh := rfl
@[simp] theorem seqR_stuck : seqR .stuck t = .stuck := rfl
@[simp] theorem ev_seq : mSeq s t e vh = seqR (s e vh) t := by unfold mSeq seqR; cases s e vh <;> rfl
@[simp] theorem ev_skip : mSkip e vh = .nx e vh := rfl
@[simp] theorem ev_set {i : Nat} : mSet i f e vh = lft (f e vh) e fun w vh' => .nx (e.set i (some w)) vh' := rfl
@[simp] theorem ev_do : mDo f e vh = lft (f e vh) e fun _ vh' => .nx e vh' := rfl
@[simp] theorem ev_ret : mRet f e vh = lft (f e vh) e fun w vh' => .rt w vh' := rfl
@[simp] theorem ev_retN : mRetN e vh = .rt (.d .non) vh := rfl
@[simp] theorem ev_ifS : mIfS ft s t e vh = lft (ft e vh) e fun b vh' => if b = true then s e vh' else t e vh' := rfl
@[simp] theorem ev_break : mBreak e vh = .bk e vh := rfl
@[simp] theorem ev_cont : mCont e vh = .ct e vh := rfl
def getW (o : Option (Option W)) (vh : VH) : Res W := match o with
  | some (some w) => .ok w vh
  | _ => .stuck
@[simp] theorem getW_some {w : W} : getW (some (some w)) vh = .ok w vh := rfl
@[simp] theorem ev_var {i : Nat} : mVar i e vh = getW (e[i]?) vh := by unfold mVar getW; rfl
@[simp] theorem ev_c {d : D} : mC d e vh = .ok (.d d) vh := rfl
@[simp] theorem ev_op {k : D → D → Option D} : mOp k f g e vh = bnd (f e vh) fun w1 vh1 => bnd (g e vh1) fun w2 vh2 => opt (see vh2 w1) fun x => opt (see vh2 w2) fun y => opt (k x y) fun z => .ok (.d z) vh2 := rfl
@[simp] theorem ev_un {k : D → Option D} : mUn k f e vh = bnd (f e vh) fun w1 vh1 => opt (see vh1 w1) fun x => opt (k x) fun z => .ok (.d z) vh1 := rfl
def chainR (z : D) (vh : VH) (k : VH → Res W) : Res W := match z with
  | .bl true => k vh
  | .bl false => .ok (.d (.bl false)) vh
  | _ => .stuck
@[simp] theorem chainR_bl {b : Bool} {k : VH → Res W} : chainR (.bl b) vh k = if b = true then k vh else .ok (.d (.bl false)) vh := by cases b <;> rfl
@[simp] theorem ev_chain {h : FE} {k k' : D → D → Option D} : mChain k k' f g h e vh = bnd (f e vh) fun w1 vh1 => bnd (g e vh1) fun w2 vh2 => opt (see vh2 w1) fun x => opt (see vh2 w2) fun y => opt (k x y) fun z =>
    chainR z vh2 fun vh2 => bnd (h e vh2) fun w3 vh3 => opt (see vh3 w2) fun y => opt (see vh3 w3) fun x3 => opt (k' y x3) fun z' => .ok (.d z') vh3 := by
  unfold mChain chainR; rfl
@[simp] theorem ev_isB {b : Bool} : isB (.d (.bl b)) vh = .ok b vh := rfl
@[simp] theorem ev_test : mTest f e vh = bnd (f e vh) isB := rfl
@[simp] theorem ev_notT : mNotT ft e vh = bnd (ft e vh) fun b vh1 => .ok (!b) vh1 := rfl
@[simp] theorem ev_andT : mAndT ft gt e vh = bnd (ft e vh) fun b vh1 => if b = true then gt e vh1 else .ok false vh1 := rfl
@[simp] theorem ev_orT : mOrT ft gt e vh = bnd (ft e vh) fun b vh1 => if b = true then .ok true vh1 else gt e vh1 := rfl
@[simp] theorem ev_if : mIf ft f g e vh = bnd (ft e vh) fun b vh1 => if b = true then f e vh1 else g e vh1 := rfl
@[simp] theorem ev_and : mAnd f g e vh = bnd (f e vh) fun w vh1 => bnd (isB w vh1) fun b vh1 => if b = true then g e vh1 else .ok (.d (.bl false)) vh1 := rfl
@[simp] theorem ev_or : mOr f g e vh = bnd (f e vh) fun w vh1 => bnd (isB w vh1) fun b vh1 => if b = true then .ok (.d (.bl true)) vh1 else g e vh1 := rfl
@[simp] theorem ev_not : mNot f e vh = bnd (f e vh) fun w vh1 => bnd (isB w vh1) fun b vh1 => .ok (.d (.bl !b)) vh1 := rfl
@[simp] theorem ev_nil : mNil e vh = .ok [] vh := rfl
@[simp] theorem ev_cons : mCons f fa e vh = bnd (f e vh) fun w vh1 => bnd (fa e vh1) fun ws vh2 => .ok (w :: ws) vh2 := rfl
@[simp] theorem datas_nil : datas [] = some [] := rfl
@[simp] theorem datas_cons {x : D} {r : List W} : datas (.d x :: r) = (datas r).map (x :: ·) := by simp only [datas]; cases datas r <;> rfl
@[simp] theorem sees_nil : sees vh [] = some [] := rfl
@[simp] theorem sees_cons {w : W} {r : List W} : sees vh (w :: r) = (see vh w).bind fun x => (sees vh r).map (x :: ·) := by
  simp only [sees]
  cases see vh w <;> cases sees vh r <;> rfl
def sizeOk (n : Nat) (r : Res W) : Res W := if n ≤ sizeLine then r else .stuck
theorem sizeOk_ok {n : Nat} {r : Res W} (h : n ≤ 16777216) : sizeOk n r = r := if_pos h
@[simp] theorem ev_tup : mTup fa e vh = bnd (fa e vh) fun ws vh1 => opt (datas ws) fun ds => sizeOk ds.length (.ok (.d (.tup ds)) vh1) := rfl
@[simp] theorem ev_lst : mLst fa e vh = bnd (fa e vh) fun ws vh1 => opt (datas ws) fun ds => sizeOk ds.length (.ok (.d (.lst ds)) vh1) := rfl
@[simp] theorem ev_lstM : mLstM fa e vh = bnd (fa e vh) fun ws vh1 => opt (datas ws) fun ds => sizeOk ds.length (.ok (.ref vh1.length) (vh1 ++ [.lst ds])) := rfl
@[simp] theorem ev_blt {k : List D → Option D} : mBlt k fa e vh = bnd (fa e vh) fun ws vh1 => opt (sees vh1 ws) fun ds => opt (k ds) fun z => .ok (.d z) vh1 := rfl
@[simp] theorem ev_call {F : FN} {dws : List W} : mCall F dws fa e vh = bnd (fa e vh) fun ws vh1 => F (ws ++ dws) vh1 := rfl
def endFn (r : RS) : Res W := match r with
  | .nx _ vh' => .ok (.d .non) vh'
  | .rt w vh' => .ok w vh'
  | .exn x _ vh' => .exn x vh'
  | _ => .stuck
@[simp] theorem endFn_nx : endFn (.nx e vh) = .ok (.d .non) vh := rfl
@[simp] theorem endFn_rt {w : W} : endFn (.rt w vh) = .ok w vh := rfl
theorem ev_fn {np nn : Nat} {ws : List W} (h : ws.length = np) : mFn np nn s ws vh = endFn (s (entry np nn ws) vh) := by
  unfold mFn endFn
  exact (if_pos h).trans rfl
@[simp] theorem ev_noPart : mNoPart e vh = .ok none vh := rfl
def partR (o : Option D) (vh : VH) : Res (Option Int) := match o with
  | some (.int i) => .ok (some i) vh
  | _ => .stuck
@[simp] theorem partR_int {i : Int} : partR (some (.int i)) vh = .ok (some i) vh := rfl
@[simp] theorem ev_part : mPart f e vh = bnd (f e vh) fun w vh1 => partR (see vh1 w) vh1 := by unfold mPart partR; rfl
@[simp] theorem ev_sl {fl fh : Env → VH → Res (Option Int)} : mSl f fl fh e vh = bnd (f e vh) fun w vh1 => bnd (fl e vh1) fun lo vh2 => bnd (fh e vh2) fun hi vh3 => opt (see vh3 w) fun x => opt (dSl x lo hi) fun z => .ok (.d z) vh3 := rfl
def storeL (k : Nat) (ds : List D) (n : Int) (x : D) (e : Env) (vh : VH) : RS := match ixN ds.length n with
  | some j => .nx e (vh.set k (.lst (ds.set j x)))
  | none => .stuck
def storeD (k : Nat) (t : Bool) (kvs : List (D × D)) (i x : D) (e : Env) (vh : VH) : RS := match dPut t kvs i x with
  | some kvs' => if kvs.length < sizeLine then .nx e (vh.set k (.dic t kvs')) else .stuck
  | none => .stuck
def storeAt (k : Nat) (o : Option VO) (i x : D) (e : Env) (vh : VH) : RS := match o with
  | some (.lst ds) => match i with
    | .int n => storeL k ds n x e vh
    | _ => .stuck
  | some (.dic t kvs) => storeD k t kvs i x e vh
  | _ => .stuck
def storeW (wo wv : W) (oi : Option D) (e : Env) (vh : VH) : RS := match wo with
  | .d _ => .stuck
  | .ref k => match wv with
    | .ref _ => .stuck
    | .d x => match oi with
      | none => .stuck
      | some i => storeAt k (vh[k]?) i x e vh
@[simp] theorem storeW_d {k : Nat} {x i : D} : storeW (.ref k) (.d x) (some i) e vh = storeAt k (vh[k]?) i x e vh := rfl
@[simp] theorem storeAt_lst {k : Nat} {ds : List D} {n : Int} {x : D} : storeAt k (some (.lst ds)) (.int n) x e vh = storeL k ds n x e vh := rfl
@[simp] theorem storeAt_dic {k : Nat} {t : Bool} {kvs : List (D × D)} {i x : D} : storeAt k (some (.dic t kvs)) i x e vh = storeD k t kvs i x e vh := rfl
@[simp] theorem ev_setItem {h : FE} : mSetItem f g h e vh = lft (h e vh) e fun wv vh1 => lft (f e vh1) e fun wo vh2 => lft (g e vh2) e fun wi vh3 => storeW wo wv (see vh3 wi) e vh3 := by
  unfold mSetItem storeW storeAt storeL storeD; rfl
def seqI (w : W) (vh : VH) : Res (List D) := match w with
  | .d x => match x with
    | .str z => .ok (z.cps.toList.map fun ch => .str ⟨#[ch]⟩) vh
    | x => opt (asSeq x) fun ds => .ok ds vh
  | _ => .stuck
@[simp] theorem seqI_str {z : Str} : seqI (.d (.str z)) vh = .ok (z.cps.toList.map fun ch => .str ⟨#[ch]⟩) vh := rfl
@[simp] theorem seqI_lst {ds : List D} : seqI (.d (.lst ds)) vh = .ok ds vh := rfl
@[simp] theorem seqI_tup {ds : List D} : seqI (.d (.tup ds)) vh = .ok ds vh := rfl
@[simp] theorem seqI_ctp {ds : List D} : seqI (.d (.ctp ds)) vh = .ok ds vh := rfl
@[simp] theorem ev_seqI : mSeqI f e vh = bnd (f e vh) seqI := by unfold mSeqI seqI; rfl
def rangeI (o : Option D) (vh : VH) : Res (List D) := match o with
  | some (.int j) => if -(2 ^ 62) ≤ j ∧ j < 2 ^ 62 then .ok ((List.range j.toNat).map fun (i : Nat) => .int (i : Int)) vh else .stuck
  | _ => .stuck
theorem rangeI_ok {j : Int} (h : -(2 ^ 62) ≤ j ∧ j < 2 ^ 62) : rangeI (some (.int j)) vh = .ok ((List.range j.toNat).map fun (i : Nat) => .int (i : Int)) vh := if_pos h
@[simp] theorem ev_range1 : mRange1 f e vh = bnd (f e vh) fun w vh1 => rangeI (see vh1 w) vh1 := by unfold mRange1 rangeI; rfl
def lcR (m : Bool) (r : Res (List D)) : Res W := match r with
  | .ok xs vh2 => if xs.length ≤ sizeLine then (if m then .ok (.ref vh2.length) (vh2 ++ [.lst xs]) else .ok (.d (.lst xs)) vh2) else .stuck
  | _ => .stuck
theorem lcR_false {xs : List D} (h : xs.length ≤ 16777216) : lcR false (.ok xs vh) = .ok (.d (.lst xs)) vh := if_pos h
theorem lcR_true {xs : List D} (h : xs.length ≤ 16777216) : lcR true (.ok xs vh) = .ok (.ref vh.length) (vh ++ [.lst xs]) := if_pos h
@[simp] theorem ev_lc {m : Bool} {fi : FI} {A : FTg} {vs : List Nat} : mLc m fi A ft f vs e vh = bnd (fi e vh) fun ds vh1 => lcR m (mComp A ft f (wipeE e vs) ds vh1) := by unfold mLc lcR; rfl
@[simp] theorem ev_forS {fi : FI} {A : FTg} : mForS fi A s e vh = lft (fi e vh) e fun ds vh' => mFor A s ds e vh' := rfl
def forR (r : RS) (k : Env → VH → RS) : RS := match r with
  | .nx e2 vh2 => k e2 vh2
  | .ct e2 vh2 => k e2 vh2
  | .bk e2 vh2 => .nx e2 vh2
  | r => r
@[simp] theorem forR_nx {k : Env → VH → RS} : forR (.nx e vh) k = k e vh := rfl
@[simp] theorem forR_ct {k : Env → VH → RS} : forR (.ct e vh) k = k e vh := rfl
@[simp] theorem forR_bk {k : Env → VH → RS} : forR (.bk e vh) k = .nx e vh := rfl
@[simp] theorem forR_rt {k : Env → VH → RS} {w : W} : forR (.rt w vh) k = .rt w vh := rfl
@[simp] theorem for_nil {A : FTg} : mFor A s [] e vh = .nx e vh := rfl
theorem for_cons {A : FTg} {d : D} {ds : List D} {e' : Env} (h : A d e = some e') : mFor A s (d :: ds) e vh = forR (s e' vh) (mFor A s ds) := by
  simp only [mFor, h]
  unfold forR
  cases s e' vh <;> rfl
@[simp] theorem ev_aName {i : Nat} {d : D} : aName i d e = some (e.set i (some (.d d))) := rfl
@[simp] theorem ev_aNil : aNil [] e = some e := rfl
@[simp] theorem ev_aCons {A : FTg} {B : FTgs} {d : D} {ds : List D} : aCons A B (d :: ds) e = (A d e).bind fun e' => B ds e' := by simp only [aCons]; cases A d e <;> rfl
@[simp] theorem ev_aTup_tup {n : Nat} {B : FTgs} {ds : List D} : aTup n B (.tup ds) e = if ds.length = n then B ds e else none := rfl
@[simp] theorem ev_aTup_ctp {n : Nat} {B : FTgs} {ds : List D} : aTup n B (.ctp ds) e = if ds.length = n then B ds e else none := rfl
def asgR (o : Option Env) (vh : VH) : RS := match o with
  | some e' => .nx e' vh
  | none => .stuck
@[simp] theorem asgR_some : asgR (some e) vh = .nx e vh := rfl
def asgW (w : W) (A : FTg) (e : Env) (vh : VH) : RS := match w with
  | .d x => asgR (A x e) vh
  | .ref _ => .stuck
@[simp] theorem asgW_d {x : D} {A : FTg} : asgW (.d x) A e vh = asgR (A x e) vh := rfl
@[simp] theorem ev_mAsg {A : FTg} : mAsg f A e vh = lft (f e vh) e fun w vh1 => asgW w A e vh1 := by unfold mAsg asgW asgR; rfl
def mutR (k : Nat) (o : Option VO) (g : List D → List D → Option (D × List D)) (ws : List W) (vh : VH) : Res W := opt (datas ws) fun xs => match o with
  | some (.lst ds) => opt (g ds xs) fun z => .ok (.d z.1) (vh.set k (.lst z.2))
  | _ => .stuck
@[simp] theorem mutR_lst {k : Nat} {ds : List D} {g : List D → List D → Option (D × List D)} {ws : List W} : mutR k (some (.lst ds)) g ws vh = opt (datas ws) fun xs => opt (g ds xs) fun z => .ok (.d z.1) (vh.set k (.lst z.2)) := rfl
def mutW (w : W) (g : List D → List D → Option (D × List D)) (fa : FA) (e : Env) (vh : VH) : Res W := match w with
  | .ref k => match vh[k]? with
    | some (.lst _) => bnd (fa e vh) fun ws vh2 => mutR k (vh2[k]?) g ws vh2
    | _ => .stuck
  | _ => .stuck
theorem mutW_ref {k : Nat} {ds : List D} {g : List D → List D → Option (D × List D)} (h : vh[k]? = some (.lst ds)) : mutW (.ref k) g fa e vh = bnd (fa e vh) fun ws vh2 => mutR k (vh2[k]?) g ws vh2 := by
  simp only [mutW, h]
@[simp] theorem ev_mut {g : List D → List D → Option (D × List D)} : mMut g f fa e vh = bnd (f e vh) fun w vh1 => mutW w g fa e vh1 := by unfold mMut mutW mutR; rfl
@[simp] theorem ev_mt {T : String} {k : D → List D → Option D} : mMt T k f fa e vh = bnd (f e vh) fun w vh1 => opt (see vh1 w) fun x0 => if tyName x0 = some T ∧ (T = "str" ∨ T = "list" ∨ T = "dict") then
    bnd (fa e vh1) fun ws vh2 => opt (see vh2 w) fun x => opt (sees vh2 ws) fun xs => opt (k x xs) fun z => .ok (.d z) vh2 else .stuck := rfl
theorem see_ref {k : Nat} {ds : List D} (h : vh[k]? = some (.lst ds)) : see vh (.ref k) = some (.lst ds) := by simp only [see, h]
theorem lc_nil {A : FTg} : mComp A ft f e [] vh = .ok [] vh := rfl
def compR (x : D) (r : Res (List D)) : Res (List D) := match r with
  | .ok xs vh3 => .ok (x :: xs) vh3
  | _ => .stuck
@[simp] theorem compR_ok {x : D} {xs : List D} : compR x (.ok xs vh) = .ok (x :: xs) vh := rfl
theorem lc_cons {A : FTg} {d : D} {ds : List D} {e' : Env} {x : D} {vh1 vh2 : VH} (h : A d e = some e') (h2 : ft e' vh = .ok true vh1) (h3 : f e' vh1 = .ok (.d x) vh2) : mComp A ft f e (d :: ds) vh = compR x (mComp A ft f e ds vh2) := by
  simp only [mComp, h, h2, h3]
  unfold compR; rfl
theorem lc_skip {A : FTg} {d : D} {ds : List D} {e' : Env} {vh1 : VH} (h : A d e = some e') (h2 : ft e' vh = .ok false vh1) : mComp A ft f e (d :: ds) vh = mComp A ft f e ds vh1 := by
  simp only [mComp, h, h2]
/-- a comprehension of pure parts -/
theorem lc_map {A : FTg} {k : D → D} : ∀ {ds : List D}, (∀ d ∈ ds, ∃ e', A d e = some e' ∧ ft e' vh = .ok true vh ∧ f e' vh = .ok (.d (k d)) vh) → mComp A ft f e ds vh = .ok (ds.map k) vh
  | [], _ => rfl
  | d :: ds, h => by
    obtain ⟨e', h1, h2, h3⟩ := h d List.mem_cons_self
    rw [lc_cons h1 h2 h3, lc_map fun x hx => h x (List.mem_cons_of_mem _ hx)]; rfl
theorem lc_filter {A : FTg} {p : D → Bool} {k : D → D} : ∀ {ds : List D}, (∀ d ∈ ds, ∃ e', A d e = some e' ∧ ft e' vh = .ok (p d) vh ∧ (p d = true → f e' vh = .ok (.d (k d)) vh)) → mComp A ft f e ds vh = .ok ((ds.filter p).map k) vh
  | [], _ => rfl
  | d :: ds, h => by
    obtain ⟨e', h1, h2, h3⟩ := h d List.mem_cons_self
    have ih := lc_filter (A := A) (p := p) (k := k) fun x hx => h x (List.mem_cons_of_mem _ hx)
    cases hp : p d with
    | true =>
      rw [hp] at h2
      rw [lc_cons h1 h2 (h3 hp), ih, List.filter_cons_of_pos hp]; rfl
    | false =>
      rw [hp] at h2
      rw [lc_skip h1 h2, ih, List.filter_cons_of_neg (by simp [hp])]
end
end Mn

namespace Mn
open PySem PySem.Spec PyProof.Rows L2

/-! ### evaluation of operations on known shapes -/
section
variable {a b c d e x y : D} {vh : VH} {k : Nat} {i j : Int} {ds : List D} {z : Str} {E : Env} {vo : VO} {w : W}
theorem dEq_int (i j : Int) : dEq (.int i) (.int j) = some (.bl (decide (i = j))) := by
  simp [dEq, toPy, PyData.depth, PyData.eqv]
  exact Bool.beq_eq_decide_eq _ _
@[simp] theorem ix5_0 : dIx (.lst [a, b, c, d, e]) (.int 0) = some a := rfl
@[simp] theorem ix5_1 : dIx (.lst [a, b, c, d, e]) (.int 1) = some b := rfl
@[simp] theorem ix5_2 : dIx (.lst [a, b, c, d, e]) (.int 2) = some c := rfl
@[simp] theorem ix5_3 : dIx (.lst [a, b, c, d, e]) (.int 3) = some d := rfl
@[simp] theorem ix5_4 : dIx (.lst [a, b, c, d, e]) (.int 4) = some e := rfl
@[simp] theorem st5_1 : storeL k [a, b, c, d, e] 1 x E vh = .nx E (vh.set k (.lst [a, x, c, d, e])) := rfl
@[simp] theorem st5_2 : storeL k [a, b, c, d, e] 2 x E vh = .nx E (vh.set k (.lst [a, b, x, d, e])) := rfl
@[simp] theorem st5_3 : storeL k [a, b, c, d, e] 3 x E vh = .nx E (vh.set k (.lst [a, b, c, x, e])) := rfl
@[simp] theorem st5_4 : storeL k [a, b, c, d, e] 4 x E vh = .nx E (vh.set k (.lst [a, b, c, d, x])) := rfl
@[simp] theorem see0 : see (.lst ds :: vh) (.ref 0) = some (.lst ds) := rfl
@[simp] theorem set0 : List.set (vo :: vh) 0 (.lst ds) = .lst ds :: vh := rfl
@[simp] theorem get0 : (vo :: vh)[0]? = some vo := rfl
@[simp] theorem storeW_0 : storeW (.ref 0) (.d x) (some y) E (.lst ds :: vh) = storeAt 0 (some (.lst ds)) y x E (.lst ds :: vh) := rfl
@[simp] theorem add_int : dAdd (.int i) (.int j) = some (.int (i + j)) := rfl
@[simp] theorem cInt_int : cInt [.int i] = some (.int i) := rfl
@[simp] theorem cLen_lst : cLen [.lst ds] = some (.int ds.length) := rfl
@[simp] theorem cLen_str : cLen [.str z] = some (.int z.length) := rfl
theorem dMod_int (h : 0 < j) : dMod (.int i) (.int j) = some (.int (i % j)) := by unfold dMod dInt2; exact if_pos h
theorem dFdiv_int (h : 0 < j ∧ j < 1073741824) : dFdiv (.int i) (.int j) = some (.int (i / j)) := by unfold dFdiv dInt2; exact if_pos h
theorem dMul_int (h : (-(2 ^ 64) < i ∧ i < 2 ^ 64) ∨ (-(2 ^ 64) < j ∧ j < 2 ^ 64)) : dMul (.int i) (.int j) = some (.int (i * j)) := by unfold dMul dInt2; exact if_pos h
@[simp] theorem pow_18 : dPow (.int 10) (.int 18) = some (.int 1000000000000000000) := rfl
@[simp] theorem lt_int : dLt (.int i) (.int j) = some (.bl (decide (i < j))) := rfl
@[simp] theorem le_int : dLe (.int i) (.int j) = some (.bl (decide (i ≤ j))) := rfl
@[simp] theorem gt_int : dGt (.int i) (.int j) = some (.bl (decide (j < i))) := rfl
@[simp] theorem ge_int : dGe (.int i) (.int j) = some (.bl (decide (j ≤ i))) := rfl
theorem atI_of {α : Type} {xs : List α} (h0 : 0 ≤ i) (h1 : i < xs.length) : atI xs i = xs[i.toNat]? := by
  unfold atI ixN
  rw [if_pos h0, if_pos h1]; rfl
theorem dIx_lst : dIx (.lst ds) (.int i) = atI ds i := rfl
theorem dIx_str : dIx (.str z) (.int i) = (atI z.cps.toList i).map fun ch => .str ⟨#[ch]⟩ := rfl
theorem entry22 : entry 2 5 [w, .d x] = [some w, some (.d x), none, none, none] := rfl
end


section
variable {A : FTg} {ft : FT} {f : FE} {s : FS} {e : Env} {vh : VH} {i j : Int}
theorem dEq_str (a b : Str) : dEq (.str a) (.str b) = some (.bl (a == b)) := by simp [dEq, toPy, PyData.depth, PyData.eqv]
theorem dNe_str (a b : Str) : dNe (.str a) (.str b) = some (.bl (!(a == b))) := by simp [dNe, toPy, PyData.depth, PyData.eqv]
theorem dNe_int (i j : Int) : dNe (.int i) (.int j) = some (.bl (!decide (i = j))) := by
  simp [dNe, toPy, PyData.depth, PyData.eqv]
  exact Bool.beq_eq_decide_eq _ _
abbrev sgn (n : Nat) : D := .str ⟨#[n]⟩
theorem toPys_sgn : ∀ cs : List Nat, toPys (cs.map sgn) = some (cs.map fun n => PyData.str ⟨#[n]⟩)
  | [] => rfl
  | c :: cs => by
    have := toPys_sgn cs
    simp [toPys, toPy, this]
theorem dNe_nil (cs : List Nat) : dNe (.lst (cs.map sgn)) (.lst []) = some (.bl (!cs.isEmpty)) := by
  unfold dNe
  rw [show toPy (.lst (cs.map sgn)) = some (.list (cs.map fun n => PyData.str ⟨#[n]⟩)) by simp [toPy, toPys_sgn], show toPy (.lst []) = some (.list []) from rfl]
  simp only
  rw [if_pos (Nat.le_trans (Nat.min_le_right _ _) (by decide))]
  cases cs <;> rfl
theorem dIx_sgn {z : Str} {i : Int} (hz : z.cps.toList.all (fun n => decide (n < 1114112)) = true) (h0 : 0 ≤ i) (h1 : i < z.length) : ∃ n, n < 1114112 ∧ dIx (.str z) (.int i) = some (sgn n) := by
  have hl : i.toNat < z.cps.toList.length := by
    have : z.length = z.cps.toList.length := by simp [Str.length]
    omega
  refine ⟨z.cps.toList[i.toNat], by simpa using List.all_eq_true.mp hz _ (List.getElem_mem hl), ?_⟩
  have hz2 : z.length = z.cps.toList.length := by simp [Str.length]
  rw [dIx_str, atI_of h0 (by omega), List.getElem?_eq_getElem hl]
  rfl
theorem asStrs_sgn : ∀ cs : List Nat, asStrs (cs.map sgn) = some ((cs.map fun n => [n]).map SX.S)
  | [] => rfl
  | c :: cs => by
    have := asStrs_sgn cs
    simp only [List.map_cons, asStrs] at this ⊢
    rw [this]; rfl
theorem joinL_nil : ∀ cs : List Nat, TL.joinL [] (cs.map fun n => [n]) = cs
  | [] => rfl
  | [c] => rfl
  | c :: d :: cs => by
    have := joinL_nil (d :: cs)
    simp only [List.map_cons, TL.joinL] at this ⊢
    simp [this]
theorem join_sgn {cs : List Nat} (hc : ∀ c ∈ cs, c < 1114112) (hl : cs.length ≤ 1000000) : gJoin (.str (SX.S [])) [.lst (cs.map sgn)] = some (.str (SX.S cs)) := by
  have e : Txt.join (SX.S []) ((cs.map fun n => [n]).map SX.S) = SX.S cs := by rw [SX.join_S, joinL_nil]
  have l1 : ∀ cs : List Nat, (((cs.map fun n => [n]).map SX.S).map (·.length)).sum = cs.length := fun cs => by
    rw [SX.lens]
    induction cs with
    | nil => rfl
    | cons a t ih => simp only [List.map_cons, List.sum_cons, List.length_cons, List.length_nil] at ih ⊢; omega
  simp only [gJoin, asSeq, asStrs_sgn, e]
  rw [if_pos]
  refine ⟨?_, by rw [SX.S_len]; show _ ≤ 16777216; omega, strOk_iff.mpr fun c h => hc c (by simpa using h)⟩
  rw [l1]
  have : (SX.S []).length = 0 := rfl
  simp [this]; omega
end

/-! ### loops -/
theorem for_inv {A : FTg} {s : FS} (I : Env → VH → Prop) : ∀ {ds : List D} {e : Env} {vh : VH}, (∀ d ∈ ds, ∀ e vh, I e vh → ∃ e', A d e = some e' ∧ ∃ e2 vh2, s e' vh = .nx e2 vh2 ∧ I e2 vh2) → I e vh → ∃ e2 vh2, mFor A s ds e vh = .nx e2 vh2 ∧ I e2 vh2
  | [], e, vh, _, hi => ⟨e, vh, rfl, hi⟩
  | d :: ds, e, vh, h, hi => by
    obtain ⟨e', h1, e2, vh2, h2, h3⟩ := h d List.mem_cons_self e vh hi
    obtain ⟨e3, vh3, h4, h5⟩ := for_inv I (ds := ds) (fun x hx => h x (List.mem_cons_of_mem _ hx)) h3
    exact ⟨e3, vh3, by rw [for_cons h1, h2, forR_nx, h4], h5⟩
/-- a comprehension that carries a state in the heap -/
theorem comp_inv {A : FTg} {ft : FT} {f : FE} {e : Env} (I : VH → Prop) (Pr : D → Prop) : ∀ {ds : List D} {vh : VH}, (∀ d ∈ ds, ∀ vh, I vh → ∃ e', A d e = some e' ∧ ft e' vh = .ok true vh ∧ ∃ x vh2, f e' vh = .ok (.d x) vh2 ∧ I vh2 ∧ Pr x) → I vh →
    ∃ xs vh2, mComp A ft f e ds vh = .ok xs vh2 ∧ I vh2 ∧ xs.length = ds.length ∧ ∀ x ∈ xs, Pr x
  | [], vh, _, hi => ⟨[], vh, rfl, hi, rfl, fun _ h => nomatch h⟩
  | d :: ds, vh, h, hi => by
    obtain ⟨e', h1, h2, x, vh2, h3, h4, h5⟩ := h d List.mem_cons_self vh hi
    obtain ⟨xs, vh3, h6, h7, h8, h9⟩ := comp_inv I Pr (ds := ds) (fun x hx => h x (List.mem_cons_of_mem _ hx)) h4
    refine ⟨x :: xs, vh3, by rw [lc_cons h1 h2 h3, h6]; rfl, h7, by simp [h8], fun y hy => ?_⟩
    rcases List.mem_cons.mp hy with rfl | hy
    · exact h5
    · exact h9 y hy
end Mn

namespace Mn
open PySem PySem.Spec PyProof.Rows L2

/-! ### upper, list(..) that will change -/
def gUpper (x : D) (xs : List D) : Option D := match x, xs with
  | .str a, [] => if a.length ≤ 5592405 ∧ (Txt.upper a).length ≤ sizeLine ∧ PyData.strOk (Txt.upper a) = true then some (.str (Txt.upper a)) else none
  | _, _ => none
theorem md_upper {c : Cn} : MtD c "str" (fun x xs H Q => ∃ a, x = .str a ∧ xs = [] ∧ a.length ≤ 5592405 ∧ Q (.str (Txt.upper a)) H) gUpper := fun H ρ x xs v vs z Q fr rx rs e k => by
  unfold gUpper at e
  split at e
  · split at e
    · rename_i hl
      cases e
      match vs, rs with
      | [], _ => exact ⟨_, rx.1, rfl, hl.1, k _ H (Same.refl H) ⟨rfl, hl.2.1, hl.2.2⟩⟩
    · cases e
  · cases e
def newL (o : Option (List D)) (vh : VH) : Res W := match o with
  | some ds => .ok (.ref vh.length) (vh ++ [.lst ds])
  | none => .stuck
def seqOf : List D → Option (List D)
  | [x] => asSeq x
  | _ => none
def mListM (fa : FA) : FE := fun e vh => bnd (fa e vh) fun ws vh1 => opt (sees vh1 ws) fun ds => opt (seqOf ds) fun xs => .ok (.ref vh1.length) (vh1 ++ [.lst xs])
section
variable {X : Cx} {c : Cn} {U : WX} {x : Str} {fa : FA} {e : Expr} {es : List Expr} {pos p : Pos}
theorem me_listM (hcK : X.K = c.K) (hg : Gl X x) (hm : X.mg x = none) (hv : bootBuiltins x = some (.type "list")) (ha : PA X (e :: es) (tMA c U fa))
    (hn : x ≠ "__name__" := by decide) (hdb : (x == ("__debug__" : Str)) = false := by decide)
    (he : starEach (e :: es) X.env = (false, eval e X.env) :: starEach es X.env := by rfl) (hpl : (backTo pos (starEach es X.env)).any (·.1) = false := by rfl) : PE X (.Call (.Name x p) (e :: es) [] pos) (tM c U (mListM fa)) :=
  pe_imp (pe_callTy call_list_of hg hm hv ha hn hdb he hpl) fun σ H Q ⟨e, ρ, vh, he, hh, h⟩ => (useA he hh h).mono fun vs H1 ⟨ws, vh1, ρ1, rs, A, _, _⟩ => by
    obtain ⟨ds, e1, o⟩ := opt_out A.out
    obtain ⟨xs, e2, o2⟩ := opt_out o
    have rr := sees_ok A.rh rs e1
    match ds, rr, e2 with
    | [d], rr, e2 =>
      obtain ⟨v, rfl, rd⟩ := rr.one
      obtain ⟨a, ys, rfl, hs, hl, ry⟩ := asSeq_ok rd e2
      refine ⟨a, ys, rfl, by rw [hcK]; exact hs, fun p hp => ?_⟩
      refine o2 _ _ (Grow.push hp) (Fm.new hp) (push_lst A.rh hp hl ry) _ ⟨by simp [A.rh.len], fun a ha => ?_⟩
      rw [List.getElem?_append_right (by rw [A.rh.len]; omega), A.rh.len] at ha
      simp at ha; rw [ha]
end
@[simp] theorem ev_listM {fa : FA} {e : Env} {vh : VH} : mListM fa e vh = bnd (fa e vh) fun ws vh1 => opt (sees vh1 ws) fun ds => opt (seqOf ds) fun xs => .ok (.ref vh1.length) (vh1 ++ [.lst xs]) := rfl

/-! ### defs with defaults -/
theorem relDs_ws {c : Cn} {H : Hp} {ρ : Rho} : ∀ {ds : List D} {vs : List V}, RelDs c H ρ ds vs → RelWs c H ρ (ds.map W.d) vs
  | [], [], _ => trivial
  | _ :: _, _ :: _, ⟨r, t⟩ => ⟨r, relDs_ws t⟩
/-- a def of the text with positional defaults dd and keyword-only ones kd -/
structure GDefX (K : PySem.W.Frag) (mg : Str → Option Value) (x : Str) (st : Stmt) (dd : List D) (kd : List (Str × D)) (f : Addr) (fd : FuncData) : Prop where
  ex : ∃ (dvs : List V) (kws : List (Str × V)), FunD K x x (defArgs st) (defBody st) (defScope st) dvs kws f fd ∧ kws.map (·.1) = kd.map (·.1) ∧ (∀ hid H ρ, RelDs ⟨K, mg, hid⟩ H ρ dd dvs) ∧ ∀ hid H ρ, RelDs ⟨K, mg, hid⟩ H ρ (kd.map (·.2)) (kws.map (·.2))
  m : mg x = some (.ref f)
  kp : PySem.W.keepIn K (.ref f) = true
section
variable {P : Program} {w : World} {K : PySem.W.Frag} {mg : Str → Option Value} {base : Heap} {x : Str} {st : Stmt} {dd : List D} {kd : List (Str × D)} {f : Addr} {fd : FuncData} {ps : List Str}
theorem FnG.ofX {N : List Str} {k : Nat} {g : FS} (F : GDefX K mg x st dd kd f fd) (S : FnScope N ps (defScope st))
    (body : ∀ (cdv : Value) (A : Around) (outer : List PySem.Env) (s : Shared) (H : Hp) (E : XK) (hid : List Addr), Room k (A.deeper (envOfC x (defScope st) s.heap.objs.size f cdv)) → NoGuard (A.deeper (envOfC x (defScope st) s.heap.objs.size f cdv)) →
      Takes (cxOf (L2.CX P w) P w K mg base N x (defScope st) f cdv A outer s H E) (fun cls d _ H => E cls d H) →
      PSs (cxOf (L2.CX P w) P w K mg base N x (defScope st) f cdv A outer s H E) (defBody st) (tMS ⟨K, mg, hid⟩ (fun cls d _ H => E cls d H) g)) :
    FnG P w K mg base (k + 1) f fd ps (mFn ps.length N.length g) := by
  obtain ⟨dvs, kws, G, _⟩ := F.ex
  obtain ⟨oc, od, dV, kV, doc, pm, an, cdv0, ct, osl, rfl, lk, hcd, _, _⟩ := G.ex
  refine ⟨mFn_ar, fun A outer s H args us vs Q E hr ng e0 hb rv hsp => ?_⟩
  have hl : vs.length = ps.length := spM_len mFn_ar hsp
  have inH : K.In s.heap := e0.mod.kin.keeps fun b o e => (e0.bs b o e).1
  have noLim : s.heap.NoLimit := e0.mod.nolimit.keeps fun b o e => (e0.bs b o e).1
  refine codeAny_call_function hr.depth (inH _ _ lk) rfl S.co S.gen rfl (PySem.W.codeRec_of inH hcd) (hb _ _ _ _ ?_)
  refine wpAny_newFunctionEnv_cells S.kind (fun y hy => (S.par y.1 (List.of_mem_zip (a := y.1) (b := y.2) hy).1).imp id fun q => ⟨q, PySem.W.cellsFrom_some _ _ _ (.inl q)⟩) fun env he s1 x => ?_
  cases he
  refine ⟨noLim.keeps x.toInCall.keep, codeAny_func ?_⟩
  obtain ⟨⟨K', mg', hid⟩, rfl, rfl, ws, ρ, vh, rs, hh, h⟩ := hsp
  have D := body cdv0 A outer s H E hid (hr.deeper _) (ng.deeper _) (takes_of rfl rfl rfl rfl)
  have I := inv_start (CX := L2.CX P w) (E := E) S hr.hd e0 hl rv x
  have rd : tMS ⟨K', mg', hid⟩ (fun cls d _ H => E cls d H) g { nx := fun _ H' => Q .non H', rt := Q } (L2.start N vs) H := by
    unfold mFn at h
    split at h
    · rename_i e
      refine ⟨_, ρ, vh, entry_rel (np := ps.length) rs, hh, ?_⟩
      have e2 : entry ps.length N.length ws = ws.map some ++ List.replicate (N.length - vs.length) none := by unfold entry; rw [← rs.length, e]
      rw [← e2]
      cases q : g (entry ps.length N.length ws) vh with
      | nx e' vh' => rw [q] at h; exact fun σ' H' ρ' g' f' x y => h H' ρ' g' f' y .non rfl
      | bk e' vh' => rw [q] at h; exact h.elim
      | ct e' vh' => rw [q] at h; exact h.elim
      | rt w vh' => rw [q] at h; exact fun v H' ρ' g' f' x y => h H' ρ' g' f' y v x
      | exn x e' vh' => rw [q] at h; exact fun cls d σ' H' ρ' g' f' x y z => h cls d H' ρ' g' f' x z
      | stuck => rw [q] at h; exact h.elim
    · exact h.elim
  refine wpAny_mono (D.run [] s1 _ H _ I rd) (fun fl s' hs => ?_) fun _ _ z => z
  cases fl with
  | ret u => obtain ⟨v, σ', H', J, r1, q⟩ := hs; exact ⟨v, H', J.os, J.bare, J.base, J.hok, r1, q⟩
  | next => obtain ⟨σ', H', J, q⟩ := hs; exact ⟨.non, H', J.os, J.bare, J.base, J.hok, rfl, q⟩
  | brk => obtain ⟨_, _, _, q⟩ := hs; exact q.elim
  | cont => obtain ⟨_, _, _, q⟩ := hs; exact q.elim
/-- n positional values, the keyword-only defaults fill up -/
theorem GDefX.b0 (F : GDefX K mg x st [] kd f fd) (n : Nat) (hk : kd ≠ []) (hn : n + kd.length = ps.length)
    (h : ∀ (D : Addr) (doc pm : Value) (an : Option Addr) (cdv ct : Value) (us ks : List Value), us.length = n → ks.length = kd.length →
      KwChain D ((kd.map (·.1)).zip ks) (bindArgs (PySem.W.fnOf x x (defArgs st) (defBody st) (defScope st) .none (.ref D) doc pm an cdv ct) ⟨us, []⟩) (ps.zip (us ++ ks))) :
    ∃ (ds : List Value) (dvs : List V), Vals dvs ds ∧ Binds K fd ps ds ∧ ∀ hid H ρ, RelWs ⟨K, mg, hid⟩ H ρ ((kd.map (·.2)).map W.d) dvs := by
  obtain ⟨dvs, kws, G, e, r0, r⟩ := F.ex
  have hl : kws.length = kd.length := by have := congrArg List.length e; simpa using this
  cases dvs with
  | cons v vs => exact (r0 [] (fun _ => none) []).elim
  | nil =>
    obtain ⟨ds, h1, h2⟩ := FunD.binds0 (ps := ps) G n (fun z => hk (by rw [z] at hl; exact List.length_eq_zero_iff.mp hl.symm)) (by rw [hl]; exact hn) fun D doc pm an cdv ct us ks l1 l2 => by
      rw [e]; exact h D doc pm an cdv ct us ks l1 (l2.trans hl)
    exact ⟨ds, _, h1, h2, fun hid H ρ => relDs_ws (r hid H ρ)⟩
/-- n positional values, keywords named ks, all keyword-only parameters among them: g puts them in order -/
theorem GDefX.k0 (F : GDefX K mg x st [] kd f fd) (n : Nat) (ks : List Str) (g : {α : Type} → List α → List α → List α) (hk : kd ≠ [])
    (hrel : ∀ {vs zs : List V} {us ws : List Value}, Vals vs us → Vals zs ws → Vals (g vs zs) (g us ws))
    (h : ∀ (D : Addr) (doc pm : Value) (an : Option Addr) (cdv ct : Value) (us ws : List Value), us.length = n → ws.length = ks.length →
      bindArgs (PySem.W.fnOf x x (defArgs st) (defBody st) (defScope st) .none (.ref D) doc pm an cdv ct) ⟨us, ks.zip ws⟩ = pure (ps.zip (g us ws))) :
    KBn K fd ps n ks (fun us ws => g us ws) (fun vs zs => g vs zs) := by
  obtain ⟨dvs, kws, G, e, r0, r⟩ := F.ex
  have hl : kws.length = kd.length := by have := congrArg List.length e; simpa using this
  cases dvs with
  | cons v vs => exact (r0 [] (fun _ => none) []).elim
  | nil =>
    obtain ⟨mv, hb⟩ := FunD.kbinds0 (ps := ps) G n ks [] (fun a _ b => g a b) (fun z => hk (by rw [z] at hl; exact List.length_eq_zero_iff.mp hl.symm)) (fun q hq => nomatch hq) (fun h1 _ h3 => hrel h1 h3) fun D doc pm an cdv ct us mv ws l1 l2 l3 => h D doc pm an cdv ct us ws l1 l3
    exact hb
end
/-- f(a, .., k = b, ..): g puts the values in the parameters' order -/
def lenOk (a b n m : Nat) (r : Res W) : Res W := if a = n ∧ b = m then r else .stuck
@[simp] theorem lenOk_ok {n m : Nat} {r : Res W} : lenOk n m n m r = r := if_pos ⟨rfl, rfl⟩
def mCallK (n m : Nat) (F : FN) (g : List W → List W → List W) (fa fk : FA) : FE := fun e vh => bnd (fa e vh) fun ws vh1 => bnd (fk e vh1) fun zs vh2 => lenOk ws.length zs.length n m (F (g ws zs) vh2)
def tMK (c : Cn) (U : WX) (f : FA) : TA := tMA c U f
section
variable {X : Cx} {U : WX} {k n : Nat} {f : Addr} {fd : FuncData} {ps ks : List Str} {F : FN} {c : Cn} {e : Expr} {es : List Expr} {kws : List Keyword} {pos p kpos : Pos} {x : Str} {fa fk : FA} {nm : Option Str} {fe : FE}
theorem mk_nil : PK X [] (tMA c U mNil) := ⟨fun pos pins s σ H Q I h => pk_nil.run pos pins s σ H Q I (by
  obtain ⟨e, ρ, vh, he, hh, h⟩ := h
  exact h H ρ (Grow.refl _ _) (Fm.refl _ _) hh [] trivial)⟩
theorem mk_cons (ha : PE X e (tM c U fe)) (hr : PK X kws (tMA c U fk)) : PK X (⟨nm, e, kpos⟩ :: kws) (tMA c U (mCons fe fk)) := ⟨fun pos pins s σ H Q I ⟨en, ρ, vh, he, hh, h⟩ => by
  refine (pk_cons (nm := nm) (kpos := kpos) ha hr).run pos pins s σ H Q I ?_
  exact (use he hh h).mono fun v H1 ⟨w, vh1, ρ1, r, A, g1, f1⟩ => (useA A.re A.rh A.out).mono fun vs H2 ⟨ws, vh2, ρ2, rs, A2, g2, f2⟩ => A2.out H2 ρ2 (Grow.refl _ _) (Fm.refl _ _) A2.rh (v :: vs) ⟨r.stay g2 f2, rs⟩⟩
theorem run_gk {pins : List (Addr × Obj)} {σ : L2.St} {H : Hp} {s : Shared} {Q : VK} {us uz : List Value} {vs zs : List V} {g : List Value → List Value → List Value} {gV : List V → List V → List V} (G : FnG X.prog X.w X.K X.mg X.base k f fd ps F) (hr : Room k X.A) (ng : NoGuard X.A) (hb : KBn X.K fd ps n ks g gV) (tk : Takes X U)
    (I : L2.Inv X pins σ H s) (r : Vals vs us) (rz : Vals zs uz) (l1 : us.length = n) (l2 : uz.length = ks.length) (h : spM X.K X.mg F (gV vs zs) H Q (WE U σ)) : wpAny (model X.prog X.w) X.A (call (.ref f) us (ks.zip uz)) (EP X pins σ Q) X.xe s := by
  refine wpAny_call (codeAny_mono (G.go X.A X.stack s H ⟨us, ks.zip uz⟩ (g us uz) (gV vs zs) Q (WE U σ) hr ng I.env0 (hb.to s us uz I.kIn l1 l2) (hb.rel r rz) h) fun r s' hq => ?_)
  cases r with
  | error e => exact passAt tk σ pins H s e s' I hq
  | ok fl => cases fl with
    | ret u => exact I.after hq
    | next => exact hq.elim
    | brk => exact hq.elim
    | cont => exact hq.elim
/-- f(e, .., k = v, ..) -/
theorem mg_callK {m : Nat} {g : List Value → List Value → List Value} {gV : List V → List V → List V} {gW : List W → List W → List W} (hc : c.K = X.K) (hcm : c.mg = X.mg) (G : FnG X.prog X.w X.K X.mg X.base k f fd ps F) (hr : Room k X.A) (ng : NoGuard X.A) (tk : Takes X U) (hg : Gl X x) (hm : X.mg x = some (.ref f)) (hk : PySem.W.keepIn X.K (.ref f) = true) (hb : KBn X.K fd ps n ks g gV)
    (hw : ∀ {H ρ ws vs zs us}, ws.length = n → zs.length = ks.length → RelWs c H ρ ws vs → RelWs c H ρ zs us → RelWs c H ρ (gW ws zs) (gV vs us)) (ha : PA X (e :: es) (tMA c U fa)) (hkw : PK X kws (tMA c U fk)) (hml : ks.length = m := by rfl)
    (hall : (backToKw pos (keywordEach kws X.env)).all (·.1.isSome) = true := by rfl) (hks : (backToKw pos (keywordEach kws X.env)).filterMap (·.1) = ks := by rfl)
    (hdb : (x == ("__debug__" : Str)) = false := by decide) (he : starEach (e :: es) X.env = (false, eval e X.env) :: starEach es X.env := by rfl)
    (hpl : ((backTo pos (starEach (e :: es) X.env)).any (·.1) || (backToKw pos (keywordEach kws X.env)).any (·.1.isNone)) = false := by rfl) :
    PE X (.Call (.Name x p) (e :: es) kws pos) (tM c U (mCallK n m F gW fa fk)) := by
  subst hml
  refine ⟨fun pins s σ H Q I ⟨en, ρ, vh, hE, hh, h⟩ => wpAny_Call_Name_kw (ld_glob I hg hm ?_ hdb)⟩
  refine PySem.W.callWith_KW (h₀ := X.base) I.ok.mod.kin hk hall (thn (ha.run pos pins s σ H _ I (useA hE hh h)) fun us s1 ⟨vs, H1, I1, r, ws, vh1, ρ1, rs, A, g1, f1⟩ => ?_) hpl he
  refine thn (hkw.run pos pins s1 σ H1 _ I1 (useA A.re A.rh A.out)) fun uz s2 ⟨zs, H2, I2, rz, wz, vh2, ρ2, rs2, B, g2, f2⟩ => ⟨I2.kIn, ?_⟩
  rw [hks]
  have o := B.out
  unfold lenOk at o
  split at o
  · rename_i hl
    have rs1 := rs.stay g2 f2
    have l1 : us.length = n := by rw [← r.length, ← rs.length]; exact hl.1
    have l2 : uz.length = ks.length := by rw [← rz.length, ← rs2.length]; exact hl.2
    exact run_gk G hr ng hb tk I2 r rz l1 l2 (spM_use hc hcm (hw hl.1 hl.2 rs1 rs2) B.rh o)
  · exact o.elim
end
@[simp] theorem ev_callK {n m : Nat} {F : FN} {g : List W → List W → List W} {fa fk : FA} {e : Env} {vh : VH} : mCallK n m F g fa fk e vh = bnd (fa e vh) fun ws vh1 => bnd (fk e vh1) fun zs vh2 => lenOk ws.length zs.length n m (F (g ws zs) vh2) := rfl

/-! ### facts of such defs, at the end -/
def KwOk (K : PySem.W.Frag) (mg : Str → Option Value) (Z : Addr) : List (Str × D) → Prop
  | [] => True
  | q :: r => (∃ u v, PySem.W.nsIn K Z q.1 = some (some u) ∧ RelV v u ∧ ∀ hid H ρ, RelD ⟨K, mg, hid⟩ H ρ q.2 v) ∧ KwOk K mg Z r
section
variable {K : PySem.W.Frag} {mg : Str → Option Value} {h : Heap} {x : Str} {Z : Addr} {kd : List (Str × D)}
theorem kw_flat {u : Value} {d : D} (a : PySem.W.nsIn K Z x = some (some u)) (e : valD u = some d) : ∃ u v, PySem.W.nsIn K Z x = some (some u) ∧ RelV v u ∧ ∀ hid H ρ, RelD ⟨K, mg, hid⟩ H ρ d v := by
  refine ⟨u, (absV u).getD .non, a, ?_, fun hid H ρ => ?_⟩
  · obtain ⟨v, r, e1, _⟩ := valD_ok (c := ⟨K, mg, []⟩) (H := fun _ => none) (ρ := []) e
    rw [e1]; exact r
  · obtain ⟨v, r, e1, q⟩ := valD_ok (c := ⟨K, mg, hid⟩) (H := H) (ρ := ρ) e
    rw [e1]; exact q
theorem kw_tup {a : Addr} {od : Option Addr} {its : Array Value} {n : Nat} {sl : Array (Option Value)} {ds : List D} (e1 : PySem.W.nsIn K Z x = some (some (.ref a))) (e2 : K.lookup a = some ⟨.type "tuple", od, .seq its n, sl⟩)
    (e : valsD its.toList = some ds) (z : decide (its.size ≤ sizeLine) = true) : ∃ u v, PySem.W.nsIn K Z x = some (some u) ∧ RelV v u ∧ ∀ hid H ρ, RelD ⟨K, mg, hid⟩ H ρ (.ctp ds) v := by
  refine ⟨.ref a, .ref a, e1, rfl, fun hid H ρ => ?_⟩
  obtain ⟨r1, r2⟩ := valsD_ok (c := ⟨K, mg, hid⟩) (H := H) (ρ := ρ) e
  refine ⟨a, absVs its.toList, rfl, ⟨_, its, n, e2, rfl, rfl, of_decide_eq_true z, r1⟩, ?_, r2⟩
  rw [r2.length, r1.length]
  simpa using of_decide_eq_true z
theorem kwOk_ex : ∀ {kd : List (Str × D)}, KwOk K mg Z kd → ∃ kws : List (Str × V), (∀ q ∈ kws, ∃ u, PySem.W.nsIn K Z q.1 = some (some u) ∧ RelV q.2 u) ∧ kws.map (·.1) = kd.map (·.1) ∧ ∀ hid H ρ, RelDs ⟨K, mg, hid⟩ H ρ (kd.map (·.2)) (kws.map (·.2))
  | [], _ => ⟨[], fun _ h => (nomatch h), rfl, fun _ _ _ => trivial⟩
  | q :: r, ⟨⟨u, v, h1, h2, h3⟩, t⟩ => by
    obtain ⟨kws, g1, g2, g3⟩ := kwOk_ex t
    refine ⟨(q.1, v) :: kws, fun p hp => ?_, by simp [g2], fun hid H ρ => ⟨h3 hid H ρ, g3 hid H ρ⟩⟩
    rcases List.mem_cons.mp hp with rfl | hp
    · exact ⟨u, h1, h2⟩
    · exact g1 p hp
theorem gdefx_of {st : Stmt} {f : Addr} {oc : Value} {od an : Option Addr} {osl : Array (Option Value)} {doc pm cdv ct : Value} (X : K.In h) (G : h.Ns mainGlobals mg) (a : PySem.W.nsIn K mainGlobals x = some (some (.ref f)))
    (l : K.lookup f = some ⟨oc, od, .func (PySem.W.fnOf x x (defArgs st) (defBody st) (defScope st) .none (.ref Z) doc pm an cdv ct), osl⟩) (c : PySem.W.codeIn K cdv x = true) (k : PySem.W.keepIn K (.ref f) = true) (kk : KwOk K mg Z kd) :
    GDefX K mg x st [] kd f (PySem.W.fnOf x x (defArgs st) (defBody st) (defScope st) .none (.ref Z) doc pm an cdv ct) := by
  obtain ⟨kws, g1, g2, g3⟩ := kwOk_ex kk
  exact ⟨⟨[], kws, ⟨⟨oc, od, .none, .ref Z, doc, pm, an, cdv, ct, osl, rfl, l, c, .inl ⟨rfl, rfl⟩, .inr ⟨Z, rfl, g1⟩⟩, k⟩, g2, fun _ _ _ => trivial, g3⟩, PySem.W.mg_of X G a, k⟩
end
end Mn

namespace Mn
open PySem PySem.Spec PyProof.Rows L2

/-! ### data that repr can show -/
def Fine (n h : Nat) (d : D) : Prop := ∃ p, toPy d = some p ∧ p.showable = true ∧ p.depth ≤ h ∧ p.weight ≤ n ∧ p.intsShort 13 = true
theorem Fine.mono {n m h k : Nat} {d : D} (f : Fine n h d) (a : n ≤ m) (b : h ≤ k) : Fine m k d := let ⟨p, h1, h2, h3, h4, h5⟩ := f; ⟨p, h1, h2, Nat.le_trans h3 b, Nat.le_trans h4 a, h5⟩
theorem fine_str (z : Str) : Fine z.length 0 (.str z) := ⟨_, rfl, rfl, Nat.le_refl _, Nat.le_refl _, rfl⟩
theorem fine_non : Fine 0 0 .non := ⟨_, rfl, rfl, Nat.le_refl _, Nat.le_refl _, rfl⟩
theorem fine_bl (b : Bool) : Fine 0 0 (.bl b) := ⟨_, rfl, rfl, Nat.le_refl _, Nat.le_refl _, rfl⟩
theorem fine_all {n h : Nat} : ∀ {ds : List D}, (∀ d ∈ ds, Fine n h d) → ∃ ps, toPys ds = some ps ∧ PyData.showableAll ps = true ∧ PyData.depthAll ps ≤ h ∧ PyData.weightAll ps ≤ ds.length * (n + 1) ∧ PyData.intsShortAll 13 ps = true
  | [], _ => ⟨[], rfl, rfl, Nat.zero_le _, Nat.zero_le _, rfl⟩
  | d :: ds, f => by
    obtain ⟨p, h1, h2, h3, h4, h5⟩ := f d List.mem_cons_self
    obtain ⟨ps, g1, g2, g3, g4, g5⟩ := fine_all fun x hx => f x (List.mem_cons_of_mem _ hx)
    refine ⟨p :: ps, by simp only [toPys, h1, g1], by simp [PyData.showableAll, h2, g2], by simp only [PyData.depthAll]; omega, ?_, by simp [PyData.intsShortAll, h5, g5]⟩
    simp only [PyData.weightAll, List.length_cons, Nat.succ_mul]
    omega
theorem fine_lst {n h : Nat} {ds : List D} (f : ∀ d ∈ ds, Fine n h d) : Fine (ds.length * (n + 1)) (h + 1) (.lst ds) := by
  obtain ⟨ps, g1, g2, g3, g4, g5⟩ := fine_all f
  exact ⟨.list ps, by simp only [toPy, g1]; rfl, by simpa [PyData.showable] using g2, by simp only [PyData.depth]; omega, by simpa [PyData.weight] using g4, by simpa [PyData.intsShort] using g5⟩
theorem fine_tup {n h : Nat} {ds : List D} (f : ∀ d ∈ ds, Fine n h d) : Fine (ds.length * (n + 1)) (h + 1) (.tup ds) := by
  obtain ⟨ps, g1, g2, g3, g4, g5⟩ := fine_all f
  exact ⟨.tuple ps, by simp only [toPy, g1]; rfl, by simpa [PyData.showable] using g2, by simp only [PyData.depth]; omega, by simpa [PyData.weight] using g4, by simpa [PyData.intsShort] using g5⟩
theorem fine_ctp {n h : Nat} {ds : List D} (f : ∀ d ∈ ds, Fine n h d) : Fine (ds.length * (n + 1)) (h + 1) (.ctp ds) := by
  obtain ⟨ps, g1, g2, g3, g4, g5⟩ := fine_all f
  exact ⟨.tuple ps, by simp only [toPy, g1]; rfl, by simpa [PyData.showable] using g2, by simp only [PyData.depth]; omega, by simpa [PyData.weight] using g4, by simpa [PyData.intsShort] using g5⟩
theorem rep_fine {n h : Nat} {ds : List D} (f : Fine n h (.lst ds)) (hn : n ≤ 1048576) (hh : h ≤ 60) : ∃ z, cRep [.lst ds] = some (.str z) := by
  obtain ⟨p, h1, h2, h3, h4, h5⟩ := f
  refine ⟨p.shown, ?_⟩
  simp only [cRep, h1]
  exact if_pos ⟨h2, Nat.le_trans h3 hh, Nat.le_trans h4 hn, h5⟩
end Mn

namespace Mn
open PySem PySem.Spec PyProof.Rows L2

/-! ### a static method, called by its class -/
structure SMet (K : PySem.W.Frag) (mg : Str → Option Value) (x m : Str) (g : Addr) : Prop where
  ex : ∃ (C p : Addr) (mc : Value) (rest : List Value), mg x = some (.ref C) ∧ PySem.W.readsIn K C mc = true ∧ PySem.W.specialIn K (.ref C) "__getattribute__" = some (some (.builtin "type.__getattribute__")) ∧
    PySem.W.findCls K (.ref C) mc m = some (.get (.builtin "staticmethod.__get__") (.ref p) .none (.ref C)) ∧ PySem.W.recIn K p "staticmethod" = some (.ref g :: rest)
section
variable {X : Cx} {U : WX} {k : Nat} {f : Addr} {fd : FuncData} {ps : List Str} {F : FN} {c : Cn} {e : Expr} {es : List Expr} {pos p apos : Pos} {x m : Str} {ds : List Value} {dvs : List V} {dws : List W} {fa : FA} {pl : Sem Bool}
theorem me_sm (hc : c.K = X.K) (hcm : c.mg = X.mg) (S : SMet X.K X.mg x m f) (G : FnG X.prog X.w X.K X.mg X.base k f fd ps F) (hr : Room k X.A) (ng : NoGuard X.A) (tk : Takes X U) (hg : Gl X x) (hk : PySem.W.keepIn X.K (.ref f) = true) (hb : Binds X.K fd ps ds) (hd : Vals dvs ds) (hdw : ∀ H ρ, RelWs c H ρ dws dvs)
    (ha : PA X (e :: es) (tMA c U fa)) (hdb : (x == ("__debug__" : Str)) = false := by decide) (he : starEach (e :: es) X.env = (false, eval e X.env) :: starEach es X.env := by rfl) (hpl : (backTo pos (starEach es X.env)).any (·.1) = false := by rfl)
    (ht : eval (.Call (.Attribute (.Name x p) m apos) (e :: es) [] pos) X.env = (eval (.Name x p) X.env >>= fun ov => standAt apos.atName >>= fun _ => holding [ov] (getMethod ov m pl) >>= fun q =>
      callWith pos q.1 q.2 (backTo pos (starEach (e :: es) X.env)) (backToKw pos (keywordEach [] X.env))) := by rfl) :
    PE X (.Call (.Attribute (.Name x p) m apos) (e :: es) [] pos) (tM c U (mCall F dws fa)) := by
  obtain ⟨C, q, mc, rest, hm, h1, h2, h3, h4⟩ := S.ex
  refine ⟨fun pins s σ H Q I ⟨en, ρ, vh, hE, hh, h⟩ => PySem.W.methodCall_KW (pl := pl) (ld_glob I hg hm ?_ hdb) ht⟩
  refine PySem.W.method_cls I.kIn h2 (PySem.W.cls_bind I.kIn h1 h3 (wpAny_call (PySem.W.sm_get (s := { s with toks := s.toks + 1 }) I.kIn h4 (PySem.W.handed_on rfl ?_))))
  have I0 : L2.Inv X pins σ H { s with toks := s.toks + 1 } := I.tok _
  refine PySem.W.callWith_K (h₀ := X.base) I.ok.mod.kin hk (thn (ha.run pos pins _ σ H _ I0 (useA hE hh h)) fun us s1 ⟨vs, H1, I1, r, ws, vh1, ρ1, rs, A, g1, f1⟩ => ⟨I1.kIn, ?_⟩) he hpl
  have q : spM X.K X.mg F (vs ++ dvs) H1 Q (WE U σ) := spM_use hc hcm (rs.append (hdw _ _)) A.rh A.out
  have r2 := r.append hd
  exact run_g (args := ⟨us, []⟩) G hr ng (hb s1 us I1.kIn (by rw [← r2.length]; exact spM_len G.ar q)) tk I1 r2 q
end
structure GSm (K : PySem.W.Frag) (mg : Str → Option Value) (x m qual : Str) (st : Stmt) (f : Addr) (fd : FuncData) : Prop where
  F : Fun K m qual st f fd
  S : SMet K mg x m f
theorem gsm_of {K : PySem.W.Frag} {mg : Str → Option Value} {h : Heap} {x m qual : Str} {st : Stmt} {f C p : Addr} {mc : Value} {rest : List Value} {oc : Value} {od an : Option Addr} {osl : Array (Option Value)} {kV doc pm cdv ct : Value} (X : K.In h) (G : h.Ns mainGlobals mg)
    (a : PySem.W.nsIn K mainGlobals x = some (some (.ref C))) (b1 : PySem.W.readsIn K C mc = true) (b2 : PySem.W.specialIn K (.ref C) "__getattribute__" = some (some (.builtin "type.__getattribute__")))
    (b3 : PySem.W.findCls K (.ref C) mc m = some (.get (.builtin "staticmethod.__get__") (.ref p) .none (.ref C))) (b4 : PySem.W.recIn K p "staticmethod" = some (.ref f :: rest))
    (l : K.lookup f = some ⟨oc, od, .func (PySem.W.fnOf m qual (defArgs st) (defBody st) (defScope st) .none kV doc pm an cdv ct), osl⟩) (c : PySem.W.codeIn K cdv qual = true) (k : PySem.W.keepIn K (.ref f) = true) :
    GSm K mg x m qual st f (PySem.W.fnOf m qual (defArgs st) (defBody st) (defScope st) .none kV doc pm an cdv ct) := ⟨fun_mk l c k, ⟨C, p, mc, rest, PySem.W.mg_of X G a, b1, b2, b3, b4⟩⟩
end Mn

namespace Law
open PySem PySem.Spec PyProof.Rows L2 Mn
def top (i : Nat) : Stmt := PySem.Challenge.pw_unmeant_k06_names_in_contents.main.body.getD i (.Pass ⟨0, 0, 0, 0⟩)
def inCls (i j : Nat) : Stmt := match top i with
  | .ClassDef _ _ _ b _ _ _ _ _ _ _ => b.getD j (.Pass ⟨0, 0, 0, 0⟩)
  | s => s
abbrev st_Interface_content_names : Stmt := inCls 24 15
abbrev N_Interface_content_names : List Str := ["content", "one"]
def t_Interface_content_names_1 : FT := mTest (mOp dNotInD (mVar 1) (mC (.ctp [(.str "int"), (.str "str"), (.str "bool")])))
def s_Interface_content_names_a1a : FS := mRet (mLc true (mSeqI (mOp dAdd (mOp dIx (mVar 0) (mC (.int 1))) (mTup (mCons (mOp dIx (mVar 0) (mC (.int 2))) (mNil))))) (aName 1) (t_Interface_content_names_1) (mVar 1) [1])
def s_Interface_content_names_a : FS := mIfS (mTest (mBlt cIsi (mCons (mVar 0) (mCons (mC (.ty "tuple")) (mNil))))) (s_Interface_content_names_a1a) (mSkip)
def s_Interface_content_names_b : FS := mRet (mIf (mOrT (mTest (mOp dIsN (mVar 0) (mC .non))) (mTest (mOp dInD (mVar 0) (mC (.ctp [(.str "int"), (.str "str"), (.str "bool")]))))) (mLstM (mNil)) (mLstM (mCons (mVar 0) (mNil))))
def s_Interface_content_names : FS := mSeq (s_Interface_content_names_a) (s_Interface_content_names_b)
def f_Interface_content_names : FN := mFn 1 2 s_Interface_content_names
abbrev st_law_bag : Stmt := top 26
abbrev N_law_bag : List Str := ["_law_script"]
def s_law_bag_a : FS := mRet (mLstM (mCons (mBlt cList (mCons (mSl (mVar 0) mNoPart (mPart (mC (.int 63)))) (mNil))) (mCons (mC (.int 0)) (mCons (mC (.int 0)) (mCons (mC (.int 60289)) (mCons (mC (.int 0)) (mNil)))))))
def s_law_bag : FS := s_law_bag_a
def f_law_bag : FN := mFn 1 1 s_law_bag
abbrev st_law_draw : Stmt := top 27
abbrev N_law_draw : List Str := ["_law_bag_here", "_law_many", "_law_base", "_law_cell", "_law_digit"]
def s_law_draw_a1a : FS := mSet 3 (mOp dIx (mOp dIx (mVar 0) (mC (.int 0))) (mOp dIx (mVar 0) (mC (.int 1))))
def s_law_draw_a1b : FS := mSetItem (mVar 0) (mC (.int 1)) (mOp dAdd (mOp dIx (mVar 0) (mC (.int 1))) (mC (.int 1)))
def s_law_draw_a1c : FS := mSetItem (mVar 0) (mC (.int 3)) (mOp dMod (mBlt cInt (mCons (mOp dAdd (mOp dAdd (mOp dMul (mOp dIx (mVar 0) (mC (.int 3))) (mC (.int 40013))) (mOp dMul (mOp dMod (mBlt cInt (mCons (mVar 3) (mNil))) (mC (.int 2147483549))) (mC (.int 307)))) (mC (.int 1013))) (mNil))) (mC (.int 2147483629)))
def s_law_draw_a1d1a : FS := mSetItem (mVar 0) (mC (.int 2)) (mVar 3)
def s_law_draw_a1d : FS := mIfS (mTest (mOp dGe (mVar 3) (mOp dPow (mC (.int 10)) (mC (.int 18))))) (s_law_draw_a1d1a) (mSkip)
def s_law_draw_a : FS := mIfS (mAndT (mTest (mOp dEq (mOp dIx (mVar 0) (mC (.int 2))) (mC (.int 0)))) (mTest (mOp dLt (mOp dIx (mVar 0) (mC (.int 1))) (mBlt cLen (mCons (mOp dIx (mVar 0) (mC (.int 0))) (mNil)))))) (mSeq (s_law_draw_a1a) (mSeq (s_law_draw_a1b) (mSeq (s_law_draw_a1c) (s_law_draw_a1d)))) (mSkip)
def s_law_draw_b1a : FS := mSet 4 (mOp dMod (mBlt cInt (mCons (mOp dIx (mVar 0) (mC (.int 2))) (mNil))) (mVar 1))
def s_law_draw_b1b : FS := mSetItem (mVar 0) (mC (.int 2)) (mOp dFdiv (mOp dIx (mVar 0) (mC (.int 2))) (mVar 1))
def s_law_draw_b1c : FS := mRet (mVar 4)
def s_law_draw_b : FS := mIfS (mTest (mOp dGt (mOp dIx (mVar 0) (mC (.int 2))) (mC (.int 0)))) (mSeq (s_law_draw_b1a) (mSeq (s_law_draw_b1b) (s_law_draw_b1c))) (mSkip)
def s_law_draw_c : FS := mSetItem (mVar 0) (mC (.int 4)) (mOp dAdd (mOp dIx (mVar 0) (mC (.int 4))) (mC (.int 1)))
def s_law_draw_d : FS := mSet 2 (mOp dIx (mVar 0) (mC (.int 3)))
def s_law_draw_e : FS := mSetItem (mVar 0) (mC (.int 3)) (mOp dMod (mBlt cInt (mCons (mOp dAdd (mOp dAdd (mOp dAdd (mOp dMul (mVar 2) (mVar 2)) (mOp dMul (mC (.int 70001)) (mVar 2))) (mOp dMul (mC (.int 7907)) (mOp dIx (mVar 0) (mC (.int 4))))) (mC (.int 30011))) (mNil))) (mC (.int 2147483629)))
def s_law_draw_f : FS := mRet (mOp dMod (mBlt cInt (mCons (mOp dAdd (mOp dAdd (mOp dFdiv (mOp dIx (mVar 0) (mC (.int 3))) (mC (.int 59))) (mOp dMul (mVar 2) (mC (.int 33301)))) (mOp dIx (mVar 0) (mC (.int 4)))) (mNil))) (mVar 1))
def s_law_draw : FS := mSeq (s_law_draw_a) (mSeq (s_law_draw_b) (mSeq (s_law_draw_c) (mSeq (s_law_draw_d) (mSeq (s_law_draw_e) (s_law_draw_f)))))
def f_law_draw : FN := mFn 2 5 s_law_draw
abbrev st_law_of : Stmt := top 28
abbrev N_law_of : List Str := ["_law_bag_here", "_law_some"]
def s_law_of_a : FS := mRet (mOp dIx (mVar 1) (mCall f_law_draw [] (mCons (mVar 0) (mCons (mBlt cLen (mCons (mVar 1) (mNil))) (mNil)))))
def s_law_of : FS := s_law_of_a
def f_law_of : FN := mFn 2 2 s_law_of
abbrev st_law_same : Stmt := top 29
abbrev N_law_same : List Str := ["_law_found", "_law_due"]
def s_law_same_a : FS := mRet (mOp dEq (mBlt cRep (mCons (mVar 0) (mNil))) (mBlt cRep (mCons (mVar 1) (mNil))))
def s_law_same : FS := s_law_same_a
def f_law_same : FN := mFn 2 2 s_law_same
abbrev st_law_names : Stmt := top 30
abbrev N_law_names : List Str := ["_law_bag_here", "_law_many", "_law_great", "_law_letters", "_law_size", "_law_place", "_law_first", "_law_alike", "_law_found", "_law_k", "_law_long", "_law_row", "_law_word", "_law_at"]
def s_law_names_a : FS := mSet 3 (mC (.str "abcdefghijklmnopqrstuvwxyz"))
def s_law_names_b : FS := mSet 4 (mOp dAdd (mC (.int 1)) (mCall f_law_draw [] (mCons (mVar 0) (mCons (mC (.int 8)) (mNil)))))
def s_law_names_c : FS := mSet 5 (mCall f_law_draw [] (mCons (mVar 0) (mCons (mVar 4) (mNil))))
def c_law_names_1 : FE := mCall f_law_draw [] (mCons (mVar 0) (mCons (mC (.int 26)) (mNil)))
def s_law_names_d : FS := mSet 6 (mLc false (mRange1 (mVar 4)) (aName 9) (fun _ vh => .ok true vh) (c_law_names_1) [9])
def s_law_names_e : FS := mSet 7 (mOp dEq (mCall f_law_draw [] (mCons (mVar 0) (mCons (mC (.int 2)) (mNil)))) (mC (.int 0)))
def s_law_names_f : FS := mSet 8 (mLstM (mNil))
def s_law_names_g1a : FS := mSet 10 (mIf (mTest (mVar 7)) (mVar 4) (mOp dAdd (mOp dAdd (mVar 5) (mC (.int 1))) (mCall f_law_draw [] (mCons (mVar 0) (mCons (mOp dSub (mVar 4) (mVar 5)) (mNil))))))
def s_law_names_g1b : FS := mSet 11 (mListM (mCons (mVar 6) (mNil)))
def s_law_names_g1c : FS := mSetItem (mVar 11) (mVar 5) (mOp dMod (mBlt cInt (mCons (mOp dAdd (mOp dIx (mVar 6) (mVar 5)) (mOp dMul (mC (.int 11)) (mVar 9))) (mNil))) (mC (.int 26)))
def c_law_names_2 : FE := mOp dIx (mVar 3) (mVar 13)
def s_law_names_g1d : FS := mSet 12 (mMt "str" gJoin (mC (.str "")) (mCons (mLc false (mSeqI (mSl (mVar 11) mNoPart (mPart (mVar 10)))) (aName 13) (fun _ vh => .ok true vh) (c_law_names_2) [13]) (mNil)))
def s_law_names_g1e : FS := mSet 12 (mIf (mTest (mOp dEq (mVar 12) (mC (.str "writable")))) (mC (.str "writablr")) (mVar 12))
def s_law_names_g1f : FS := mDo (mMut gAppend (mVar 8) (mCons (mIf (mTest (mVar 2)) (mOp dAdd (mMt "str" gUpper (mSl (mVar 12) mNoPart (mPart (mC (.int 1)))) mNil) (mSl (mVar 12) (mPart (mC (.int 1))) mNoPart)) (mVar 12)) (mNil)))
def s_law_names_g : FS := mForS (mRange1 (mVar 1)) (aName 9) (mSeq (s_law_names_g1a) (mSeq (s_law_names_g1b) (mSeq (s_law_names_g1c) (mSeq (s_law_names_g1d) (mSeq (s_law_names_g1e) (s_law_names_g1f))))))
def s_law_names_h : FS := mRet (mVar 8)
def s_law_names : FS := mSeq (s_law_names_a) (mSeq (s_law_names_b) (mSeq (s_law_names_c) (mSeq (s_law_names_d) (mSeq (s_law_names_e) (mSeq (s_law_names_f) (mSeq (s_law_names_g) (s_law_names_h)))))))
def f_law_names : FN := mFn 3 14 s_law_names
abbrev st_law_value : Stmt := top 31
abbrev N_law_value : List Str := ["_law_bag_here", "_law_kinds"]
def s_law_value_a : FS := mRet (mCall f_law_of [] (mCons (mVar 0) (mCons (mOp dAdd (mOp dAdd (mLst (mCons (mC (.str "int")) (mCons (mC (.str "str")) (mCons (mC (.str "bool")) (mCons (mC (.str "int")) (mNil)))))) (mVar 1)) (mVar 1)) (mNil))))
def s_law_value : FS := s_law_value_a
def f_law_value : FN := mFn 2 2 s_law_value
abbrev st_law_content : Stmt := top 32
abbrev N_law_content : List Str := ["_law_bag_here", "_law_kinds", "_law_parameters", "_law_k"]
def s_law_content_a1a : FS := mRet (mCall f_law_value [] (mCons (mVar 0) (mCons (mVar 1) (mNil))))
def s_law_content_a : FS := mIfS (mTest (mOp dGt (mCall f_law_draw [] (mCons (mVar 0) (mCons (mC (.int 4)) (mNil)))) (mC (.int 0)))) (s_law_content_a1a) (mSkip)
def c_law_content_1 : FE := mCall f_law_value [] (mCons (mVar 0) (mCons (mVar 1) (mNil)))
def s_law_content_b : FS := mSet 2 (mBlt cTuple (mCons (mLc false (mRange1 (mCall f_law_draw [] (mCons (mVar 0) (mCons (mC (.int 4)) (mNil))))) (aName 3) (fun _ vh => .ok true vh) (c_law_content_1) [3]) (mNil)))
def s_law_content_c : FS := mRet (mTup (mCons (mC (.str "method")) (mCons (mVar 2) (mCons (mCall f_law_value [] (mCons (mVar 0) (mCons (mVar 1) (mNil)))) (mNil)))))
def s_law_content : FS := mSeq (s_law_content_a) (mSeq (s_law_content_b) (s_law_content_c))
def f_law_content : FN := mFn 2 4 s_law_content
abbrev st_law_parts : Stmt := top 33
abbrev N_law_parts : List Str := ["_law_content_here"]
def s_law_parts_a1a : FS := mRet (mLst (mNil))
def s_law_parts_a : FS := mIfS (mTest (mOp dIsN (mVar 0) (mC .non))) (s_law_parts_a1a) (mSkip)
def s_law_parts_b : FS := mRet (mIf (mTest (mBlt cIsi (mCons (mVar 0) (mCons (mC (.ty "str")) (mNil))))) (mLst (mCons (mVar 0) (mNil))) (mOp dAdd (mBlt cList (mCons (mOp dIx (mVar 0) (mC (.int 1))) (mNil))) (mLst (mCons (mOp dIx (mVar 0) (mC (.int 2))) (mNil)))))
def s_law_parts : FS := mSeq (s_law_parts_a) (s_law_parts_b)
def f_law_parts : FN := mFn 1 1 s_law_parts
abbrev st_law : Stmt := top 34
abbrev N_law : List Str := ["_law_script", "_law_bag_here", "_law_kinds", "_law_turn", "_law_content_here", "_law_due", "_law_again", "_law_found", "_law_one"]
def s_law_a : FS := mSet 1 (mCall f_law_bag [] (mCons (mVar 0) (mNil)))
def s_law_b : FS := mSet 2 (mCall (mShut f_law_names) [] (mCons (mVar 1) (mCons (mC (.int 4)) (mCons (mC (.bl true)) (mNil)))))
def s_law_c1a : FS := mSet 4 (mCall f_law_content [] (mCons (mVar 1) (mCons (mVar 2) (mNil))))
def t_law_1 : FT := mTest (mOp dNotInD (mVar 8) (mLst (mCons (mC (.str "int")) (mCons (mC (.str "str")) (mCons (mC (.str "bool")) (mNil))))))
def s_law_c1b : FS := mSet 5 (mLc false (mSeqI (mCall f_law_parts [] (mCons (mVar 4) (mNil)))) (aName 8) (t_law_1) (mVar 8) [8])
def s_law_c1c1a : FS := mSet 7 (mCall f_Interface_content_names [] (mCons (mVar 4) (mNil)))
def s_law_c1c1b1a : FS := mRet (mC (.bl false))
def s_law_c1c1b : FS := mIfS (mNotT (mTest (mCall f_law_same [] (mCons (mVar 7) (mCons (mVar 5) (mNil)))))) (s_law_c1c1b1a) (mSkip)
def s_law_c1c1c : FS := mDo (mMut gAppend (mVar 7) (mCons (mC (.str "A")) (mNil)))
def s_law_c1c : FS := mForS (mRange1 (mC (.int 2))) (aName 6) (mSeq (s_law_c1c1a) (mSeq (s_law_c1c1b) (s_law_c1c1c)))
def s_law_c : FS := mForS (mRange1 (mC (.int 8))) (aName 3) (mSeq (s_law_c1a) (mSeq (s_law_c1b) (s_law_c1c)))
def s_law_d : FS := mRet (mCall f_law_same [] (mCons (mCall f_Interface_content_names [] (mCons (mC .non) (mNil))) (mCons (mLst (mNil)) (mNil))))
def s_law : FS := mSeq (s_law_a) (mSeq (s_law_b) (mSeq (s_law_c) (s_law_d)))
def f_law : FN := mFn 1 9 s_law
structure Txt (K : PySem.W.Frag) (mg : Str → Option Value) : Prop where
  no_int : mg "int" = none
  no_isinstance : mg "isinstance" = none
  no_len : mg "len" = none
  no_list : mg "list" = none
  no_range : mg "range" = none
  no_repr : mg "repr" = none
  no_str : mg "str" = none
  no_tuple : mg "tuple" = none
  k_PLAIN : Konst K mg "PLAIN" (.ctp [(.str "int"), (.str "str"), (.str "bool")])
section
variable {P : Program} {w : World} {K : PySem.W.Frag} {mg : Str → Option Value} {base : Heap}
theorem b_Interface_content_names {f : Addr} {fd : FuncData} (D : GSm K mg "Interface" "content_names" "Interface.content_names" st_Interface_content_names f fd) : Binds K fd ["content"] [] := D.F.binds (ps := ["content"]) fun _ _ _ _ _ _ us hl => match us, hl with | [_], _ => rfl
theorem g_Interface_content_names (T : Txt K mg) {f : Addr} {fd : FuncData} (D : GSm K mg "Interface" "content_names" "Interface.content_names" st_Interface_content_names f fd) : FnG P w K mg base 1 f fd ["content"] f_Interface_content_names := by
  have S : FnScope N_Interface_content_names ["content"] (defScope st_Interface_content_names) := ⟨rfl, rfl, rfl, by decide +kernel, rfl, by decide +kernel, by decide +kernel⟩
  have hN := S.nd
  refine FnG.of (N := N_Interface_content_names) (g := s_Interface_content_names) D.F S fun cdv A outer s H E hid hr ng tk => ?_
  have hu := hr.un
  have h65 : (A.deeper (envOfC "Interface.content_names" (defScope st_Interface_content_names) s.heap.objs.size f cdv)).units + 65 < cLine := by omega
  have h64 : (A.deeper (envOfC "Interface.content_names" (defScope st_Interface_content_names) s.heap.objs.size f cdv)).units + 64 < cLine := by omega
  have h1 : (A.deeper (envOfC "Interface.content_names" (defScope st_Interface_content_names) s.heap.objs.size f cdv)).units + 1 < cLine := by omega
  skip
  exact mss_cons (ms_if (mt_val (me_callB (call_isi) cd_isi rfl T.no_isinstance bt_isinstance (ma_cons (me_var 0) (ma_cons (me_ty rfl T.no_tuple bt_tuple) (ma_nil))))) (mss_one (ms_ret (me_lc true rfl hN (mi_seq rfl (me_op op_addM od_add (me_ix rfl h1 (me_var 0) (me_int)) (me_tup (ma_cons (me_ix rfl h1 (me_var 0) (me_int)) (ma_nil))))) (blkOk_by (own := [("one", 1)]) (by kernel_rfl)) (fun s H C cl fp hid => mg_name 1 hN) (fun s H C cl fp hid => mts_one (mt_cmp (op_notInM h65) od_notIn (me_var 1) (me_k T.k_PLAIN rfl rfl) (by first | exact nobehind _ (by decide) (by decide) | rfl))) (fun s H C cl fp hid => me_var 1)))) (mss_nil)) (mss_one (ms_ret (me_ifExp (PW.pt (mw_or (mt_cmp (op_isN) od_isN (me_var 0) (me_non) (by first | exact nobehind _ (by decide) (by decide) | rfl)) (mw_or1 (mt_cmp (op_inM h65) od_in (me_var 0) (me_k T.k_PLAIN rfl rfl) (by first | exact nobehind _ (by decide) (by decide) | rfl))))) (me_lstM (ma_nil)) (me_lstM (ma_cons (me_var 0) (ma_nil))))))
theorem b_law_bag {f : Addr} {fd : FuncData} (D : GDef K mg "_law_bag" st_law_bag f fd) : Binds K fd ["_law_script"] [] := D.F.binds (ps := ["_law_script"]) fun _ _ _ _ _ _ us hl => match us, hl with | [_], _ => rfl
theorem g_law_bag (T : Txt K mg) {f : Addr} {fd : FuncData} (D : GDef K mg "_law_bag" st_law_bag f fd) : FnG P w K mg base 1 f fd ["_law_script"] f_law_bag := by
  have S : FnScope N_law_bag ["_law_script"] (defScope st_law_bag) := ⟨rfl, rfl, rfl, by decide +kernel, rfl, by decide +kernel, by decide +kernel⟩
  have hN := S.nd
  refine FnG.of (N := N_law_bag) (g := s_law_bag) D.F S fun cdv A outer s H E hid hr ng tk => ?_
  have hu := hr.un
  have h65 : (A.deeper (envOfC "_law_bag" (defScope st_law_bag) s.heap.objs.size f cdv)).units + 65 < cLine := by omega
  have h64 : (A.deeper (envOfC "_law_bag" (defScope st_law_bag) s.heap.objs.size f cdv)).units + 64 < cLine := by omega
  have h1 : (A.deeper (envOfC "_law_bag" (defScope st_law_bag) s.heap.objs.size f cdv)).units + 1 < cLine := by omega
  skip
  exact mss_one (ms_ret (me_lstM (ma_cons (me_callTy (call_list_of) cd_list rfl T.no_list bt_list (ma_cons (me_slice rfl (me_var 0) mo_none (mo_some (me_int))) (ma_nil))) (ma_cons (me_int) (ma_cons (me_int) (ma_cons (me_int) (ma_cons (me_int) (ma_nil))))))))
theorem b_law_draw {f : Addr} {fd : FuncData} (D : GDef K mg "_law_draw" st_law_draw f fd) : Binds K fd ["_law_bag_here", "_law_many"] [] := D.F.binds (ps := ["_law_bag_here", "_law_many"]) fun _ _ _ _ _ _ us hl => match us, hl with | [_, _], _ => rfl
theorem g_law_draw (T : Txt K mg) {f : Addr} {fd : FuncData} (D : GDef K mg "_law_draw" st_law_draw f fd) : FnG P w K mg base 1 f fd ["_law_bag_here", "_law_many"] f_law_draw := by
  have S : FnScope N_law_draw ["_law_bag_here", "_law_many"] (defScope st_law_draw) := ⟨rfl, rfl, rfl, by decide +kernel, rfl, by decide +kernel, by decide +kernel⟩
  have hN := S.nd
  refine FnG.of (N := N_law_draw) (g := s_law_draw) D.F S fun cdv A outer s H E hid hr ng tk => ?_
  have hu := hr.un
  have h65 : (A.deeper (envOfC "_law_draw" (defScope st_law_draw) s.heap.objs.size f cdv)).units + 65 < cLine := by omega
  have h64 : (A.deeper (envOfC "_law_draw" (defScope st_law_draw) s.heap.objs.size f cdv)).units + 64 < cLine := by omega
  have h1 : (A.deeper (envOfC "_law_draw" (defScope st_law_draw) s.heap.objs.size f cdv)).units + 1 < cLine := by omega
  skip
  exact mss_cons (ms_if (PW.pt (mw_and (mt_cmp (op_eqM h64) od_eq (me_ix rfl h1 (me_var 0) (me_int)) (me_int) (by first | exact nobehind _ (by decide) (by decide) | rfl)) (mw_and1 (mt_cmp (op_lt) od_lt (me_ix rfl h1 (me_var 0) (me_int)) (me_callB (call_lenM) cd_len rfl T.no_len bt_len (ma_cons (me_ix rfl h1 (me_var 0) (me_int)) (ma_nil))) (by first | exact nobehind _ (by decide) (by decide) | rfl))))) (mss_cons (ms_set 3 hN (me_ix rfl h1 (me_ix rfl h1 (me_var 0) (me_int)) (me_ix rfl h1 (me_var 0) (me_int)))) (mss_cons (ms_setItem h1 (me_var 0) (me_int) (me_op op_addM od_add (me_ix rfl h1 (me_var 0) (me_int)) (me_int))) (mss_cons (ms_setItem h1 (me_var 0) (me_int) (me_op op_mod od_mod (me_callTy (call_int1) cd_int rfl T.no_int bt_int (ma_cons (me_op op_addM od_add (me_op op_addM od_add (me_op op_mul od_mul (me_ix rfl h1 (me_var 0) (me_int)) (me_int)) (me_op op_mul od_mul (me_op op_mod od_mod (me_callTy (call_int1) cd_int rfl T.no_int bt_int (ma_cons (me_var 3) (ma_nil))) (me_int)) (me_int))) (me_int)) (ma_nil))) (me_int))) (mss_one (ms_if (mt_cmp (op_ge) od_ge (me_var 3) (me_op op_pow od_pow (me_int) (me_int)) (by first | exact nobehind _ (by decide) (by decide) | rfl)) (mss_one (ms_setItem h1 (me_var 0) (me_int) (me_var 3))) (mss_nil)))))) (mss_nil)) (mss_cons (ms_if (mt_cmp (op_gt) od_gt (me_ix rfl h1 (me_var 0) (me_int)) (me_int) (by first | exact nobehind _ (by decide) (by decide) | rfl)) (mss_cons (ms_set 4 hN (me_op op_mod od_mod (me_callTy (call_int1) cd_int rfl T.no_int bt_int (ma_cons (me_ix rfl h1 (me_var 0) (me_int)) (ma_nil))) (me_var 1))) (mss_cons (ms_setItem h1 (me_var 0) (me_int) (me_op op_fdiv od_fdiv (me_ix rfl h1 (me_var 0) (me_int)) (me_var 1))) (mss_one (ms_ret (me_var 4))))) (mss_nil)) (mss_cons (ms_setItem h1 (me_var 0) (me_int) (me_op op_addM od_add (me_ix rfl h1 (me_var 0) (me_int)) (me_int))) (mss_cons (ms_set 2 hN (me_ix rfl h1 (me_var 0) (me_int))) (mss_cons (ms_setItem h1 (me_var 0) (me_int) (me_op op_mod od_mod (me_callTy (call_int1) cd_int rfl T.no_int bt_int (ma_cons (me_op op_addM od_add (me_op op_addM od_add (me_op op_addM od_add (me_op op_mul od_mul (me_var 2) (me_var 2)) (me_op op_mul od_mul (me_int) (me_var 2))) (me_op op_mul od_mul (me_int) (me_ix rfl h1 (me_var 0) (me_int)))) (me_int)) (ma_nil))) (me_int))) (mss_one (ms_ret (me_op op_mod od_mod (me_callTy (call_int1) cd_int rfl T.no_int bt_int (ma_cons (me_op op_addM od_add (me_op op_addM od_add (me_op op_fdiv od_fdiv (me_ix rfl h1 (me_var 0) (me_int)) (me_int)) (me_op op_mul od_mul (me_var 2) (me_int))) (me_ix rfl h1 (me_var 0) (me_int))) (ma_nil))) (me_var 1))))))))
theorem b_law_of {f : Addr} {fd : FuncData} (D : GDef K mg "_law_of" st_law_of f fd) : Binds K fd ["_law_bag_here", "_law_some"] [] := D.F.binds (ps := ["_law_bag_here", "_law_some"]) fun _ _ _ _ _ _ us hl => match us, hl with | [_, _], _ => rfl
theorem g_law_of (T : Txt K mg) {f : Addr} {fd : FuncData} (D : GDef K mg "_law_of" st_law_of f fd) {a_law_draw : Addr} {fd_law_draw : FuncData} (D_law_draw : GDef K mg "_law_draw" st_law_draw a_law_draw fd_law_draw) (G_law_draw : FnG P w K mg base 1 a_law_draw fd_law_draw ["_law_bag_here", "_law_many"] f_law_draw) : FnG P w K mg base 2 f fd ["_law_bag_here", "_law_some"] f_law_of := by
  have b_law_draw := b_law_draw D_law_draw
  have S : FnScope N_law_of ["_law_bag_here", "_law_some"] (defScope st_law_of) := ⟨rfl, rfl, rfl, by decide +kernel, rfl, by decide +kernel, by decide +kernel⟩
  have hN := S.nd
  refine FnG.of (N := N_law_of) (g := s_law_of) D.F S fun cdv A outer s H E hid hr ng tk => ?_
  have hu := hr.un
  have h65 : (A.deeper (envOfC "_law_of" (defScope st_law_of) s.heap.objs.size f cdv)).units + 65 < cLine := by omega
  have h64 : (A.deeper (envOfC "_law_of" (defScope st_law_of) s.heap.objs.size f cdv)).units + 64 < cLine := by omega
  have h1 : (A.deeper (envOfC "_law_of" (defScope st_law_of) s.heap.objs.size f cdv)).units + 1 < cLine := by omega
  skip
  exact mss_one (ms_ret (me_ix rfl h1 (me_var 1) (mg_call rfl rfl G_law_draw (hr.mono (by decide)) ng tk rfl D_law_draw.m D_law_draw.F.kp b_law_draw .nil (fun _ _ => trivial) (ma_cons (me_var 0) (ma_cons (me_callB (call_lenM) cd_len rfl T.no_len bt_len (ma_cons (me_var 1) (ma_nil))) (ma_nil))))))
theorem b_law_same {f : Addr} {fd : FuncData} (D : GDef K mg "_law_same" st_law_same f fd) : Binds K fd ["_law_found", "_law_due"] [] := D.F.binds (ps := ["_law_found", "_law_due"]) fun _ _ _ _ _ _ us hl => match us, hl with | [_, _], _ => rfl
theorem g_law_same (T : Txt K mg) {f : Addr} {fd : FuncData} (D : GDef K mg "_law_same" st_law_same f fd) : FnG P w K mg base 1 f fd ["_law_found", "_law_due"] f_law_same := by
  have S : FnScope N_law_same ["_law_found", "_law_due"] (defScope st_law_same) := ⟨rfl, rfl, rfl, by decide +kernel, rfl, by decide +kernel, by decide +kernel⟩
  have hN := S.nd
  refine FnG.of (N := N_law_same) (g := s_law_same) D.F S fun cdv A outer s H E hid hr ng tk => ?_
  have hu := hr.un
  have h65 : (A.deeper (envOfC "_law_same" (defScope st_law_same) s.heap.objs.size f cdv)).units + 65 < cLine := by omega
  have h64 : (A.deeper (envOfC "_law_same" (defScope st_law_same) s.heap.objs.size f cdv)).units + 64 < cLine := by omega
  have h1 : (A.deeper (envOfC "_law_same" (defScope st_law_same) s.heap.objs.size f cdv)).units + 1 < cLine := by omega
  skip
  exact mss_one (ms_ret (me_cmp (op_eqM h64) od_eq (me_callB (call_reprM h64 ng) cd_repr rfl T.no_repr bt_repr (ma_cons (me_var 0) (ma_nil))) (me_callB (call_reprM h64 ng) cd_repr rfl T.no_repr bt_repr (ma_cons (me_var 1) (ma_nil))) (by first | exact nobehind _ (by decide) (by decide) | rfl)))
theorem b_law_names {f : Addr} {fd : FuncData} (D : GDef K mg "_law_names" st_law_names f fd) : Binds K fd ["_law_bag_here", "_law_many", "_law_great"] [] := D.F.binds (ps := ["_law_bag_here", "_law_many", "_law_great"]) fun _ _ _ _ _ _ us hl => match us, hl with | [_, _, _], _ => rfl
theorem g_law_names (T : Txt K mg) {f : Addr} {fd : FuncData} (D : GDef K mg "_law_names" st_law_names f fd) {a_law_draw : Addr} {fd_law_draw : FuncData} (D_law_draw : GDef K mg "_law_draw" st_law_draw a_law_draw fd_law_draw) (G_law_draw : FnG P w K mg base 1 a_law_draw fd_law_draw ["_law_bag_here", "_law_many"] f_law_draw) : FnG P w K mg base 2 f fd ["_law_bag_here", "_law_many", "_law_great"] f_law_names := by
  have b_law_draw := b_law_draw D_law_draw
  have S : FnScope N_law_names ["_law_bag_here", "_law_many", "_law_great"] (defScope st_law_names) := ⟨rfl, rfl, rfl, by decide +kernel, rfl, by decide +kernel, by decide +kernel⟩
  have hN := S.nd
  refine FnG.of (N := N_law_names) (g := s_law_names) D.F S fun cdv A outer s H E hid hr ng tk => ?_
  have hu := hr.un
  have h65 : (A.deeper (envOfC "_law_names" (defScope st_law_names) s.heap.objs.size f cdv)).units + 65 < cLine := by omega
  have h64 : (A.deeper (envOfC "_law_names" (defScope st_law_names) s.heap.objs.size f cdv)).units + 64 < cLine := by omega
  have h1 : (A.deeper (envOfC "_law_names" (defScope st_law_names) s.heap.objs.size f cdv)).units + 1 < cLine := by omega
  have hp := passes_of (X := cxOf (L2.CX P w) P w K mg base N_law_names "_law_names" (defScope st_law_names) f cdv A outer s H E) rfl
  exact mss_cons (ms_set 3 hN (me_str)) (mss_cons (ms_set 4 hN (me_op op_addM od_add (me_int) (mg_call rfl rfl G_law_draw (hr.mono (by decide)) ng tk rfl D_law_draw.m D_law_draw.F.kp b_law_draw .nil (fun _ _ => trivial) (ma_cons (me_var 0) (ma_cons (me_int) (ma_nil)))))) (mss_cons (ms_set 5 hN (mg_call rfl rfl G_law_draw (hr.mono (by decide)) ng tk rfl D_law_draw.m D_law_draw.F.kp b_law_draw .nil (fun _ _ => trivial) (ma_cons (me_var 0) (ma_cons (me_var 4) (ma_nil))))) (mss_cons (ms_setLc 6 false rfl hN (mi_range1 rfl T.no_range (me_var 4)) (blkOk_by (own := [("_law_k", 9)]) (by kernel_rfl)) (fun s H C cl fp hid => mg_name 9 hN) (fun s H C cl fp hid => mts_nil) (fun s H C cl fp hid => mg_call rfl rfl G_law_draw (hr.mono (by decide)) ng takes0 rfl D_law_draw.m D_law_draw.F.kp b_law_draw .nil (fun _ _ => trivial) (ma_cons (me_var 0) (ma_cons (me_int) (ma_nil))))) (mss_cons (ms_set 7 hN (me_cmp (op_eqM h64) od_eq (mg_call rfl rfl G_law_draw (hr.mono (by decide)) ng tk rfl D_law_draw.m D_law_draw.F.kp b_law_draw .nil (fun _ _ => trivial) (ma_cons (me_var 0) (ma_cons (me_int) (ma_nil)))) (me_int) (by first | exact nobehind _ (by decide) (by decide) | rfl))) (mss_cons (ms_set 8 hN (me_lstM (ma_nil))) (mss_cons (ms_for hp rfl (mi_range1 rfl T.no_range (me_var 1)) (mg_name 9 hN) (mss_cons (ms_set 10 hN (me_ifExp (mt_val (me_var 7)) (me_var 4) (me_op op_addM od_add (me_op op_addM od_add (me_var 5) (me_int)) (mg_call rfl rfl G_law_draw (hr.mono (by decide)) ng tk rfl D_law_draw.m D_law_draw.F.kp b_law_draw .nil (fun _ _ => trivial) (ma_cons (me_var 0) (ma_cons (me_op op_sub od_sub (me_var 4) (me_var 5)) (ma_nil))))))) (mss_cons (ms_set 11 hN (me_listM rfl rfl T.no_list bt_list (ma_cons (me_var 6) (ma_nil)))) (mss_cons (ms_setItem h1 (me_var 11) (me_var 5) (me_op op_mod od_mod (me_callTy (call_int1) cd_int rfl T.no_int bt_int (ma_cons (me_op op_addM od_add (me_ix rfl h1 (me_var 6) (me_var 5)) (me_op op_mul od_mul (me_int) (me_var 9))) (ma_nil))) (me_int))) (mss_cons (ms_set 12 hN (me_mt rfl PySem.F.plainAttrs_str PySem.F.slot_str_join PySem.F.type_str_join mt_join md_join (me_str) (ma_cons (me_lc false rfl hN (mi_seq rfl (me_slice rfl (me_var 11) mo_none (mo_some (me_var 10)))) (blkOk_by (own := [("_law_at", 13)]) (by kernel_rfl)) (fun s H C cl fp hid => mg_name 13 hN) (fun s H C cl fp hid => mts_nil) (fun s H C cl fp hid => me_ix rfl h1 (me_var 3) (me_var 13))) (ma_nil)))) (mss_cons (ms_set 12 hN (me_ifExp (mt_cmp (op_eqM h64) od_eq (me_var 12) (me_str) (by first | exact nobehind _ (by decide) (by decide) | rfl)) (me_str) (me_var 12))) (mss_one (ms_expr (me_mut rfl PySem.F.slot_list_append PySem.F.type_list_append mt_append mu_append (me_var 8) (ma_cons (me_ifExp (mt_val (me_var 2)) (me_op op_addM od_add (me_mt0 rfl PySem.F.plainAttrs_str PySem.F.slot_str_upper PySem.F.type_str_upper mt_upper md_upper (me_slice rfl (me_var 12) mo_none (mo_some (me_int)))) (me_slice rfl (me_var 12) (mo_some (me_int)) mo_none)) (me_var 12)) (ma_nil))))))))))) (mss_one (ms_ret (me_var 8)))))))))
theorem b_law_value {f : Addr} {fd : FuncData} (D : GDef K mg "_law_value" st_law_value f fd) : Binds K fd ["_law_bag_here", "_law_kinds"] [] := D.F.binds (ps := ["_law_bag_here", "_law_kinds"]) fun _ _ _ _ _ _ us hl => match us, hl with | [_, _], _ => rfl
theorem g_law_value (T : Txt K mg) {f : Addr} {fd : FuncData} (D : GDef K mg "_law_value" st_law_value f fd) {a_law_of : Addr} {fd_law_of : FuncData} (D_law_of : GDef K mg "_law_of" st_law_of a_law_of fd_law_of) (G_law_of : FnG P w K mg base 2 a_law_of fd_law_of ["_law_bag_here", "_law_some"] f_law_of) : FnG P w K mg base 3 f fd ["_law_bag_here", "_law_kinds"] f_law_value := by
  have b_law_of := b_law_of D_law_of
  have S : FnScope N_law_value ["_law_bag_here", "_law_kinds"] (defScope st_law_value) := ⟨rfl, rfl, rfl, by decide +kernel, rfl, by decide +kernel, by decide +kernel⟩
  have hN := S.nd
  refine FnG.of (N := N_law_value) (g := s_law_value) D.F S fun cdv A outer s H E hid hr ng tk => ?_
  have hu := hr.un
  have h65 : (A.deeper (envOfC "_law_value" (defScope st_law_value) s.heap.objs.size f cdv)).units + 65 < cLine := by omega
  have h64 : (A.deeper (envOfC "_law_value" (defScope st_law_value) s.heap.objs.size f cdv)).units + 64 < cLine := by omega
  have h1 : (A.deeper (envOfC "_law_value" (defScope st_law_value) s.heap.objs.size f cdv)).units + 1 < cLine := by omega
  skip
  exact mss_one (ms_ret (mg_call rfl rfl G_law_of (hr.mono (by decide)) ng tk rfl D_law_of.m D_law_of.F.kp b_law_of .nil (fun _ _ => trivial) (ma_cons (me_var 0) (ma_cons (me_op op_addM od_add (me_op op_addM od_add (me_lst (ma_cons (me_str) (ma_cons (me_str) (ma_cons (me_str) (ma_cons (me_str) (ma_nil)))))) (me_var 1)) (me_var 1)) (ma_nil)))))
theorem b_law_content {f : Addr} {fd : FuncData} (D : GDef K mg "_law_content" st_law_content f fd) : Binds K fd ["_law_bag_here", "_law_kinds"] [] := D.F.binds (ps := ["_law_bag_here", "_law_kinds"]) fun _ _ _ _ _ _ us hl => match us, hl with | [_, _], _ => rfl
theorem g_law_content (T : Txt K mg) {f : Addr} {fd : FuncData} (D : GDef K mg "_law_content" st_law_content f fd) {a_law_draw : Addr} {fd_law_draw : FuncData} (D_law_draw : GDef K mg "_law_draw" st_law_draw a_law_draw fd_law_draw) (G_law_draw : FnG P w K mg base 1 a_law_draw fd_law_draw ["_law_bag_here", "_law_many"] f_law_draw) {a_law_value : Addr} {fd_law_value : FuncData} (D_law_value : GDef K mg "_law_value" st_law_value a_law_value fd_law_value) (G_law_value : FnG P w K mg base 3 a_law_value fd_law_value ["_law_bag_here", "_law_kinds"] f_law_value) : FnG P w K mg base 4 f fd ["_law_bag_here", "_law_kinds"] f_law_content := by
  have b_law_draw := b_law_draw D_law_draw
  have b_law_value := b_law_value D_law_value
  have S : FnScope N_law_content ["_law_bag_here", "_law_kinds"] (defScope st_law_content) := ⟨rfl, rfl, rfl, by decide +kernel, rfl, by decide +kernel, by decide +kernel⟩
  have hN := S.nd
  refine FnG.of (N := N_law_content) (g := s_law_content) D.F S fun cdv A outer s H E hid hr ng tk => ?_
  have hu := hr.un
  have h65 : (A.deeper (envOfC "_law_content" (defScope st_law_content) s.heap.objs.size f cdv)).units + 65 < cLine := by omega
  have h64 : (A.deeper (envOfC "_law_content" (defScope st_law_content) s.heap.objs.size f cdv)).units + 64 < cLine := by omega
  have h1 : (A.deeper (envOfC "_law_content" (defScope st_law_content) s.heap.objs.size f cdv)).units + 1 < cLine := by omega
  skip
  exact mss_cons (ms_if (mt_cmp (op_gt) od_gt (mg_call rfl rfl G_law_draw (hr.mono (by decide)) ng tk rfl D_law_draw.m D_law_draw.F.kp b_law_draw .nil (fun _ _ => trivial) (ma_cons (me_var 0) (ma_cons (me_int) (ma_nil)))) (me_int) (by first | exact nobehind _ (by decide) (by decide) | rfl)) (mss_one (ms_ret (mg_call rfl rfl G_law_value (hr.mono (by decide)) ng tk rfl D_law_value.m D_law_value.F.kp b_law_value .nil (fun _ _ => trivial) (ma_cons (me_var 0) (ma_cons (me_var 1) (ma_nil)))))) (mss_nil)) (mss_cons (ms_set 2 hN (me_callTy (call_tuple_of) cd_tuple rfl T.no_tuple bt_tuple (ma_cons (me_lc false rfl hN (mi_range1 rfl T.no_range (mg_call rfl rfl G_law_draw (hr.mono (by decide)) ng tk rfl D_law_draw.m D_law_draw.F.kp b_law_draw .nil (fun _ _ => trivial) (ma_cons (me_var 0) (ma_cons (me_int) (ma_nil))))) (blkOk_by (own := [("_law_k", 3)]) (by kernel_rfl)) (fun s H C cl fp hid => mg_name 3 hN) (fun s H C cl fp hid => mts_nil) (fun s H C cl fp hid => mg_call rfl rfl G_law_value (hr.mono (by decide)) ng takes0 rfl D_law_value.m D_law_value.F.kp b_law_value .nil (fun _ _ => trivial) (ma_cons (me_var 0) (ma_cons (me_var 1) (ma_nil))))) (ma_nil)))) (mss_one (ms_ret (me_tup (ma_cons (me_str) (ma_cons (me_var 2) (ma_cons (mg_call rfl rfl G_law_value (hr.mono (by decide)) ng tk rfl D_law_value.m D_law_value.F.kp b_law_value .nil (fun _ _ => trivial) (ma_cons (me_var 0) (ma_cons (me_var 1) (ma_nil)))) (ma_nil))))))))
theorem b_law_parts {f : Addr} {fd : FuncData} (D : GDef K mg "_law_parts" st_law_parts f fd) : Binds K fd ["_law_content_here"] [] := D.F.binds (ps := ["_law_content_here"]) fun _ _ _ _ _ _ us hl => match us, hl with | [_], _ => rfl
theorem g_law_parts (T : Txt K mg) {f : Addr} {fd : FuncData} (D : GDef K mg "_law_parts" st_law_parts f fd) : FnG P w K mg base 1 f fd ["_law_content_here"] f_law_parts := by
  have S : FnScope N_law_parts ["_law_content_here"] (defScope st_law_parts) := ⟨rfl, rfl, rfl, by decide +kernel, rfl, by decide +kernel, by decide +kernel⟩
  have hN := S.nd
  refine FnG.of (N := N_law_parts) (g := s_law_parts) D.F S fun cdv A outer s H E hid hr ng tk => ?_
  have hu := hr.un
  have h65 : (A.deeper (envOfC "_law_parts" (defScope st_law_parts) s.heap.objs.size f cdv)).units + 65 < cLine := by omega
  have h64 : (A.deeper (envOfC "_law_parts" (defScope st_law_parts) s.heap.objs.size f cdv)).units + 64 < cLine := by omega
  have h1 : (A.deeper (envOfC "_law_parts" (defScope st_law_parts) s.heap.objs.size f cdv)).units + 1 < cLine := by omega
  skip
  exact mss_cons (ms_if (mt_cmp (op_isN) od_isN (me_var 0) (me_non) (by first | exact nobehind _ (by decide) (by decide) | rfl)) (mss_one (ms_ret (me_lst (ma_nil)))) (mss_nil)) (mss_one (ms_ret (me_ifExp (mt_val (me_callB (call_isi) cd_isi rfl T.no_isinstance bt_isinstance (ma_cons (me_var 0) (ma_cons (me_ty rfl T.no_str bt_str) (ma_nil))))) (me_lst (ma_cons (me_var 0) (ma_nil))) (me_op op_addM od_add (me_callTy (call_list_of) cd_list rfl T.no_list bt_list (ma_cons (me_ix rfl h1 (me_var 0) (me_int)) (ma_nil))) (me_lst (ma_cons (me_ix rfl h1 (me_var 0) (me_int)) (ma_nil)))))))
theorem b_law {f : Addr} {fd : FuncData} (D : GDef K mg "law" st_law f fd) : Binds K fd ["_law_script"] [] := D.F.binds (ps := ["_law_script"]) fun _ _ _ _ _ _ us hl => match us, hl with | [_], _ => rfl
theorem g_law (T : Txt K mg) {f : Addr} {fd : FuncData} (D : GDef K mg "law" st_law f fd) {a_law_bag : Addr} {fd_law_bag : FuncData} (D_law_bag : GDef K mg "_law_bag" st_law_bag a_law_bag fd_law_bag) (G_law_bag : FnG P w K mg base 1 a_law_bag fd_law_bag ["_law_script"] f_law_bag) {a_law_names : Addr} {fd_law_names : FuncData} (D_law_names : GDef K mg "_law_names" st_law_names a_law_names fd_law_names) (G_law_names : FnG P w K mg base 2 a_law_names fd_law_names ["_law_bag_here", "_law_many", "_law_great"] f_law_names) {a_law_content : Addr} {fd_law_content : FuncData} (D_law_content : GDef K mg "_law_content" st_law_content a_law_content fd_law_content) (G_law_content : FnG P w K mg base 4 a_law_content fd_law_content ["_law_bag_here", "_law_kinds"] f_law_content) {a_law_parts : Addr} {fd_law_parts : FuncData} (D_law_parts : GDef K mg "_law_parts" st_law_parts a_law_parts fd_law_parts) (G_law_parts : FnG P w K mg base 1 a_law_parts fd_law_parts ["_law_content_here"] f_law_parts) {a_Interface_content_names : Addr} {fd_Interface_content_names : FuncData} (D_Interface_content_names : GSm K mg "Interface" "content_names" "Interface.content_names" st_Interface_content_names a_Interface_content_names fd_Interface_content_names) (G_Interface_content_names : FnG P w K mg base 1 a_Interface_content_names fd_Interface_content_names ["content"] f_Interface_content_names) {a_law_same : Addr} {fd_law_same : FuncData} (D_law_same : GDef K mg "_law_same" st_law_same a_law_same fd_law_same) (G_law_same : FnG P w K mg base 1 a_law_same fd_law_same ["_law_found", "_law_due"] f_law_same) : FnG P w K mg base 5 f fd ["_law_script"] f_law := by
  have b_law_bag := b_law_bag D_law_bag
  have b_law_names := b_law_names D_law_names
  have b_law_content := b_law_content D_law_content
  have b_law_parts := b_law_parts D_law_parts
  have b_Interface_content_names := b_Interface_content_names D_Interface_content_names
  have b_law_same := b_law_same D_law_same
  have S : FnScope N_law ["_law_script"] (defScope st_law) := ⟨rfl, rfl, rfl, by decide +kernel, rfl, by decide +kernel, by decide +kernel⟩
  have hN := S.nd
  refine FnG.of (N := N_law) (g := s_law) D.F S fun cdv A outer s H E hid hr ng tk => ?_
  have hu := hr.un
  have h65 : (A.deeper (envOfC "law" (defScope st_law) s.heap.objs.size f cdv)).units + 65 < cLine := by omega
  have h64 : (A.deeper (envOfC "law" (defScope st_law) s.heap.objs.size f cdv)).units + 64 < cLine := by omega
  have h1 : (A.deeper (envOfC "law" (defScope st_law) s.heap.objs.size f cdv)).units + 1 < cLine := by omega
  have hp := passes_of (X := cxOf (L2.CX P w) P w K mg base N_law "law" (defScope st_law) f cdv A outer s H E) rfl
  exact mss_cons (ms_set 1 hN (mg_call rfl rfl G_law_bag (hr.mono (by decide)) ng tk rfl D_law_bag.m D_law_bag.F.kp b_law_bag .nil (fun _ _ => trivial) (ma_cons (me_var 0) (ma_nil)))) (mss_cons (ms_set 2 hN (mg_call rfl rfl G_law_names.shut (hr.mono (by decide)) ng tk rfl D_law_names.m D_law_names.F.kp b_law_names .nil (fun _ _ => trivial) (ma_cons (me_var 1) (ma_cons (me_int) (ma_cons (me_bl) (ma_nil)))))) (mss_cons (ms_for hp rfl (mi_range1 rfl T.no_range (me_int)) (mg_name 3 hN) (mss_cons (ms_set 4 hN (mg_call rfl rfl G_law_content (hr.mono (by decide)) ng tk rfl D_law_content.m D_law_content.F.kp b_law_content .nil (fun _ _ => trivial) (ma_cons (me_var 1) (ma_cons (me_var 2) (ma_nil))))) (mss_cons (ms_setLc 5 false rfl hN (mi_seq rfl (mg_call rfl rfl G_law_parts (hr.mono (by decide)) ng tk rfl D_law_parts.m D_law_parts.F.kp b_law_parts .nil (fun _ _ => trivial) (ma_cons (me_var 4) (ma_nil)))) (blkOk_by (own := [("_law_one", 8)]) (by kernel_rfl)) (fun s H C cl fp hid => mg_name 8 hN) (fun s H C cl fp hid => mts_one (mt_cmp (op_notInM h65) od_notIn (me_var 8) (me_lst (ma_cons (me_str) (ma_cons (me_str) (ma_cons (me_str) (ma_nil))))) (by first | exact nobehind _ (by decide) (by decide) | rfl))) (fun s H C cl fp hid => me_var 8)) (mss_one (ms_for hp rfl (mi_range1 rfl T.no_range (me_int)) (mg_name 6 hN) (mss_cons (ms_set 7 hN (me_sm rfl rfl D_Interface_content_names.S G_Interface_content_names (hr.mono (by decide)) ng tk rfl D_Interface_content_names.F.kp b_Interface_content_names .nil (fun _ _ => trivial) (ma_cons (me_var 4) (ma_nil)))) (mss_cons (ms_if (mt_not (mt_val (mg_call rfl rfl G_law_same (hr.mono (by decide)) ng tk rfl D_law_same.m D_law_same.F.kp b_law_same .nil (fun _ _ => trivial) (ma_cons (me_var 7) (ma_cons (me_var 5) (ma_nil)))))) (mss_one (ms_ret (me_bl))) (mss_nil)) (mss_one (ms_expr (me_mut rfl PySem.F.slot_list_append PySem.F.type_list_append mt_append mu_append (me_var 7) (ma_cons (me_str) (ma_nil)))))))))))) (mss_one (ms_ret (mg_call rfl rfl G_law_same (hr.mono (by decide)) ng tk rfl D_law_same.m D_law_same.F.kp b_law_same .nil (fun _ _ => trivial) (ma_cons (me_sm rfl rfl D_Interface_content_names.S G_Interface_content_names (hr.mono (by decide)) ng tk rfl D_Interface_content_names.F.kp b_Interface_content_names .nil (fun _ _ => trivial) (ma_cons (me_non) (ma_nil))) (ma_cons (me_lst (ma_nil)) (ma_nil))))))))
end
theorem all (K : PySem.W.Frag) (mg : Str → Option Value) {h : Heap} (X : K.In h) (G : h.Ns mainGlobals mg) {fa : Addr} (hfa : mg "law" = some (.ref fa)) {P : Program} {w : World}
    (no_int : PySem.W.nsIn K mainGlobals "int" = some none)
    (no_isinstance : PySem.W.nsIn K mainGlobals "isinstance" = some none)
    (no_len : PySem.W.nsIn K mainGlobals "len" = some none)
    (no_list : PySem.W.nsIn K mainGlobals "list" = some none)
    (no_range : PySem.W.nsIn K mainGlobals "range" = some none)
    (no_repr : PySem.W.nsIn K mainGlobals "repr" = some none)
    (no_str : PySem.W.nsIn K mainGlobals "str" = some none)
    (no_tuple : PySem.W.nsIn K mainGlobals "tuple" = some none)
    {a_k_PLAIN : Addr} {od_k_PLAIN : Option Addr} {its_PLAIN : Array Value} {n_k_PLAIN : Nat} {sl_k_PLAIN : Array (Option Value)} (e1_PLAIN : PySem.W.nsIn K mainGlobals "PLAIN" = some (some (.ref a_k_PLAIN))) (e2_PLAIN : K.lookup a_k_PLAIN = some ⟨.type "tuple", od_k_PLAIN, .seq its_PLAIN n_k_PLAIN, sl_k_PLAIN⟩) (e3_PLAIN : valsD its_PLAIN.toList = some [(.str "int"), (.str "str"), (.str "bool")]) (e4_PLAIN : decide (its_PLAIN.size ≤ sizeLine) = true)
    {a_Interface_content_names C_Interface_content_names p_Interface_content_names : Addr} {mc_Interface_content_names : Value} {rs_Interface_content_names : List Value} {oc_Interface_content_names : Value} {od_Interface_content_names an_Interface_content_names : Option Addr} {osl_Interface_content_names : Array (Option Value)} {kV_Interface_content_names doc_Interface_content_names pm_Interface_content_names cdv_Interface_content_names ct_Interface_content_names : Value} (x_Interface_content_names : PySem.W.nsIn K mainGlobals "Interface" = some (some (.ref C_Interface_content_names))) (st_ty_Interface_content_names : PySem.W.typeIn K (.ref C_Interface_content_names) = some mc_Interface_content_names) (sr_Interface_content_names : PySem.W.readsIn K C_Interface_content_names mc_Interface_content_names = true) (sg_Interface_content_names : PySem.W.specialIn K (.ref C_Interface_content_names) "__getattribute__" = some (some (.builtin "type.__getattribute__"))) (sf_Interface_content_names : PySem.W.findCls K (.ref C_Interface_content_names) mc_Interface_content_names "content_names" = some (.get (.builtin "staticmethod.__get__") (.ref p_Interface_content_names) .none (.ref C_Interface_content_names))) (sp_Interface_content_names : PySem.W.recIn K p_Interface_content_names "staticmethod" = some (.ref a_Interface_content_names :: rs_Interface_content_names)) (l_Interface_content_names : K.lookup a_Interface_content_names = some ⟨oc_Interface_content_names, od_Interface_content_names, .func (PySem.W.fnOf "content_names" "Interface.content_names" (defArgs st_Interface_content_names) (defBody st_Interface_content_names) (defScope st_Interface_content_names) .none kV_Interface_content_names doc_Interface_content_names pm_Interface_content_names an_Interface_content_names cdv_Interface_content_names ct_Interface_content_names), osl_Interface_content_names⟩) (c_Interface_content_names : PySem.W.codeIn K cdv_Interface_content_names "Interface.content_names" = true) (kp_Interface_content_names : PySem.W.keepIn K (.ref a_Interface_content_names) = true)
    {a_law_bag : Addr} {oc_law_bag : Value} {od_law_bag an_law_bag : Option Addr} {osl_law_bag : Array (Option Value)} {kV_law_bag doc_law_bag pm_law_bag cdv_law_bag ct_law_bag : Value} (x_law_bag : PySem.W.nsIn K mainGlobals "_law_bag" = some (some (.ref a_law_bag))) (l_law_bag : K.lookup a_law_bag = some ⟨oc_law_bag, od_law_bag, .func (PySem.W.fnOf "_law_bag" "_law_bag" (defArgs st_law_bag) (defBody st_law_bag) (defScope st_law_bag) .none kV_law_bag doc_law_bag pm_law_bag an_law_bag cdv_law_bag ct_law_bag), osl_law_bag⟩) (c_law_bag : PySem.W.codeIn K cdv_law_bag "_law_bag" = true) (kp_law_bag : PySem.W.keepIn K (.ref a_law_bag) = true)
    {a_law_draw : Addr} {oc_law_draw : Value} {od_law_draw an_law_draw : Option Addr} {osl_law_draw : Array (Option Value)} {kV_law_draw doc_law_draw pm_law_draw cdv_law_draw ct_law_draw : Value} (x_law_draw : PySem.W.nsIn K mainGlobals "_law_draw" = some (some (.ref a_law_draw))) (l_law_draw : K.lookup a_law_draw = some ⟨oc_law_draw, od_law_draw, .func (PySem.W.fnOf "_law_draw" "_law_draw" (defArgs st_law_draw) (defBody st_law_draw) (defScope st_law_draw) .none kV_law_draw doc_law_draw pm_law_draw an_law_draw cdv_law_draw ct_law_draw), osl_law_draw⟩) (c_law_draw : PySem.W.codeIn K cdv_law_draw "_law_draw" = true) (kp_law_draw : PySem.W.keepIn K (.ref a_law_draw) = true)
    {a_law_of : Addr} {oc_law_of : Value} {od_law_of an_law_of : Option Addr} {osl_law_of : Array (Option Value)} {kV_law_of doc_law_of pm_law_of cdv_law_of ct_law_of : Value} (x_law_of : PySem.W.nsIn K mainGlobals "_law_of" = some (some (.ref a_law_of))) (l_law_of : K.lookup a_law_of = some ⟨oc_law_of, od_law_of, .func (PySem.W.fnOf "_law_of" "_law_of" (defArgs st_law_of) (defBody st_law_of) (defScope st_law_of) .none kV_law_of doc_law_of pm_law_of an_law_of cdv_law_of ct_law_of), osl_law_of⟩) (c_law_of : PySem.W.codeIn K cdv_law_of "_law_of" = true) (kp_law_of : PySem.W.keepIn K (.ref a_law_of) = true)
    {a_law_same : Addr} {oc_law_same : Value} {od_law_same an_law_same : Option Addr} {osl_law_same : Array (Option Value)} {kV_law_same doc_law_same pm_law_same cdv_law_same ct_law_same : Value} (x_law_same : PySem.W.nsIn K mainGlobals "_law_same" = some (some (.ref a_law_same))) (l_law_same : K.lookup a_law_same = some ⟨oc_law_same, od_law_same, .func (PySem.W.fnOf "_law_same" "_law_same" (defArgs st_law_same) (defBody st_law_same) (defScope st_law_same) .none kV_law_same doc_law_same pm_law_same an_law_same cdv_law_same ct_law_same), osl_law_same⟩) (c_law_same : PySem.W.codeIn K cdv_law_same "_law_same" = true) (kp_law_same : PySem.W.keepIn K (.ref a_law_same) = true)
    {a_law_names : Addr} {oc_law_names : Value} {od_law_names an_law_names : Option Addr} {osl_law_names : Array (Option Value)} {kV_law_names doc_law_names pm_law_names cdv_law_names ct_law_names : Value} (x_law_names : PySem.W.nsIn K mainGlobals "_law_names" = some (some (.ref a_law_names))) (l_law_names : K.lookup a_law_names = some ⟨oc_law_names, od_law_names, .func (PySem.W.fnOf "_law_names" "_law_names" (defArgs st_law_names) (defBody st_law_names) (defScope st_law_names) .none kV_law_names doc_law_names pm_law_names an_law_names cdv_law_names ct_law_names), osl_law_names⟩) (c_law_names : PySem.W.codeIn K cdv_law_names "_law_names" = true) (kp_law_names : PySem.W.keepIn K (.ref a_law_names) = true)
    {a_law_value : Addr} {oc_law_value : Value} {od_law_value an_law_value : Option Addr} {osl_law_value : Array (Option Value)} {kV_law_value doc_law_value pm_law_value cdv_law_value ct_law_value : Value} (x_law_value : PySem.W.nsIn K mainGlobals "_law_value" = some (some (.ref a_law_value))) (l_law_value : K.lookup a_law_value = some ⟨oc_law_value, od_law_value, .func (PySem.W.fnOf "_law_value" "_law_value" (defArgs st_law_value) (defBody st_law_value) (defScope st_law_value) .none kV_law_value doc_law_value pm_law_value an_law_value cdv_law_value ct_law_value), osl_law_value⟩) (c_law_value : PySem.W.codeIn K cdv_law_value "_law_value" = true) (kp_law_value : PySem.W.keepIn K (.ref a_law_value) = true)
    {a_law_content : Addr} {oc_law_content : Value} {od_law_content an_law_content : Option Addr} {osl_law_content : Array (Option Value)} {kV_law_content doc_law_content pm_law_content cdv_law_content ct_law_content : Value} (x_law_content : PySem.W.nsIn K mainGlobals "_law_content" = some (some (.ref a_law_content))) (l_law_content : K.lookup a_law_content = some ⟨oc_law_content, od_law_content, .func (PySem.W.fnOf "_law_content" "_law_content" (defArgs st_law_content) (defBody st_law_content) (defScope st_law_content) .none kV_law_content doc_law_content pm_law_content an_law_content cdv_law_content ct_law_content), osl_law_content⟩) (c_law_content : PySem.W.codeIn K cdv_law_content "_law_content" = true) (kp_law_content : PySem.W.keepIn K (.ref a_law_content) = true)
    {a_law_parts : Addr} {oc_law_parts : Value} {od_law_parts an_law_parts : Option Addr} {osl_law_parts : Array (Option Value)} {kV_law_parts doc_law_parts pm_law_parts cdv_law_parts ct_law_parts : Value} (x_law_parts : PySem.W.nsIn K mainGlobals "_law_parts" = some (some (.ref a_law_parts))) (l_law_parts : K.lookup a_law_parts = some ⟨oc_law_parts, od_law_parts, .func (PySem.W.fnOf "_law_parts" "_law_parts" (defArgs st_law_parts) (defBody st_law_parts) (defScope st_law_parts) .none kV_law_parts doc_law_parts pm_law_parts an_law_parts cdv_law_parts ct_law_parts), osl_law_parts⟩) (c_law_parts : PySem.W.codeIn K cdv_law_parts "_law_parts" = true) (kp_law_parts : PySem.W.keepIn K (.ref a_law_parts) = true)
    {a_law : Addr} {oc_law : Value} {od_law an_law : Option Addr} {osl_law : Array (Option Value)} {kV_law doc_law pm_law cdv_law ct_law : Value} (x_law : PySem.W.nsIn K mainGlobals "law" = some (some (.ref a_law))) (l_law : K.lookup a_law = some ⟨oc_law, od_law, .func (PySem.W.fnOf "law" "law" (defArgs st_law) (defBody st_law) (defScope st_law) .none kV_law doc_law pm_law an_law cdv_law ct_law), osl_law⟩) (c_law : PySem.W.codeIn K cdv_law "law" = true) (kp_law : PySem.W.keepIn K (.ref a_law) = true)
    : ∃ fd : FuncData, (∀ (s : Shared) (u : Value), BindsTo s fd ⟨[u], []⟩ [("_law_script", u)]) ∧ ∀ base : Heap, K.In base → base.Ns mainGlobals mg → FnG P w K mg base 5 fa fd ["_law_script"] f_law := by
  have T : Txt K mg := ⟨konst_no X G no_int, konst_no X G no_isinstance, konst_no X G no_len, konst_no X G no_list, konst_no X G no_range, konst_no X G no_repr, konst_no X G no_str, konst_no X G no_tuple, konst_tup X G e1_PLAIN e2_PLAIN e3_PLAIN e4_PLAIN⟩
  have D_Interface_content_names := gsm_of (st := st_Interface_content_names) X G x_Interface_content_names sr_Interface_content_names sg_Interface_content_names sf_Interface_content_names sp_Interface_content_names l_Interface_content_names c_Interface_content_names kp_Interface_content_names
  have D_law_bag := gdef_of (st := st_law_bag) X G x_law_bag l_law_bag c_law_bag kp_law_bag
  have D_law_draw := gdef_of (st := st_law_draw) X G x_law_draw l_law_draw c_law_draw kp_law_draw
  have D_law_of := gdef_of (st := st_law_of) X G x_law_of l_law_of c_law_of kp_law_of
  have D_law_same := gdef_of (st := st_law_same) X G x_law_same l_law_same c_law_same kp_law_same
  have D_law_names := gdef_of (st := st_law_names) X G x_law_names l_law_names c_law_names kp_law_names
  have D_law_value := gdef_of (st := st_law_value) X G x_law_value l_law_value c_law_value kp_law_value
  have D_law_content := gdef_of (st := st_law_content) X G x_law_content l_law_content c_law_content kp_law_content
  have D_law_parts := gdef_of (st := st_law_parts) X G x_law_parts l_law_parts c_law_parts kp_law_parts
  have D_law := gdef_of (st := st_law) X G x_law l_law c_law kp_law
  cases hfa.symm.trans D_law.m
  refine ⟨PySem.W.fnOf "law" "law" (defArgs st_law) (defBody st_law) (defScope st_law) .none kV_law doc_law pm_law an_law cdv_law ct_law, fun s u => .of_eq rfl, fun base _ _ => ?_⟩
  have G_Interface_content_names := g_Interface_content_names (P := P) (w := w) (base := base) T D_Interface_content_names
  have G_law_bag := g_law_bag (P := P) (w := w) (base := base) T D_law_bag
  have G_law_draw := g_law_draw (P := P) (w := w) (base := base) T D_law_draw
  have G_law_of := g_law_of (P := P) (w := w) (base := base) T D_law_of D_law_draw G_law_draw
  have G_law_same := g_law_same (P := P) (w := w) (base := base) T D_law_same
  have G_law_names := g_law_names (P := P) (w := w) (base := base) T D_law_names D_law_draw G_law_draw
  have G_law_value := g_law_value (P := P) (w := w) (base := base) T D_law_value D_law_of G_law_of
  have G_law_content := g_law_content (P := P) (w := w) (base := base) T D_law_content D_law_draw G_law_draw D_law_value G_law_value
  have G_law_parts := g_law_parts (P := P) (w := w) (base := base) T D_law_parts
  have G_law := g_law (P := P) (w := w) (base := base) T D_law D_law_bag G_law_bag D_law_names G_law_names D_law_content G_law_content D_law_parts G_law_parts D_Interface_content_names G_Interface_content_names D_law_same G_law_same
  exact G_law
end Law
namespace Law
open PySem PySem.Spec PyProof.Rows L2 Mn
/-! ### the bag of draws -/
structure Bag where
  ns : List Int
  at_ : Int
  big : Int
  st : Int
  cnt : Int
def Bag.ok (B : Bag) : Prop := 0 ≤ B.at_ ∧ 0 ≤ B.st ∧ B.st < 2147483629 ∧ B.ns.length ≤ 63
def Bag.vo (B : Bag) : VO := .lst [.lst (B.ns.map D.int), .int B.at_, .int B.big, .int B.st, .int B.cnt]

theorem draw_ok {rest : VH} {B : Bag} {n : Int} (hB : B.ok) (h0 : 0 < n) (h1 : n < 1000000) :
    ∃ (d : Int) (B' : Bag), f_law_draw [.ref 0, .d (.int n)] (B.vo :: rest) = .ok (.d (.int d)) (B'.vo :: rest) ∧ 0 ≤ d ∧ d < n ∧ B'.ok := by
  obtain ⟨ns, p, g, st, cnt⟩ := B
  obtain ⟨b1, b2, b3, b4⟩ := hB
  unfold Bag.vo
  -- the first part
  have A : ∃ (p' g' st' : Int) (o : Option W), s_law_draw_a (entry 2 5 [.ref 0, .d (.int n)]) (.lst [.lst (ns.map D.int), .int p, .int g, .int st, .int cnt] :: rest) =
      .nx [some (.ref 0), some (.d (.int n)), none, o, none] (.lst [.lst (ns.map D.int), .int p', .int g', .int st', .int cnt] :: rest) ∧ 0 ≤ p' ∧ 0 ≤ st' ∧ st' < 2147483629 := by
    rw [entry22]
    unfold s_law_draw_a
    by_cases c : g = 0 ∧ p < ns.length
    · obtain ⟨rfl, hp⟩ := c
      simp only at b1
      have hv : ∃ v : Int, dIx (.lst (ns.map D.int)) (.int p) = some (.int v) := by
        rw [dIx_lst, atI_of b1 (by simpa using hp)]
        have : p.toNat < ns.length := by omega
        exact ⟨ns[p.toNat], by simp [this]⟩
      obtain ⟨v, hv⟩ := hv
      have m1 : dMul (.int st) (.int 40013) = some (.int (st * 40013)) := dMul_int (.inr (by decide))
      have m2 : dMul (.int (v % 2147483549)) (.int 307) = some (.int (v % 2147483549 * 307)) := dMul_int (.inr (by decide))
      have q1 : dMod (.int v) (.int 2147483549) = some (.int (v % 2147483549)) := dMod_int (by decide)
      have q2 : ∀ u, dMod (.int u) (.int 2147483629) = some (.int (u % 2147483629)) := fun u => dMod_int (by decide)
      by_cases hv2 : 1000000000000000000 ≤ v
      · exact ⟨p + 1, v, (st * 40013 + v % 2147483549 * 307 + 1013) % 2147483629, some (.d (.int v)), by simp [dEq_int, hp, s_law_draw_a1a, s_law_draw_a1b, s_law_draw_a1c, s_law_draw_a1d, s_law_draw_a1d1a, hv, m1, m2, q1, q2, hv2], by omega, by omega, by omega⟩
      · exact ⟨p + 1, 0, (st * 40013 + v % 2147483549 * 307 + 1013) % 2147483629, some (.d (.int v)), by simp [dEq_int, hp, s_law_draw_a1a, s_law_draw_a1b, s_law_draw_a1c, s_law_draw_a1d, s_law_draw_a1d1a, hv, m1, m2, q1, q2, hv2], by omega, by omega, by omega⟩
    · refine ⟨p, g, st, none, ?_, b1, b2, b3⟩
      by_cases hg : g = 0
      · have hp : ¬ p < ns.length := fun h => c ⟨hg, h⟩
        subst hg
        simp [dEq_int, hp]
      · simp [dEq_int, hg]
  obtain ⟨p', g', st', o, hA, c1, c2, c3⟩ := A
  have u1 : ∀ u, dMod (.int u) (.int n) = some (.int (u % n)) := fun u => dMod_int h0
  have u2 : ∀ u, dFdiv (.int u) (.int n) = some (.int (u / n)) := fun u => dFdiv_int ⟨h0, by omega⟩
  have r1 : ∀ u : Int, 0 ≤ u % n ∧ u % n < n := fun u => ⟨Int.emod_nonneg _ (by omega), Int.emod_lt_of_pos _ h0⟩
  unfold f_law_draw
  rw [ev_fn (np := 2) (by rfl)]
  unfold s_law_draw
  rw [ev_seq, hA, seqR_nx]
  by_cases hg : 0 < g'
  · refine ⟨g' % n, ⟨ns, p', g' / n, st', cnt⟩, ?_, (r1 _).1, (r1 _).2, c1, c2, c3, b4⟩
    simp [s_law_draw_b, s_law_draw_b1a, s_law_draw_b1b, s_law_draw_b1c, hg, u1, u2]
  · have m1 : dMul (.int st') (.int st') = some (.int (st' * st')) := dMul_int (.inr ⟨by omega, by omega⟩)
    have m2 : dMul (.int 70001) (.int st') = some (.int (70001 * st')) := dMul_int (.inl (by decide))
    have m3 : dMul (.int 7907) (.int (cnt + 1)) = some (.int (7907 * (cnt + 1))) := dMul_int (.inl (by decide))
    have m4 : dMul (.int st') (.int 33301) = some (.int (st' * 33301)) := dMul_int (.inr (by decide))
    have q2 : ∀ u, dMod (.int u) (.int 2147483629) = some (.int (u % 2147483629)) := fun u => dMod_int (by decide)
    have q3 : ∀ u, dFdiv (.int u) (.int 59) = some (.int (u / 59)) := fun u => dFdiv_int (by decide)
    refine ⟨((st' * st' + 70001 * st' + 7907 * (cnt + 1) + 30011) % 2147483629 / 59 + st' * 33301 + (cnt + 1)) % n, ⟨ns, p', g', (st' * st' + 70001 * st' + 7907 * (cnt + 1) + 30011) % 2147483629, cnt + 1⟩, ?_, (r1 _).1, (r1 _).2, c1, by simp only; omega, by simp only; omega, b4⟩
    simp [s_law_draw_b, s_law_draw_c, s_law_draw_d, s_law_draw_e, s_law_draw_f, hg, u1, u2, m1, m2, m3, m4, q2, q3]
/-! ### names drawn -/
abbrev lets : Str := Str.ofString "abcdefghijklmnopqrstuvwxyz"
theorem let_ix {i : Nat} (h : i < 26) : dIx (.str lets) (.int i) = some (sgn (97 + i)) := by
  have := List.all_eq_true.mp (show (List.range 26).all (fun i => decide (lets.cps.toList[i]? = some (97 + i))) = true by decide +kernel) i (List.mem_range.mpr h)
  rw [dIx_str, atI_of (by omega) (by have : lets.cps.toList.length = 26 := by decide +kernel
                                     omega)]
  rw [Int.toNat_natCast, of_decide_eq_true this]; rfl
abbrev iD (i : Nat) : D := .int i
def cWritable : List Nat := (Str.ofString "writable").cps.toList
def cWritablr : List Nat := (Str.ofString "writablr").cps.toList
/-- the k-th name: fs the first letters, p the place, l the length -/
def name0 (fs : List Nat) (p k l : Nat) : List Nat := ((fs.set p ((fs[p]?.getD 0 + 11 * k) % 26)).take l).map (97 + ·)
def name1 (fs : List Nat) (p k l : Nat) : List Nat := if name0 fs p k l = cWritable then cWritablr else name0 fs p k l
def great1 : List Nat → List Nat
  | [] => []
  | c :: cs => (c - 32) :: cs
def name2 (g : Bool) (fs : List Nat) (p k l : Nat) : List Nat := if g then great1 (name1 fs p k l) else name1 fs p k l
theorem name0_all {fs : List Nat} {p k l : Nat} (hf : ∀ x ∈ fs, x < 26) : ∀ c ∈ name0 fs p k l, 97 ≤ c ∧ c < 123 := by
  intro c hc
  obtain ⟨x, hx, rfl⟩ := List.mem_map.mp hc
  have : x < 26 := by
    rcases List.mem_or_eq_of_mem_set (List.mem_of_mem_take hx) with h | h
    · exact hf x h
    · rw [h]; omega
  omega
theorem name0_len {fs : List Nat} {p k l : Nat} (hl : l ≤ fs.length) : (name0 fs p k l).length = l := by simp [name0]; omega
theorem name1_all {fs : List Nat} {p k l : Nat} (hf : ∀ x ∈ fs, x < 26) : ∀ c ∈ name1 fs p k l, 97 ≤ c ∧ c < 123 := by
  unfold name1
  split
  · have := List.all_eq_true.mp (show cWritablr.all (fun c => decide (97 ≤ c ∧ c < 123)) = true by decide +kernel)
    exact fun c hc => of_decide_eq_true (this c hc)
  · exact name0_all hf
theorem name1_len {fs : List Nat} {p k l : Nat} (hl : l ≤ fs.length) : (name1 fs p k l).length = l := by
  unfold name1
  split
  · rename_i h
    have := congrArg List.length h
    rw [name0_len hl] at this
    rw [this]; decide +kernel
  · exact name0_len hl
theorem name1_ne {fs : List Nat} {p k l : Nat} : name1 fs p k l ≠ cWritable := by
  unfold name1
  split
  · decide +kernel
  · assumption
theorem name2_len {g : Bool} {fs : List Nat} {p k l : Nat} (hl : l ≤ fs.length) : (name2 g fs p k l).length = l := by
  unfold name2
  split
  · have := name1_len (p := p) (k := k) hl
    cases h : name1 fs p k l <;> rw [h] at this <;> exact this
  · exact name1_len hl
theorem up_let {c : Nat} (h : 97 ≤ c ∧ c < 123) : up1 c = c - 32 := by
  unfold up1
  rw [if_pos ⟨h.1, by omega⟩]
theorem upper_one {c : Nat} (h : 97 ≤ c ∧ c < 123) : gUpper (.str (SX.S [c])) [] = some (.str (SX.S [c - 32])) := by
  have e : Txt.upper (SX.S [c]) = SX.S [c - 32] := by
    rw [SX.upper_S (by simp; omega)]
    simp [up_let h]
  unfold gUpper
  simp only [e]
  rw [if_pos ⟨by rw [SX.S_len]; simp, by rw [SX.S_len]; exact Nat.le_trans (show _ ≤ 1 by simp) (by decide), strOk_iff.mpr fun x hx => by
    have : x = c - 32 := by simpa using hx
    omega⟩]
theorem sl_head (w : List Nat) : dSl (.str (SX.S w)) none (some 1) = some (.str (SX.S (w.take 1))) := by
  have h1 : HT.sIx (SX.S w).length 0 none = 0 := rfl
  have h2 : HT.sIx (SX.S w).length (SX.S w).length (some 1) = min 1 w.length := by simp [HT.sIx, SX.S_len]
  simp only [dSl, cutS, h1, h2]
  cases w <;> simp
theorem sl_rest (w : List Nat) : dSl (.str (SX.S w)) (some 1) none = some (.str (SX.S (w.drop 1))) := by
  have h1 : HT.sIx (SX.S w).length 0 (some 1) = min 1 w.length := by simp [HT.sIx, SX.S_len]
  have h2 : HT.sIx (SX.S w).length (SX.S w).length none = w.length := by simp [HT.sIx, SX.S_len]
  simp only [dSl, cutS, h1, h2]
  cases w <;> simp
theorem add_S (a b : List Nat) (h : a.length + b.length ≤ 1000) : dAdd (.str (SX.S a)) (.str (SX.S b)) = some (.str (SX.S (a ++ b))) := by
  show (if (SX.S a).length + (SX.S b).length ≤ sizeLine then some (D.str (SX.S a ++ SX.S b)) else none) = _
  rw [if_pos (by rw [SX.S_len, SX.S_len]; exact Nat.le_trans h (by decide)), SX.S_cat]
theorem sl_to (ds : List D) (l : Nat) (h : l ≤ ds.length) : dSl (.lst ds) none (some (l : Int)) = some (.lst (ds.take l)) := by
  have h1 : HT.sIx ds.length 0 none = 0 := rfl
  have h2 : HT.sIx ds.length ds.length (some (l : Int)) = l := by rw [HT.sIx_nat]; omega
  simp only [dSl, Mn.cutD, h1, h2, List.drop_zero, Nat.sub_zero]
theorem ints_map {xs : List D} {m : Nat} (h : ∀ x ∈ xs, ∃ n : Nat, n < m ∧ x = iD n) : ∃ fs : List Nat, xs = fs.map iD ∧ ∀ c ∈ fs, c < m := by
  induction xs with
  | nil => exact ⟨[], rfl, fun _ h => nomatch h⟩
  | cons x xs ih =>
    obtain ⟨n, hn, rfl⟩ := h x List.mem_cons_self
    obtain ⟨cs, rfl, hc⟩ := ih fun y hy => h y (List.mem_cons_of_mem _ hy)
    refine ⟨n :: cs, rfl, fun c hc' => ?_⟩
    rcases List.mem_cons.mp hc' with rfl | h
    · exact hn
    · exact hc c h
/-- draws, as numbers -/
theorem drawN {rest : VH} {B : Bag} {n : Nat} (hB : B.ok) (h0 : 0 < n) (h1 : n < 1000000) : ∃ (d : Nat) (B' : Bag), f_law_draw [.ref 0, .d (.int n)] (B.vo :: rest) = .ok (.d (.int d)) (B'.vo :: rest) ∧ d < n ∧ B'.ok := by
  obtain ⟨d, B', e, h2, h3, h4⟩ := draw_ok (rest := rest) (n := n) hB (by omega) (by omega)
  exact ⟨d.toNat, B', by rw [e, Int.toNat_of_nonneg h2], by omega, h4⟩
abbrev envN (many : W) (g al : Bool) (fs : List Nat) (p k n : Nat) (a b c d : Option W) : Mn.Env := [some (.ref 0), some many, some (.d (.bl g)), some (.d (.str lets)), some (.d (iD fs.length)), some (.d (iD p)), some (.d (.lst (fs.map iD))), some (.d (.bl al)), some (.ref (n + 1)), some (.d (iD k)), a, b, c, d]
/-- one round of the names: the heap's tail t holds the found names at n, the row at its end -/
theorem names_round {B : Bag} {t : VH} {fs : List Nat} {p k n : Nat} {many : W} {g al : Bool} {found : List D} {a b c d : Option W} (hB : B.ok) (hf : ∀ x ∈ fs, x < 26) (hp : p < fs.length) (h8 : fs.length ≤ 8) (hk : k ≤ 1000)
    (ht : t[n]? = some (.lst found)) (hfd : found.length ≤ 1000) :
    ∃ (B' : Bag) (l : Nat) (row : List D) (a' b' c' d' : Option W), (mSeq s_law_names_g1a (mSeq s_law_names_g1b (mSeq s_law_names_g1c (mSeq s_law_names_g1d (mSeq s_law_names_g1e s_law_names_g1f)))))
      (envN many g al fs p k n a b c d) (B.vo :: t) =
      .nx (envN many g al fs p k n a' b' c' d')
        (B'.vo :: List.set (t ++ [VO.lst row]) n (VO.lst (found ++ [D.str (SX.S (name2 g fs p k l))]))) ∧ B'.ok ∧ p < l ∧ l ≤ fs.length := by
  -- how long
  have sa : ∃ (B' : Bag) (l : Nat), s_law_names_g1a (envN many g al fs p k n a b c d) (B.vo :: t) =
      .nx (envN many g al fs p k n (some (.d (iD l))) b c d) (B'.vo :: t) ∧ B'.ok ∧ p < l ∧ l ≤ fs.length := by
    unfold s_law_names_g1a
    cases al with
    | true => exact ⟨B, fs.length, by simp, hB, hp, Nat.le_refl _⟩
    | false =>
      obtain ⟨q, B', h1, h2, h3⟩ := drawN (rest := t) (n := fs.length - p) hB (by omega) (by omega)
      have hs : dSub (iD fs.length) (iD p) = some (iD (fs.length - p)) := by
        show some (D.int ((fs.length : Int) - (p : Int))) = _
        rw [show ((fs.length : Int) - (p : Int)) = ((fs.length - p : Nat) : Int) by omega]
      refine ⟨B', p + 1 + q, ?_, h3, by omega, by omega⟩
      simp [hs, h1]
  obtain ⟨B1, l, sa, hB1, l1, l2⟩ := sa
  have hn : n < t.length := by
    rcases Nat.lt_or_ge n t.length with h | h
    · exact h
    · rw [List.getElem?_eq_none h] at ht; cases ht
  refine ⟨B1, l, (fs.set p ((fs[p] + 11 * k) % 26)).map iD, some (.d (iD l)), some (.ref (t.length + 1)), some (.d (.str (SX.S (name1 fs p k l)))), d, ?_, hB1, l1, l2⟩
  rw [ev_seq, sa, seqR_nx]
  have v : fs[p]? = some fs[p] := List.getElem?_eq_getElem hp
  have hx : dIx (.lst (fs.map iD)) (iD p) = some (iD fs[p]) := by
    rw [dIx_lst, atI_of (by omega) (by simpa using hp)]
    simp [v]
  have hm : dMul (.int 11) (iD k) = some (.int (11 * k)) := dMul_int (.inl (by decide))
  have hmod : dMod (.int (fs[p] + 11 * k)) (.int 26) = some (iD ((fs[p] + 11 * k) % 26)) := by
    rw [dMod_int (by decide)]
    rfl
  have see1 : ∀ (B : Bag) (r : List D), see (B.vo :: (t ++ [.lst r])) (.ref (t.length + 1)) = some (.lst r) := fun B r => by simp [see]
  have seeN : ∀ (B : Bag) (r : List D), see (B.vo :: (t ++ [.lst r])) (.ref (n + 1)) = some (.lst found) := fun B r => by simp [see, List.getElem?_append_left hn, ht]
  have st : ∀ (E : Mn.Env) (B : Bag) (r : List D) (x : D), r.length = fs.length → storeW (.ref (t.length + 1)) (.d x) (some (iD p)) E (B.vo :: (t ++ [.lst r])) = .nx E (B.vo :: (t ++ [.lst (r.set p x)])) := fun E B r x hr => by
    have h0 : (B.vo :: (t ++ [.lst r]))[t.length + 1]? = some (VO.lst r) := by simp
    rw [storeW_d, h0, storeAt_lst]
    unfold storeL
    have : ixN r.length (p : Int) = some p := by unfold ixN; rw [if_pos (by omega), if_pos (by omega)]; simp
    rw [this]
    simp
  have fixed : (fs.map iD).set p (iD ((fs[p] + 11 * k) % 26)) = (fs.set p ((fs[p] + 11 * k) % 26)).map iD := by rw [List.map_set]
  have hlt : ∀ y ∈ fs.set p ((fs[p] + 11 * k) % 26), y < 26 := fun y hy => by
    rcases List.mem_or_eq_of_mem_set hy with h | h
    · exact hf y h
    · rw [h]; omega
  have cmp : ∀ (ys : List Nat) (E : Mn.Env) (vh : VH), (∀ y ∈ ys, y < 26) → E[3]? = some (some (.d (.str lets))) → E.length = 14 → mComp (aName 13) (fun _ vh => .ok true vh) c_law_names_2 E (ys.map iD) vh = .ok ((ys.map (97 + ·)).map sgn) vh := fun ys E vh hy hE hl => by
    induction ys with
    | nil => rfl
    | cons y ys ih =>
      have h3 : (E.set 13 (some (.d (iD y))))[3]? = some (some (.d (.str lets))) := by rw [List.getElem?_set_ne (by omega)]; exact hE
      have h13 : (E.set 13 (some (.d (iD y))))[13]? = some (some (.d (iD y))) := by rw [List.getElem?_set_self (by omega)]
      have hlx := let_ix (hy y List.mem_cons_self)
      rw [List.map_cons, lc_cons (x := sgn (97 + y)) (vh1 := vh) (vh2 := vh) rfl rfl (by simp [c_law_names_2, h3, h13, hlx]), ih fun z hz => hy z (List.mem_cons_of_mem _ hz)]
      rfl
  have wlen := name1_len (p := p) (k := k) l2
  have wall := name1_all (p := p) (k := k) (l := l) hf
  have join := join_sgn (cs := name0 fs p k l) (fun c hc => by have := name0_all hf c hc; omega) (by rw [name0_len l2]; omega)
  obtain ⟨gs, hgs⟩ : ∃ gs, gs = fs.set p ((fs[p] + 11 * k) % 26) := ⟨_, rfl⟩
  have n0 : name0 fs p k l = (gs.take l).map (97 + ·) := by rw [hgs]; unfold name0; simp [v]
  have glen : gs.length = fs.length := by rw [hgs]; simp
  rw [← hgs] at hlt
  have join2 : gJoin (.str (SX.S [])) [.lst ((gs.take l).map fun y => sgn (97 + y))] = some (.str (SX.S (name0 fs p k l))) := by
    rw [n0] at join ⊢
    rw [← join, List.map_map]; rfl
  have sb : ∀ B : Bag, s_law_names_g1b (envN many g al fs p k n (some (.d (iD l))) b c d) (B.vo :: t) = .nx (envN many g al fs p k n (some (.d (iD l))) (some (.ref (t.length + 1))) c d) (B.vo :: (t ++ [.lst (fs.map iD)])) := fun B => by
    unfold s_law_names_g1b
    simp [envN, seqOf, asSeq]
  have sc : ∀ B : Bag, s_law_names_g1c (envN many g al fs p k n (some (.d (iD l))) (some (.ref (t.length + 1))) c d) (B.vo :: (t ++ [.lst (fs.map iD)])) =
      .nx (envN many g al fs p k n (some (.d (iD l))) (some (.ref (t.length + 1))) c d) (B.vo :: (t ++ [.lst (gs.map iD)])) := fun B => by
    unfold s_law_names_g1c
    have hst := fun E => st E B (fs.map iD) (iD ((fs[p] + 11 * k) % 26)) (by simp)
    rw [hgs, ← fixed]
    simp [envN, hx, hm, hmod, hst]
  have sd : ∀ B : Bag, s_law_names_g1d (envN many g al fs p k n (some (.d (iD l))) (some (.ref (t.length + 1))) c d) (B.vo :: (t ++ [.lst (gs.map iD)])) =
      .nx (envN many g al fs p k n (some (.d (iD l))) (some (.ref (t.length + 1))) (some (.d (.str (SX.S (name0 fs p k l))))) d) (B.vo :: (t ++ [.lst (gs.map iD)])) := fun B => by
    unfold s_law_names_g1d
    have hs := sl_to (gs.map iD) l (by rw [List.length_map, glen]; exact l2)
    rw [← List.map_take] at hs
    have hw : wipeE (envN many g al fs p k n (some (.d (iD l))) (some (.ref (t.length + 1))) c d) [13] = envN many g al fs p k n (some (.d (iD l))) (some (.ref (t.length + 1))) c none := rfl
    have hc := cmp ((gs).take l) (envN many g al fs p k n (some (.d (iD l))) (some (.ref (t.length + 1))) c none) (B.vo :: (t ++ [.lst ((gs).map iD)])) (fun y hy => hlt y (List.mem_of_mem_take hy)) rfl rfl
    have he : (Str.ofString "") = SX.S [] := rfl
    have hlc := lcR_false (xs := ((((gs).take l).map (97 + ·)).map sgn)) (vh := B.vo :: (t ++ [.lst ((gs).map iD)])) (by simp; omega)
    have see2 := see1 B ((gs).map iD)
    simp only [envN] at hw hc
    simp only [ev_set, ev_mt, ev_c, ev_cons, ev_nil, ev_lc, ev_seqI, ev_sl, ev_var, ev_noPart, ev_part, hw]
    simp [envN, see2, tyName]
    simp only [List.map_map] at hc hlc
    simp only [hs, opt_some, bnd_ok, seqI_lst, hc]
    rw [hlc]
    simp [he]
    rw [show (sgn ∘ fun x => 97 + x) = (fun y => sgn (97 + y)) from rfl, ← List.map_take, join2]
    simp
  have se : ∀ B : Bag, s_law_names_g1e (envN many g al fs p k n (some (.d (iD l))) (some (.ref (t.length + 1))) (some (.d (.str (SX.S (name0 fs p k l))))) d) (B.vo :: (t ++ [.lst (gs.map iD)])) =
      .nx (envN many g al fs p k n (some (.d (iD l))) (some (.ref (t.length + 1))) (some (.d (.str (SX.S (name1 fs p k l))))) d) (B.vo :: (t ++ [.lst (gs.map iD)])) := fun B => by
    unfold s_law_names_g1e
    have e1 : Str.ofString "writable" = SX.S cWritable := rfl
    have e2 : Str.ofString "writablr" = SX.S cWritablr := rfl
    have hq := dEq_str (SX.S (name0 fs p k l)) (SX.S cWritable)
    rw [SX.S_beq_eq] at hq
    unfold name1
    by_cases h : name0 fs p k l = cWritable
    · simp [envN, e1, e2, dEq_str, SX.S_beq_eq, h]
    · simp [envN, e1, e2, dEq_str, SX.S_beq_eq, h]
  have sf : ∀ B : Bag, s_law_names_g1f (envN many g al fs p k n (some (.d (iD l))) (some (.ref (t.length + 1))) (some (.d (.str (SX.S (name1 fs p k l))))) d) (B.vo :: (t ++ [.lst (gs.map iD)])) =
      .nx (envN many g al fs p k n (some (.d (iD l))) (some (.ref (t.length + 1))) (some (.d (.str (SX.S (name1 fs p k l))))) d) (B.vo :: List.set (t ++ [.lst (gs.map iD)]) n (.lst (found ++ [.str (SX.S (name2 g fs p k l))]))) := fun B => by
    unfold s_law_names_g1f
    have hn2 : (B.vo :: (t ++ [.lst (gs.map iD)]))[n + 1]? = some (VO.lst found) := by simp [List.getElem?_append_left hn, ht]
    have hm := fun fa E => mutW_ref (g := gAppend) (fa := fa) (e := E) hn2
    have ga : ∀ x : D, gAppend found [x] = some (.non, found ++ [x]) := fun x => if_pos (Nat.lt_of_le_of_lt hfd (by decide))
    cases g with
    | false => simp [envN, hm, hn2, ga, name2]
    | true =>
      have h1 := sl_head (name1 fs p k l)
      have h2 := sl_rest (name1 fs p k l)
      cases hw : name1 fs p k l with
      | nil => rw [hw] at wlen; simp at wlen; omega
      | cons q qs =>
        have hu := upper_one (wall q (by rw [hw]; exact List.mem_cons_self))
        rw [hw] at h1 h2 wlen
        have hadd := add_S [q - 32] qs (by simp at wlen ⊢; omega)
        simp at h1 h2 hadd
        simp [envN, hm, hn2, ga, name2, hw, h1, h2, hu, hadd, tyName, great1]
  rw [← hgs]
  rw [ev_seq, sb, seqR_nx, ev_seq, sc, seqR_nx, ev_seq, sd, seqR_nx, ev_seq, se, seqR_nx, sf]
theorem names_loop {fs : List Nat} {p n : Nat} {many : W} {g al : Bool} (hf : ∀ x ∈ fs, x < 26) (hp : p < fs.length) (h8 : fs.length ≤ 8) :
    ∀ (ks : List Nat) (k0 : Nat) (B : Bag) (t : VH) (found : List D) (o a b c d : Option W), ks = List.range' k0 ks.length → k0 + ks.length ≤ 1000 → B.ok → t[n]? = some (.lst found) → found.length = k0 →
      ∃ (B' : Bag) (t' : VH) (ls : List Nat) (o' a' b' c' d' : Option W), mFor (aName 9) (mSeq s_law_names_g1a (mSeq s_law_names_g1b (mSeq s_law_names_g1c (mSeq s_law_names_g1d (mSeq s_law_names_g1e s_law_names_g1f))))) (ks.map iD)
        [some (.ref 0), some many, some (.d (.bl g)), some (.d (.str lets)), some (.d (iD fs.length)), some (.d (iD p)), some (.d (.lst (fs.map iD))), some (.d (.bl al)), some (.ref (n + 1)), o, a, b, c, d] (B.vo :: t) =
        .nx [some (.ref 0), some many, some (.d (.bl g)), some (.d (.str lets)), some (.d (iD fs.length)), some (.d (iD p)), some (.d (.lst (fs.map iD))), some (.d (.bl al)), some (.ref (n + 1)), o', a', b', c', d'] (B'.vo :: t') ∧
        B'.ok ∧ ls.length = ks.length ∧ (∀ l ∈ ls, p < l ∧ l ≤ fs.length) ∧ t'[n]? = some (.lst (found ++ (ks.zip ls).map fun q => .str (SX.S (name2 g fs p q.1 q.2)))) ∧ t.length ≤ t'.length ∧ t'.take n = t.take n
  | [], k0, B, t, found, o, a, b, c, d, _, _, hB, ht, _ => ⟨B, t, [], o, a, b, c, d, rfl, hB, rfl, fun _ h => (nomatch h), by simpa using ht, Nat.le_refl _, rfl⟩
  | k :: ks, k0, B, t, found, o, a, b, c, d, hks, hz, hB, ht, hfd => by
    have hk : k = k0 ∧ ks = List.range' (k0 + 1) ks.length := by
      rw [List.length_cons, List.range'_succ] at hks
      exact ⟨(List.cons.inj hks).1, (List.cons.inj hks).2⟩
    obtain ⟨rfl, hks'⟩ := hk
    simp only [List.length_cons] at hz
    have hn : n < t.length := by
      rcases Nat.lt_or_ge n t.length with h | h
      · exact h
      · rw [List.getElem?_eq_none h] at ht; cases ht
    obtain ⟨B1, l, row, a1, b1, c1, d1, h1, h2, h3, h4⟩ := names_round (many := many) (g := g) (al := al) (a := a) (b := b) (c := c) (d := d) (k := k) hB hf hp h8 (by omega) ht (by omega)
    have ht1 : (List.set (t ++ [VO.lst row]) n (VO.lst (found ++ [D.str (SX.S (name2 g fs p k l))])))[n]? = some (.lst (found ++ [D.str (SX.S (name2 g fs p k l))])) := by
      rw [List.getElem?_set_self (by simp; omega)]
    obtain ⟨B2, t2, ls, o2, a2, b2, c2, d2, g1, g2, g3, g4, g5, g6, g7⟩ := names_loop (many := many) (g := g) (al := al) hf hp h8 ks (k + 1) B1 _ _ (some (.d (iD k))) a1 b1 c1 d1 hks' (by omega) h2 ht1 (by simp [hfd])
    refine ⟨B2, t2, l :: ls, o2, a2, b2, c2, d2, ?_, g2, by simp [g3], fun x hx => ?_, ?_, ?_, ?_⟩
    · simp only [envN] at h1
      rw [List.map_cons, for_cons rfl]
      simp only [List.set_cons_zero, List.set_cons_succ]
      rw [h1, forR_nx, g1]
    · rcases List.mem_cons.mp hx with rfl | hx
      · exact ⟨h3, h4⟩
      · exact g4 x hx
    · rw [g5]; simp
    · simp at g6; omega
    · rw [g7, List.take_set_of_le (Nat.le_refl _), List.take_append_of_le_length (by omega)]
theorem names_ok {B : Bag} {rest : VH} {many : Nat} {g : Bool} (hB : B.ok) (hm : many ≤ 100) (hr : rest.all (okRef (rest.length + 1)) = true) :
    ∃ (B' : Bag) (fs : List Nat) (p : Nat) (ls : List Nat), mShut f_law_names [.ref 0, .d (iD many), .d (.bl g)] (B.vo :: rest) = .ok (.d (.lst (((List.range many).zip ls).map fun q => .str (SX.S (name2 g fs p q.1 q.2))))) (B'.vo :: rest) ∧
      B'.ok ∧ (∀ x ∈ fs, x < 26) ∧ p < fs.length ∧ fs.length ≤ 8 ∧ ls.length = many ∧ ∀ l ∈ ls, p < l ∧ l ≤ fs.length := by
  obtain ⟨s0, B1, a1, a2, a3⟩ := drawN (rest := rest) (n := 8) hB (by omega) (by omega)
  obtain ⟨p, B2, b1, b2, b3⟩ := drawN (rest := rest) (n := s0 + 1) a3 (by omega) (by omega)
  obtain ⟨xs, vh2, c1, ⟨B3, rfl, c2⟩, c3, c4⟩ := comp_inv (A := aName 9) (ft := fun _ vh => .ok true vh) (f := c_law_names_1) (e := [some (.ref 0), some (.d (iD many)), some (.d (.bl g)), some (.d (.str lets)), some (.d (iD (s0 + 1))), some (.d (iD p)), none, none, none, none, none, none, none, none])
    (fun vh => ∃ B : Bag, vh = B.vo :: rest ∧ B.ok) (fun x => ∃ n : Nat, n < 26 ∧ x = iD n) (ds := (List.range (s0 + 1)).map fun (i : Nat) => .int (i : Int)) (vh := B2.vo :: rest) (fun d hd vh ⟨B, e, hB⟩ => by
      subst e
      obtain ⟨k, B1, h1, h2, h3⟩ := drawN (rest := rest) (n := 26) hB (by decide) (by decide)
      have h1' : f_law_draw [W.ref 0, W.d (D.int 26)] (B.vo :: rest) = Res.ok (W.d (D.int ↑k)) (B1.vo :: rest) := h1
      exact ⟨_, rfl, rfl, iD k, B1.vo :: rest, by simp [c_law_names_1, h1'], ⟨B1, rfl, h3⟩, k, h2, rfl⟩) ⟨B2, rfl, b3⟩
  obtain ⟨fs, rfl, hf⟩ := ints_map c4
  have fl : fs.length = s0 + 1 := by simpa using c3
  obtain ⟨q, B4, d1, d2, d3⟩ := drawN (rest := rest) (n := 2) c2 (by omega) (by omega)
  obtain ⟨B5, t', ls, o', a', b', c', d', e1, e2, e3, e4, e5, e6, e7⟩ := names_loop (fs := fs) (p := p) (n := rest.length) (many := .d (iD many)) (g := g) (al := decide (q = 0)) hf (by omega) (by omega) (List.range many) 0 B4 (rest ++ [.lst []]) [] none none none none none (by rw [List.range_eq_range']; simp) (by simp; omega) d3 (by simp) rfl
  refine ⟨B5, fs, p, ls, ?_, e2, hf, by omega, by omega, by simpa using e3, e4⟩
  have main : f_law_names [.ref 0, .d (iD many), .d (.bl g)] (B.vo :: rest) = .ok (.ref (rest.length + 1)) (B5.vo :: t') := by
    unfold f_law_names
    rw [ev_fn (np := 3) (by rfl)]
    have e0 : entry 3 14 [W.ref 0, .d (iD many), .d (.bl g)] = [some (.ref 0), some (.d (iD many)), some (.d (.bl g)), none, none, none, none, none, none, none, none, none, none, none] := rfl
    rw [e0]
    unfold s_law_names
    have h1' : f_law_draw [W.ref 0, W.d (D.int 8)] (B.vo :: rest) = Res.ok (W.d (D.int ↑s0)) (B1.vo :: rest) := a1
    have h2' : f_law_draw [W.ref 0, W.d (D.int 2)] (B3.vo :: rest) = Res.ok (W.d (D.int ↑q)) (B4.vo :: rest) := d1
    have hadd : (1 : Int) + (s0 : Int) = ((s0 + 1 : Nat) : Int) := by omega
    have hr1 := rangeI_ok (vh := B2.vo :: rest) (j := ((s0 + 1 : Nat) : Int)) ⟨by omega, by omega⟩
    have hr2 := rangeI_ok (vh := B4.vo :: (rest ++ [VO.lst []])) (j := (many : Int)) ⟨by omega, by omega⟩
    rw [Int.toNat_natCast] at hr1 hr2
    have hw : wipeE [some (W.ref 0), some (.d (iD many)), some (.d (.bl g)), some (.d (.str lets)), some (.d (iD (s0 + 1))), some (.d (iD p)), none, none, none, none, none, none, none, none] [9] = [some (.ref 0), some (.d (iD many)), some (.d (.bl g)), some (.d (.str lets)), some (.d (iD (s0 + 1))), some (.d (iD p)), none, none, none, none, none, none, none, none] := rfl
    have hlc := lcR_false (xs := fs.map iD) (vh := B3.vo :: rest) (by simp; omega)
    rw [fl] at e1
    have hq : (decide ((q : Int) = 0)) = decide (q = 0) := by simp
    have b1' : f_law_draw [W.ref 0, W.d (D.int (1 + (s0 : Int)))] (B1.vo :: rest) = Res.ok (W.d (iD p)) (B2.vo :: rest) := by rw [hadd]; exact b1
    have b1'' : f_law_draw [W.ref 0, W.d (iD (s0 + 1))] (B1.vo :: rest) = Res.ok (W.d (iD p)) (B2.vo :: rest) := b1
    have sa : s_law_names_a [some (.ref 0), some (.d (iD many)), some (.d (.bl g)), none, none, none, none, none, none, none, none, none, none, none] (B.vo :: rest) = .nx [some (.ref 0), some (.d (iD many)), some (.d (.bl g)), some (.d (.str lets)), none, none, none, none, none, none, none, none, none, none] (B.vo :: rest) := by
      unfold s_law_names_a; rfl
    have sb : s_law_names_b [some (.ref 0), some (.d (iD many)), some (.d (.bl g)), some (.d (.str lets)), none, none, none, none, none, none, none, none, none, none] (B.vo :: rest) = .nx [some (.ref 0), some (.d (iD many)), some (.d (.bl g)), some (.d (.str lets)), some (.d (iD (s0 + 1))), none, none, none, none, none, none, none, none, none] (B1.vo :: rest) := by
      unfold s_law_names_b; simp [h1', hadd]
    have sc : s_law_names_c [some (.ref 0), some (.d (iD many)), some (.d (.bl g)), some (.d (.str lets)), some (.d (iD (s0 + 1))), none, none, none, none, none, none, none, none, none] (B1.vo :: rest) = .nx [some (.ref 0), some (.d (iD many)), some (.d (.bl g)), some (.d (.str lets)), some (.d (iD (s0 + 1))), some (.d (iD p)), none, none, none, none, none, none, none, none] (B2.vo :: rest) := by
      unfold s_law_names_c; simp only [ev_set, ev_call, ev_cons, ev_nil, ev_var, List.getElem?_cons_zero, List.getElem?_cons_succ, getW_some, bnd_ok, List.append_nil, b1'', lft_ok, List.set_cons_succ, List.set_cons_zero]
    have sd : s_law_names_d [some (.ref 0), some (.d (iD many)), some (.d (.bl g)), some (.d (.str lets)), some (.d (iD (s0 + 1))), some (.d (iD p)), none, none, none, none, none, none, none, none] (B2.vo :: rest) = .nx [some (.ref 0), some (.d (iD many)), some (.d (.bl g)), some (.d (.str lets)), some (.d (iD (s0 + 1))), some (.d (iD p)), some (.d (.lst (fs.map iD))), none, none, none, none, none, none, none] (B3.vo :: rest) := by
      unfold s_law_names_d; simp -implicitDefEqProofs only [ev_set, ev_lc, ev_range1, ev_var, List.getElem?_cons_zero, List.getElem?_cons_succ, getW_some, bnd_ok, see_d, hr1, hw, c1, hlc, lft_ok, List.set_cons_succ, List.set_cons_zero]
    have se : s_law_names_e [some (.ref 0), some (.d (iD many)), some (.d (.bl g)), some (.d (.str lets)), some (.d (iD (s0 + 1))), some (.d (iD p)), some (.d (.lst (fs.map iD))), none, none, none, none, none, none, none] (B3.vo :: rest) = .nx [some (.ref 0), some (.d (iD many)), some (.d (.bl g)), some (.d (.str lets)), some (.d (iD (s0 + 1))), some (.d (iD p)), some (.d (.lst (fs.map iD))), some (.d (.bl (decide (q = 0)))), none, none, none, none, none, none] (B4.vo :: rest) := by
      unfold s_law_names_e; simp [h2', dEq_int]
    have sf : s_law_names_f [some (.ref 0), some (.d (iD many)), some (.d (.bl g)), some (.d (.str lets)), some (.d (iD (s0 + 1))), some (.d (iD p)), some (.d (.lst (fs.map iD))), some (.d (.bl (decide (q = 0)))), none, none, none, none, none, none] (B4.vo :: rest) = .nx [some (.ref 0), some (.d (iD many)), some (.d (.bl g)), some (.d (.str lets)), some (.d (iD (s0 + 1))), some (.d (iD p)), some (.d (.lst (fs.map iD))), some (.d (.bl (decide (q = 0)))), some (.ref (rest.length + 1)), none, none, none, none, none] (B4.vo :: (rest ++ [VO.lst []])) := by
      unfold s_law_names_f; simp [Mn.sizeOk, sizeLine]
    have sg : s_law_names_g [some (.ref 0), some (.d (iD many)), some (.d (.bl g)), some (.d (.str lets)), some (.d (iD (s0 + 1))), some (.d (iD p)), some (.d (.lst (fs.map iD))), some (.d (.bl (decide (q = 0)))), some (.ref (rest.length + 1)), none, none, none, none, none] (B4.vo :: (rest ++ [VO.lst []])) = .nx [some (.ref 0), some (.d (iD many)), some (.d (.bl g)), some (.d (.str lets)), some (.d (iD (s0 + 1))), some (.d (iD p)), some (.d (.lst (fs.map iD))), some (.d (.bl (decide (q = 0)))), some (.ref (rest.length + 1)), o', a', b', c', d'] (B5.vo :: t') := by
      unfold s_law_names_g
      simp -implicitDefEqProofs only [ev_forS, ev_range1, ev_var, List.getElem?_cons_zero, List.getElem?_cons_succ, getW_some, bnd_ok, see_d, hr2, lft_ok]
      exact e1
    have sh : s_law_names_h [some (.ref 0), some (.d (iD many)), some (.d (.bl g)), some (.d (.str lets)), some (.d (iD (s0 + 1))), some (.d (iD p)), some (.d (.lst (fs.map iD))), some (.d (.bl (decide (q = 0)))), some (.ref (rest.length + 1)), o', a', b', c', d'] (B5.vo :: t') = .rt (.ref (rest.length + 1)) (B5.vo :: t') := rfl
    rw [ev_seq, sa, seqR_nx, ev_seq, sb, seqR_nx, ev_seq, sc, seqR_nx, ev_seq, sd, seqR_nx, ev_seq, se, seqR_nx, ev_seq, sf, seqR_nx, ev_seq, sg, seqR_nx, sh, endFn_rt]
  have htl : rest.length < t'.length := by simp at e6; omega
  have htk : t'.take rest.length = rest := by rw [e7]; simp
  unfold mShut
  rw [main]
  simp only [List.length_cons]
  have tm : tame (rest.length + 1) (B5.vo :: t') = true := by
    unfold tame
    rw [List.take_succ_cons, htk, List.all_cons, hr]; rfl
  rw [if_pos ⟨by omega, tm⟩]
  have hz : froz (rest.length + 1) (B5.vo :: t') (.ref (rest.length + 1)) = some (.d (.lst (((List.range many).zip ls).map fun q => .str (SX.S (name2 g fs p q.1 q.2))))) := by
    simp [froz, e5]
  rw [hz, List.take_succ_cons, htk]
  rfl
/-! ### one of some, a value, a content -/
theorem of_ok {rest : VH} {B : Bag} {ds : List D} (hB : B.ok) (h0 : 0 < ds.length) (h1 : ds.length < 1000000) :
    ∃ (d : D) (B' : Bag), f_law_of [.ref 0, .d (.lst ds)] (B.vo :: rest) = .ok (.d d) (B'.vo :: rest) ∧ d ∈ ds ∧ B'.ok := by
  obtain ⟨i, B', h2, h3, h4⟩ := drawN (rest := rest) (n := ds.length) hB h0 h1
  refine ⟨ds[i], B', ?_, List.getElem_mem h3, h4⟩
  unfold f_law_of
  rw [ev_fn (np := 2) (by rfl)]
  have e0 : entry 2 2 [W.ref 0, .d (.lst ds)] = [some (.ref 0), some (.d (.lst ds))] := rfl
  rw [e0]
  unfold s_law_of s_law_of_a
  have hx : dIx (.lst ds) (.int i) = some ds[i] := by
    rw [dIx_lst, atI_of (by omega) (by omega), Int.toNat_natCast, List.getElem?_eq_getElem h3]
  simp [h2, hx]
theorem value_ok {rest : VH} {B : Bag} {ks : List D} (hB : B.ok) (hk : ks.length ≤ 1000) :
    ∃ (d : D) (B' : Bag), f_law_value [.ref 0, .d (.lst ks)] (B.vo :: rest) = .ok (.d d) (B'.vo :: rest) ∧ (d ∈ [D.str (Str.ofString "int"), .str (Str.ofString "str"), .str (Str.ofString "bool")] ∨ d ∈ ks) ∧ B'.ok := by
  obtain ⟨d, B', h2, h3, h4⟩ := of_ok (rest := rest) (ds := [.str (Str.ofString "int"), .str (Str.ofString "str"), .str (Str.ofString "bool"), .str (Str.ofString "int")] ++ ks ++ ks) hB (by simp) (by simp; omega)
  refine ⟨d, B', ?_, ?_, h4⟩
  · unfold f_law_value
    rw [ev_fn (np := 2) (by rfl)]
    have e0 : entry 2 2 [W.ref 0, .d (.lst ks)] = [some (.ref 0), some (.d (.lst ks))] := rfl
    rw [e0]
    unfold s_law_value s_law_value_a
    have a1 : dAdd (.lst [.str (Str.ofString "int"), .str (Str.ofString "str"), .str (Str.ofString "bool"), .str (Str.ofString "int")]) (.lst ks) = some (.lst ([.str (Str.ofString "int"), .str (Str.ofString "str"), .str (Str.ofString "bool"), .str (Str.ofString "int")] ++ ks)) := if_pos (Nat.le_trans (show _ ≤ 2000 by simp; omega) (by decide))
    have a2 : dAdd (.lst ([.str (Str.ofString "int"), .str (Str.ofString "str"), .str (Str.ofString "bool"), .str (Str.ofString "int")] ++ ks)) (.lst ks) = some (.lst ([.str (Str.ofString "int"), .str (Str.ofString "str"), .str (Str.ofString "bool"), .str (Str.ofString "int")] ++ ks ++ ks)) := if_pos (Nat.le_trans (show _ ≤ 4000 by simp; omega) (by decide))
    simp at a1 a2 h2
    simp [Mn.sizeOk, sizeLine, a1, a2, h2]
  · rw [List.mem_append, List.mem_append] at h3
    rcases h3 with (h | h) | h
    · refine .inl ?_
      simp at h ⊢
      rcases h with h | h | h | h <;> simp [h]
    · exact .inr h
    · exact .inr h
/-- a content over the names ks -/
def IsVal (ks : List D) (d : D) : Prop := d ∈ [D.str (Str.ofString "int"), .str (Str.ofString "str"), .str (Str.ofString "bool")] ∨ d ∈ ks
def IsCon (ks : List D) (d : D) : Prop := IsVal ks d ∨ ∃ (ps : List D) (r : D), d = .tup [.str (Str.ofString "method"), .tup ps, r] ∧ ps.length ≤ 3 ∧ (∀ x ∈ ps, IsVal ks x) ∧ IsVal ks r
theorem content_ok {rest : VH} {B : Bag} {ks : List D} (hB : B.ok) (hk : ks.length ≤ 1000) :
    ∃ (d : D) (B' : Bag), f_law_content [.ref 0, .d (.lst ks)] (B.vo :: rest) = .ok (.d d) (B'.vo :: rest) ∧ IsCon ks d ∧ B'.ok := by
  obtain ⟨q, B1, a1, a2, a3⟩ := drawN (rest := rest) (n := 4) hB (by omega) (by omega)
  have a1' : f_law_draw [W.ref 0, W.d (D.int 4)] (B.vo :: rest) = Res.ok (W.d (D.int ↑q)) (B1.vo :: rest) := a1
  have e0 : entry 2 4 [W.ref 0, .d (.lst ks)] = [some (.ref 0), some (.d (.lst ks)), none, none] := rfl
  by_cases hq : 0 < q
  · obtain ⟨d, B2, b1, b2, b3⟩ := value_ok (rest := rest) a3 hk
    refine ⟨d, B2, ?_, .inl b2, b3⟩
    unfold f_law_content
    rw [ev_fn (np := 2) (by rfl), e0]
    unfold s_law_content s_law_content_a s_law_content_a1a
    simp [a1', hq, b1]
  · obtain ⟨m, B2, b1, b2, b3⟩ := drawN (rest := rest) (n := 4) a3 (by omega) (by omega)
    have b1' : f_law_draw [W.ref 0, W.d (D.int 4)] (B1.vo :: rest) = Res.ok (W.d (D.int ↑m)) (B2.vo :: rest) := b1
    obtain ⟨xs, vh2, c1, ⟨B3, rfl, c2⟩, c3, c4⟩ := comp_inv (A := aName 3) (ft := fun _ vh => .ok true vh) (f := c_law_content_1) (e := [some (.ref 0), some (.d (.lst ks)), none, none])
      (fun vh => ∃ B : Bag, vh = B.vo :: rest ∧ B.ok) (IsVal ks) (ds := (List.range m).map fun (i : Nat) => .int (i : Int)) (vh := B2.vo :: rest) (fun d hd vh ⟨B, e, hB⟩ => by
        subst e
        obtain ⟨k, B1, h1, h2, h3⟩ := value_ok (rest := rest) hB hk
        exact ⟨_, rfl, rfl, k, B1.vo :: rest, by simp [c_law_content_1, h1], ⟨B1, rfl, h3⟩, h2⟩) ⟨B2, rfl, b3⟩
    obtain ⟨r, B4, d1, d2, d3⟩ := value_ok (rest := rest) c2 hk
    have xl : xs.length = m := by simpa using c3
    refine ⟨.tup [.str (Str.ofString "method"), .tup xs, r], B4, ?_, .inr ⟨xs, r, rfl, by omega, c4, d2⟩, d3⟩
    unfold f_law_content
    rw [ev_fn (np := 2) (by rfl), e0]
    have hr := rangeI_ok (vh := B2.vo :: rest) (j := (m : Int)) ⟨by omega, by omega⟩
    rw [Int.toNat_natCast] at hr
    have hw : wipeE [some (W.ref 0), some (.d (.lst ks)), none, none] [3] = [some (.ref 0), some (.d (.lst ks)), none, none] := rfl
    have hlc := lcR_false (xs := xs) (vh := B3.vo :: rest) (by omega)
    have ht : cTuple [.lst xs] = some (.tup xs) := rfl
    have sa : s_law_content_a [some (.ref 0), some (.d (.lst ks)), none, none] (B.vo :: rest) = .nx [some (.ref 0), some (.d (.lst ks)), none, none] (B1.vo :: rest) := by
      unfold s_law_content_a
      simp [a1', hq]
    have sb : s_law_content_b [some (.ref 0), some (.d (.lst ks)), none, none] (B1.vo :: rest) = .nx [some (.ref 0), some (.d (.lst ks)), some (.d (.tup xs)), none] (B3.vo :: rest) := by
      unfold s_law_content_b
      simp -implicitDefEqProofs [b1', hr, hw, c1, hlc, ht]
    have sc : s_law_content_c [some (.ref 0), some (.d (.lst ks)), some (.d (.tup xs)), none] (B3.vo :: rest) = .rt (.d (.tup [.str (Str.ofString "method"), .tup xs, r])) (B4.vo :: rest) := by
      unfold s_law_content_c
      simp [d1, Mn.sizeOk, sizeLine]
    unfold s_law_content
    rw [ev_seq, sa, seqR_nx, ev_seq, sb, seqR_nx, sc, endFn_rt]
theorem same_ok {x y : D} {z : Str} {vh : VH} (hx : cRep [x] = some (.str z)) (hy : cRep [y] = some (.str z)) : f_law_same [.d x, .d y] vh = .ok (.d (.bl true)) vh := by
  unfold f_law_same
  rw [ev_fn (np := 2) (by rfl)]
  have e0 : entry 2 2 [W.d x, .d y] = [some (.d x), some (.d y)] := rfl
  rw [e0]
  unfold s_law_same s_law_same_a
  simp [hx, hy, dEq_str]
theorem bag_ok {ns : List Int} (h : ns.length ≤ 63) : ∃ B : Bag, f_law_bag [.d (.frz (ns.map D.int))] [] = .ok (.ref 0) [B.vo] ∧ B.ok := by
  refine ⟨⟨ns, 0, 0, 60289, 0⟩, ?_, by simp only; omega, by simp only; omega, by simp only; omega, h⟩
  unfold f_law_bag
  rw [ev_fn (np := 1) (by rfl)]
  have e0 : entry 1 1 [W.d (.frz (ns.map D.int))] = [some (.d (.frz (ns.map D.int)))] := rfl
  rw [e0]
  unfold s_law_bag s_law_bag_a
  have hs : dSl (.frz (ns.map D.int)) none (some 63) = some (.lst (ns.map D.int)) := by
    have h1 : HT.sIx (ns.map D.int).length 0 none = 0 := rfl
    have h2 : HT.sIx (ns.map D.int).length (ns.map D.int).length (some 63) = ns.length := by simp [HT.sIx]; omega
    simp only [dSl, Mn.cutD, h1, h2, List.drop_zero]
    rw [Nat.sub_zero, List.take_of_length_le (by simp)]
  simp [hs, Mn.sizeOk, sizeLine, cList, asSeq, Bag.vo]
theorem val_fine {ks : List D} {d : D} (hk : ∀ x ∈ ks, Fine 8 0 x) (h : IsVal ks d) : Fine 8 0 d := by
  rcases h with h | h
  · simp only [List.mem_cons, List.not_mem_nil, or_false] at h
    rcases h with rfl | rfl | rfl <;> exact (fine_str _).mono (by decide +kernel) (Nat.le_refl _)
  · exact hk d h
theorem con_fine {ks : List D} {d : D} (hk : ∀ x ∈ ks, Fine 8 0 x) (h : IsCon ks d) : Fine 100 2 d := by
  rcases h with h | ⟨ps, r, rfl, h1, h2, h3⟩
  · exact (val_fine hk h).mono (by omega) (by omega)
  · have f1 : Fine 27 1 (.tup ps) := (fine_tup fun x hx => val_fine hk (h2 x hx)).mono (by omega) (by omega)
    refine (fine_tup (n := 27) (h := 1) (ds := [.str (Str.ofString "method"), .tup ps, r]) fun x hx => ?_).mono (by simp) (by omega)
    simp only [List.mem_cons, List.not_mem_nil, or_false] at hx
    rcases hx with rfl | rfl | rfl
    · exact (fine_str _).mono (by decide +kernel) (by omega)
    · exact f1
    · exact (val_fine hk h3).mono (by omega) (by omega)
theorem names_fine {g : Bool} {fs ls : List Nat} {p m : Nat} (h8 : fs.length ≤ 8) (hl : ∀ l ∈ ls, p < l ∧ l ≤ fs.length) : ∀ x ∈ ((List.range m).zip ls).map fun q => D.str (SX.S (name2 g fs p q.1 q.2)), Fine 8 0 x := by
  intro x hx
  obtain ⟨⟨a, b⟩, hq, rfl⟩ := List.mem_map.mp hx
  have hb := hl b (List.of_mem_zip hq).2
  refine (fine_str _).mono ?_ (Nat.le_refl _)
  rw [SX.S_len, name2_len hb.2]; omega
/-! ### plain words, parts, names -/
def pl (z : Str) : Bool := (Str.ofString "int" == z) || ((Str.ofString "str" == z) || ((Str.ofString "bool" == z) || false))
def np : D → Bool
  | .str z => !pl z
  | _ => false
theorem notin_ctp (z : Str) : dNotInD (.str z) (.ctp [.str (Str.ofString "int"), .str (Str.ofString "str"), .str (Str.ofString "bool")]) = some (.bl (np (.str z))) := rfl
theorem in_ctp (z : Str) : dInD (.str z) (.ctp [.str (Str.ofString "int"), .str (Str.ofString "str"), .str (Str.ofString "bool")]) = some (.bl (pl z)) := rfl
theorem notin_lst (z : Str) : dNotInD (.str z) (.lst [.str (Str.ofString "int"), .str (Str.ofString "str"), .str (Str.ofString "bool")]) = some (.bl (np (.str z))) := by
  simp [dNotInD, dIn, toPy, toPys, PyData.depth, PyData.depthAll, PyData.eqv, np, pl]
def parts : D → List D
  | .tup [_, .tup ps, r] => ps ++ [r]
  | c => [c]
def AllStr (ks : List D) : Prop := ∀ x ∈ ks, ∃ z, x = .str z
theorem val_str {ks : List D} {d : D} (hk : AllStr ks) (h : IsVal ks d) : ∃ z, d = .str z := by
  rcases h with h | h
  · simp only [List.mem_cons, List.not_mem_nil, or_false] at h
    rcases h with rfl | rfl | rfl <;> exact ⟨_, rfl⟩
  · exact hk d h
theorem parts_str {ks : List D} {c : D} (hk : AllStr ks) (h : IsCon ks c) : AllStr (parts c) ∧ (parts c).length ≤ 4 := by
  rcases h with h | ⟨ps, r, rfl, h1, h2, h3⟩
  · obtain ⟨z, rfl⟩ := val_str hk h
    exact ⟨fun x hx => ⟨z, by simpa [parts] using hx⟩, by simp [parts]⟩
  · refine ⟨fun x hx => ?_, by simp [parts]; omega⟩
    rcases List.mem_append.mp (show x ∈ ps ++ [r] from hx) with hx | hx
    · exact val_str hk (h2 x hx)
    · exact val_str hk (by have : x = r := by simpa using hx
                           rw [this]; exact h3)
theorem comp_np {i : Nat} {A : FTg} {ft : FT} {f : FE} {e : Mn.Env} {vh : VH} {ds : List D} (hA : A = aName i) (hi : i < e.length) (hf : f = mVar i) (hs : AllStr ds) (ht : ∀ z, ft (e.set i (some (.d (.str z)))) vh = .ok (np (.str z)) vh) :
    mComp A ft f e ds vh = .ok (ds.filter np) vh := by
  subst hA hf
  have := lc_filter (A := aName i) (ft := ft) (f := mVar i) (e := e) (vh := vh) (p := np) (k := id) (ds := ds) fun d hd => by
    obtain ⟨z, rfl⟩ := hs d hd
    refine ⟨_, rfl, ht z, fun _ => ?_⟩
    rw [ev_var, List.getElem?_set_self hi]; rfl
  rw [this, List.map_id]
theorem cn_ok {ks : List D} {c : D} {vh : VH} (hk : AllStr ks) (h : IsCon ks c) : f_Interface_content_names [.d c] vh = .ok (.ref vh.length) (vh ++ [.lst ((parts c).filter np)]) := by
  unfold f_Interface_content_names
  rw [ev_fn (np := 1) (by rfl)]
  have e0 : entry 1 2 [W.d c] = [some (.d c), none] := rfl
  rw [e0]
  unfold s_Interface_content_names
  have hp := parts_str hk h
  rcases h with h | ⟨ps, r, rfl, h1, h2, h3⟩
  · obtain ⟨z, rfl⟩ := val_str hk h
    have i1 : cIsi [.str z, .ty "tuple"] = some (.bl false) := rfl
    have i2 : dIsN (.str z) .non = some (.bl false) := rfl
    have i3 := in_ctp z
    have sa : s_Interface_content_names_a [some (.d (.str z)), none] vh = .nx [some (.d (.str z)), none] vh := by
      unfold s_Interface_content_names_a
      simp [i1]
    rw [ev_seq, sa, seqR_nx]
    unfold s_Interface_content_names_b
    cases hz : pl z <;> rw [hz] at i3 <;> simp [i2, i3, Mn.sizeOk, sizeLine, parts, np, hz]
  · have i1 : cIsi [.tup [.str (Str.ofString "method"), .tup ps, r], .ty "tuple"] = some (.bl true) := rfl
    have x1 : dIx (.tup [.str (Str.ofString "method"), .tup ps, r]) (.int 1) = some (.tup ps) := rfl
    have x2 : dIx (.tup [.str (Str.ofString "method"), .tup ps, r]) (.int 2) = some r := rfl
    have ad : dAdd (.tup ps) (.tup [r]) = some (.tup (ps ++ [r])) := if_pos (Nat.le_trans (show _ ≤ 10 by simp; omega) (by decide))
    have hw : wipeE [some (W.d (.tup [.str (Str.ofString "method"), .tup ps, r])), none] [1] = [some (.d (.tup [.str (Str.ofString "method"), .tup ps, r])), none] := rfl
    have hc := comp_np (i := 1) (ft := t_Interface_content_names_1) (e := [some (.d (.tup [.str (Str.ofString "method"), .tup ps, r])), none]) (vh := vh) (ds := ps ++ [r]) rfl (by simp) rfl hp.1 fun z => by
      unfold t_Interface_content_names_1
      simp [notin_ctp]
    have hl := lcR_true (xs := (ps ++ [r]).filter np) (vh := vh) (Nat.le_trans (List.length_filter_le _ _) (by simp; omega))
    have sa : s_Interface_content_names_a [some (.d (.tup [.str (Str.ofString "method"), .tup ps, r])), none] vh = .rt (.ref vh.length) (vh ++ [.lst ((ps ++ [r]).filter np)]) := by
      unfold s_Interface_content_names_a s_Interface_content_names_a1a
      simp only [ev_ifS, ev_test, ev_blt, ev_cons, ev_nil, ev_var, List.getElem?_cons_zero, getW_some, bnd_ok, ev_c, sees_cons, sees_nil, see_d, Option.bind_some, Option.map_some, opt_some, i1, ev_isB, lft_ok, if_true, ev_ret, ev_lc, ev_seqI, ev_op, x1, x2, ev_tup, datas_cons, datas_nil, Mn.sizeOk]
      simp [sizeLine, ad, hw]
      simp at hc hl
      rw [hc, hl]; rfl
    rw [ev_seq, sa]
    rfl
theorem parts_ok {ks : List D} {c : D} {vh : VH} (hk : AllStr ks) (h : IsCon ks c) : f_law_parts [.d c] vh = .ok (.d (.lst (parts c))) vh := by
  unfold f_law_parts
  rw [ev_fn (np := 1) (by rfl)]
  have e0 : entry 1 1 [W.d c] = [some (.d c)] := rfl
  rw [e0]
  unfold s_law_parts s_law_parts_a s_law_parts_b s_law_parts_a1a
  rcases h with h | ⟨ps, r, rfl, h1, h2, h3⟩
  · obtain ⟨z, rfl⟩ := val_str hk h
    have i1 : cIsi [.str z, .ty "str"] = some (.bl true) := rfl
    have i2 : dIsN (.str z) .non = some (.bl false) := rfl
    simp [i1, i2, Mn.sizeOk, sizeLine, parts]
  · have i1 : cIsi [.tup [.str (Str.ofString "method"), .tup ps, r], .ty "str"] = some (.bl false) := rfl
    have i2 : dIsN (.tup [.str (Str.ofString "method"), .tup ps, r]) .non = some (.bl false) := rfl
    have x1 : dIx (.tup [.str (Str.ofString "method"), .tup ps, r]) (.int 1) = some (.tup ps) := rfl
    have x2 : dIx (.tup [.str (Str.ofString "method"), .tup ps, r]) (.int 2) = some r := rfl
    have ad : dAdd (.lst ps) (.lst [r]) = some (.lst (ps ++ [r])) := if_pos (Nat.le_trans (show _ ≤ 10 by simp; omega) (by decide))
    have l1 : cList [.tup ps] = some (.lst ps) := rfl
    simp [i1, i2, x1, x2, ad, l1, Mn.sizeOk, sizeLine, parts]
theorem same_okW {w1 w2 : W} {x y : D} {z : Str} {vh : VH} (s1 : see vh w1 = some x) (s2 : see vh w2 = some y) (hx : cRep [x] = some (.str z)) (hy : cRep [y] = some (.str z)) : f_law_same [w1, w2] vh = .ok (.d (.bl true)) vh := by
  unfold f_law_same
  rw [ev_fn (np := 2) (by rfl)]
  have e0 : entry 2 2 [w1, w2] = [some w1, some w2] := rfl
  rw [e0]
  unfold s_law_same s_law_same_a
  simp [s1, s2, hx, hy, dEq_str]
theorem law_true : ∀ ns : List Int, ns.length ≤ 63 → ∃ vh, f_law [.d (.frz (ns.map D.int))] [] = .ok (.d (.bl true)) vh := by
  intro ns hns
  obtain ⟨B, hb, hB⟩ := bag_ok hns
  obtain ⟨B1, fs1, p1, ls1, n1, n2, n3, n4, n5, n6, n7⟩ := names_ok (rest := []) (many := 4) (g := true) hB (by decide) rfl
  have fk := names_fine (g := true) (m := 4) n5 n7
  have lk : (((List.range 4).zip ls1).map fun q => D.str (SX.S (name2 true fs1 p1 q.1 q.2))).length ≤ 4 := by simp; omega
  have hk : AllStr (((List.range 4).zip ls1).map fun q => D.str (SX.S (name2 true fs1 p1 q.1 q.2))) := fun x hx => by
    obtain ⟨q, _, rfl⟩ := List.mem_map.mp hx
    exact ⟨_, rfl⟩
  generalize ((List.range 4).zip ls1).map (fun q => D.str (SX.S (name2 true fs1 p1 q.1 q.2))) = ks at n1 fk lk hk
  have n1' : mShut f_law_names [W.ref 0, W.d (D.int 4), W.d (D.bl true)] [B.vo] = Res.ok (W.d (D.lst ks)) [B1.vo] := n1
  have inner : ∀ (c : D) (due : List D) (z : Str), IsCon ks c → due = (parts c).filter np → cRep [.lst due] = some (.str z) → ∀ d ∈ (List.range 2).map (fun (i : Nat) => D.int (i : Int)), ∀ E vh, (∃ (a o6 o7 : Option W) (B : Bag) (t : VH), B.ok ∧ E = [some (.d (.frz (ns.map D.int))), some (.ref 0), some (.d (.lst ks)), a, some (.d c), some (.d (.lst due)), o6, o7, none] ∧ vh = B.vo :: t) →
      ∃ e', aName 6 d E = some e' ∧ ∃ e2 vh2, (mSeq (s_law_c1c1a) (mSeq (s_law_c1c1b) (s_law_c1c1c))) e' vh = .nx e2 vh2 ∧
        ∃ (a o6 o7 : Option W) (B : Bag) (t : VH), B.ok ∧ e2 = [some (.d (.frz (ns.map D.int))), some (.ref 0), some (.d (.lst ks)), a, some (.d c), some (.d (.lst due)), o6, o7, none] ∧ vh2 = B.vo :: t := by
    rintro c due z hc hdue hz d hd E vh ⟨a, o6, o7, B, t, hB, rfl, rfl⟩
    have h1 := cn_ok (vh := B.vo :: t) hk hc
    rw [← hdue] at h1
    have hl : due.length ≤ 4 := by rw [hdue]; exact Nat.le_trans (List.length_filter_le _ _) (parts_str hk hc).2
    have s1 : see (B.vo :: t ++ [VO.lst due]) (.ref (B.vo :: t).length) = some (.lst due) := by simp [see]
    have h2 := same_okW (w1 := .ref (B.vo :: t).length) (w2 := .d (.lst due)) (vh := B.vo :: t ++ [VO.lst due]) s1 rfl hz hz
    have ga : gAppend due [.str (Str.ofString "A")] = some (.non, due ++ [.str (Str.ofString "A")]) := if_pos (Nat.lt_of_le_of_lt hl (by decide))
    have hg : (B.vo :: t ++ [VO.lst due])[(B.vo :: t).length]? = some (.lst due) := by simp
    have hm := fun fa E => mutW_ref (g := gAppend) (fa := fa) (e := E) hg
    refine ⟨_, rfl, [some (.d (.frz (ns.map D.int))), some (.ref 0), some (.d (.lst ks)), a, some (.d c), some (.d (.lst due)), some (.d d), some (.ref (B.vo :: t).length), none], B.vo :: (t ++ [VO.lst (due ++ [.str (Str.ofString "A")])]), ?_, _, _, _, B, _, hB, rfl, rfl⟩
    have ta : s_law_c1c1a [some (.d (.frz (ns.map D.int))), some (.ref 0), some (.d (.lst ks)), a, some (.d c), some (.d (.lst due)), some (.d d), o7, none] (B.vo :: t) =
        .nx [some (.d (.frz (ns.map D.int))), some (.ref 0), some (.d (.lst ks)), a, some (.d c), some (.d (.lst due)), some (.d d), some (.ref (B.vo :: t).length), none] (B.vo :: t ++ [VO.lst due]) := by
      unfold s_law_c1c1a
      simp only [ev_set, ev_call, ev_cons, ev_nil, ev_var, List.getElem?_cons_zero, List.getElem?_cons_succ, getW_some, bnd_ok, List.append_nil, h1, lft_ok, List.set_cons_succ, List.set_cons_zero]
    have tb : s_law_c1c1b [some (.d (.frz (ns.map D.int))), some (.ref 0), some (.d (.lst ks)), a, some (.d c), some (.d (.lst due)), some (.d d), some (.ref (B.vo :: t).length), none] (B.vo :: t ++ [VO.lst due]) =
        .nx [some (.d (.frz (ns.map D.int))), some (.ref 0), some (.d (.lst ks)), a, some (.d c), some (.d (.lst due)), some (.d d), some (.ref (B.vo :: t).length), none] (B.vo :: t ++ [VO.lst due]) := by
      unfold s_law_c1c1b
      simp only [ev_ifS, ev_notT, ev_test, ev_call, ev_cons, ev_nil, ev_var, List.getElem?_cons_zero, List.getElem?_cons_succ, getW_some, bnd_ok, List.append_nil, h2, lft_ok, ev_isB]
      rfl
    have tc : s_law_c1c1c [some (.d (.frz (ns.map D.int))), some (.ref 0), some (.d (.lst ks)), a, some (.d c), some (.d (.lst due)), some (.d d), some (.ref (B.vo :: t).length), none] (B.vo :: t ++ [VO.lst due]) =
        .nx [some (.d (.frz (ns.map D.int))), some (.ref 0), some (.d (.lst ks)), a, some (.d c), some (.d (.lst due)), some (.d d), some (.ref (B.vo :: t).length), none] (B.vo :: (t ++ [VO.lst (due ++ [.str (Str.ofString "A")])])) := by
      unfold s_law_c1c1c
      simp only [ev_do, ev_mut, ev_var, List.getElem?_cons_zero, List.getElem?_cons_succ, getW_some, bnd_ok, hm, ev_cons, ev_nil, ev_c, hg, mutR_lst, datas_cons, datas_nil, Option.map_some, opt_some, ga, lft_ok]
      simp
    simp only [List.set_cons_zero, List.set_cons_succ]
    rw [ev_seq, ta, seqR_nx, ev_seq, tb, seqR_nx, tc]
  have body : ∀ d ∈ (List.range 8).map (fun (i : Nat) => D.int (i : Int)), ∀ E vh, (∃ (o3 o4 o5 o6 o7 : Option W) (B : Bag) (t : VH), B.ok ∧ E = [some (.d (.frz (ns.map D.int))), some (.ref 0), some (.d (.lst ks)), o3, o4, o5, o6, o7, none] ∧ vh = B.vo :: t) →
      ∃ e', aName 3 d E = some e' ∧ ∃ e2 vh2, (mSeq (s_law_c1a) (mSeq (s_law_c1b) (s_law_c1c))) e' vh = .nx e2 vh2 ∧
        ∃ (o3 o4 o5 o6 o7 : Option W) (B : Bag) (t : VH), B.ok ∧ e2 = [some (.d (.frz (ns.map D.int))), some (.ref 0), some (.d (.lst ks)), o3, o4, o5, o6, o7, none] ∧ vh2 = B.vo :: t := by
    rintro d hd E vh ⟨o3, o4, o5, o6, o7, B, t, hB, rfl, rfl⟩
    obtain ⟨c, B4, c1, c2, c3⟩ := content_ok (rest := t) (ks := ks) hB (by omega)
    have hp := parts_ok (vh := B4.vo :: t) hk c2
    obtain ⟨s1, s2⟩ := parts_str hk c2
    have fine : Fine 45 1 (.lst ((parts c).filter np)) := (fine_lst (n := 8) (h := 0) fun x hx => by
      have hx2 := (List.mem_filter.mp hx).1
      rcases c2 with h | ⟨ps, r, rfl, h1, h2, h3⟩
      · have e : parts c = [c] := by obtain ⟨z, rfl⟩ := val_str hk h; rfl
        rw [e] at hx2
        rw [List.mem_singleton.mp hx2]; exact val_fine fk h
      · rcases List.mem_append.mp (show x ∈ ps ++ [r] from hx2) with h | h
        · exact val_fine fk (h2 x h)
        · rw [List.mem_singleton.mp h]; exact val_fine fk h3).mono (by have := List.length_filter_le np (parts c); omega) (by omega)
    obtain ⟨z, hz⟩ := rep_fine fine (by decide) (by decide)
    have ta : s_law_c1a [some (.d (.frz (ns.map D.int))), some (.ref 0), some (.d (.lst ks)), some (.d d), o4, o5, o6, o7, none] (B.vo :: t) = .nx [some (.d (.frz (ns.map D.int))), some (.ref 0), some (.d (.lst ks)), some (.d d), some (.d c), o5, o6, o7, none] (B4.vo :: t) := by
      unfold s_law_c1a
      simp [c1]
    have hw : wipeE [some (W.d (.frz (ns.map D.int))), some (.ref 0), some (.d (.lst ks)), some (.d d), some (.d c), o5, o6, o7, none] [8] = [some (.d (.frz (ns.map D.int))), some (.ref 0), some (.d (.lst ks)), some (.d d), some (.d c), o5, o6, o7, none] := rfl
    have hc := comp_np (i := 8) (ft := t_law_1) (e := [some (.d (.frz (ns.map D.int))), some (.ref 0), some (.d (.lst ks)), some (.d d), some (.d c), o5, o6, o7, none]) (vh := B4.vo :: t) (ds := parts c) rfl (by simp) rfl s1 fun z => by
      unfold t_law_1
      simp [notin_lst, Mn.sizeOk, sizeLine]
    have hl := lcR_false (xs := (parts c).filter np) (vh := B4.vo :: t) (Nat.le_trans (List.length_filter_le _ _) (by omega))
    have tb : s_law_c1b [some (.d (.frz (ns.map D.int))), some (.ref 0), some (.d (.lst ks)), some (.d d), some (.d c), o5, o6, o7, none] (B4.vo :: t) = .nx [some (.d (.frz (ns.map D.int))), some (.ref 0), some (.d (.lst ks)), some (.d d), some (.d c), some (.d (.lst ((parts c).filter np))), o6, o7, none] (B4.vo :: t) := by
      unfold s_law_c1b
      simp only [ev_set, ev_lc, ev_seqI, ev_call, ev_cons, ev_nil, ev_var, List.getElem?_cons_zero, List.getElem?_cons_succ, getW_some, bnd_ok, List.append_nil, hp, seqI_lst, hw, hc, hl, lft_ok, List.set_cons_succ, List.set_cons_zero]
    obtain ⟨e2, vh2, f1, a, b6, b7, B5, t5, hB5, rfl, rfl⟩ := for_inv _ (e := [some (.d (.frz (ns.map D.int))), some (.ref 0), some (.d (.lst ks)), some (.d d), some (.d c), some (.d (.lst ((parts c).filter np))), o6, o7, none]) (vh := B4.vo :: t) (inner c _ z c2 rfl hz) ⟨_, _, _, B4, t, c3, rfl, rfl⟩
    refine ⟨_, rfl, [some (.d (.frz (ns.map D.int))), some (.ref 0), some (.d (.lst ks)), a, some (.d c), some (.d (.lst ((parts c).filter np))), b6, b7, none], B5.vo :: t5, ?_, a, some (.d c), some (.d (.lst ((parts c).filter np))), b6, b7, B5, t5, hB5, rfl, rfl⟩
    simp only [List.set_cons_zero, List.set_cons_succ]
    rw [ev_seq, ta, seqR_nx, ev_seq, tb, seqR_nx]
    unfold s_law_c1c
    have hr := rangeI_ok (vh := B4.vo :: t) (j := 2) (by decide)
    rw [show Int.toNat 2 = 2 from rfl] at hr
    rw [ev_forS, ev_range1, ev_c, bnd_ok, see_d, hr, lft_ok, f1]
  obtain ⟨e2, vh2, f1, o3, o4, o5, o6, o7, B5, t5, hB5, rfl, rfl⟩ := for_inv _ (e := [some (.d (.frz (ns.map D.int))), some (.ref 0), some (.d (.lst ks)), none, none, none, none, none, none]) (vh := [B1.vo]) body ⟨_, _, _, _, _, B1, [], n2, rfl, rfl⟩
  unfold f_law
  rw [ev_fn (np := 1) (by rfl)]
  have e0 : entry 1 9 [W.d (.frz (ns.map D.int))] = [some (.d (.frz (ns.map D.int))), none, none, none, none, none, none, none, none] := rfl
  rw [e0]
  have cn0 : f_Interface_content_names [.d .non] (B5.vo :: t5) = .ok (.ref (B5.vo :: t5).length) (B5.vo :: t5 ++ [.lst []]) := by
    unfold f_Interface_content_names
    rw [ev_fn (np := 1) (by rfl)]
    have e0 : entry 1 2 [W.d D.non] = [some (.d .non), none] := rfl
    rw [e0]
    unfold s_Interface_content_names s_Interface_content_names_a s_Interface_content_names_b
    have i1 : cIsi [.non, .ty "tuple"] = some (.bl false) := rfl
    have i2 : dIsN .non .non = some (.bl true) := rfl
    simp [i1, i2, Mn.sizeOk, sizeLine]
  have s1 : see (B5.vo :: t5 ++ [VO.lst []]) (.ref (B5.vo :: t5).length) = some (.lst []) := by simp [see]
  obtain ⟨z, hz⟩ := rep_fine (fine_lst (n := 0) (h := 0) (ds := []) fun _ h => nomatch h) (by decide) (by decide)
  have h2 := same_okW (w1 := .ref (B5.vo :: t5).length) (w2 := .d (.lst [])) (vh := B5.vo :: t5 ++ [VO.lst []]) s1 rfl hz hz
  refine ⟨B5.vo :: t5 ++ [VO.lst []], ?_⟩
  have sa : s_law_a [some (.d (.frz (ns.map D.int))), none, none, none, none, none, none, none, none] [] = .nx [some (.d (.frz (ns.map D.int))), some (.ref 0), none, none, none, none, none, none, none] [B.vo] := by
    unfold s_law_a; simp [hb]
  have sb : s_law_b [some (.d (.frz (ns.map D.int))), some (.ref 0), none, none, none, none, none, none, none] [B.vo] = .nx [some (.d (.frz (ns.map D.int))), some (.ref 0), some (.d (.lst ks)), none, none, none, none, none, none] [B1.vo] := by
    unfold s_law_b; simp [n1']
  have hr := rangeI_ok (vh := [B1.vo]) (j := 8) (by decide)
  rw [show Int.toNat 8 = 8 from rfl] at hr
  unfold s_law
  rw [ev_seq, sa, seqR_nx, ev_seq, sb, seqR_nx, ev_seq]
  unfold s_law_c
  rw [ev_forS, ev_range1, ev_c, bnd_ok, see_d, hr, lft_ok, f1, seqR_nx]
  unfold s_law_d
  simp only [ev_ret, ev_call, ev_cons, ev_nil, ev_c, bnd_ok, List.append_nil, cn0, ev_lst, datas_nil, opt_some, Mn.sizeOk, List.length_nil]
  rw [if_pos (Nat.zero_le _)]
  simp only [bnd_ok, h2, lft_ok, endFn_rt]
end Law

open PySem PySem.W PyProof.Rows
set_option maxRecDepth 100000 in
set_option maxHeartbeats 0 in
theorem PySem.Challenge.cw_unmeant_k06_names_in_contents_holds : PySem.Challenge.rw_unmeant_k06_names_in_contents.Holds := by
  w_on; o_law; k_head; (case hw => w_witness2)
  k_fill
  refine Mn.walk_end (l := PySem.Challenge.rw_unmeant_k06_names_in_contents) (n := 63) (k := 5) (x := "_law_script") (F := Law.f_law) rfl (by decide) rfl ⟨rfl, by decide, by decide⟩ (fun w h Y => PySem.W.kIn_of Y) ?F Law.law_true
  case F =>
    intro w mg fa h KX G hmg
    refine' Law.all _ mg KX G hmg ?no_int ?no_isinstance ?no_len ?no_list ?no_range ?no_repr ?no_str ?no_tuple ?e1_PLAIN ?e2_PLAIN ?e3_PLAIN ?e4_PLAIN ?x_Interface_content_names ?st_ty_Interface_content_names ?sr_Interface_content_names ?sg_Interface_content_names ?sf_Interface_content_names ?sp_Interface_content_names ?l_Interface_content_names ?c_Interface_content_names ?kp_Interface_content_names ?x_law_bag ?l_law_bag ?c_law_bag ?kp_law_bag ?x_law_draw ?l_law_draw ?c_law_draw ?kp_law_draw ?x_law_of ?l_law_of ?c_law_of ?kp_law_of ?x_law_same ?l_law_same ?c_law_same ?kp_law_same ?x_law_names ?l_law_names ?c_law_names ?kp_law_names ?x_law_value ?l_law_value ?c_law_value ?kp_law_value ?x_law_content ?l_law_content ?c_law_content ?kp_law_content ?x_law_parts ?l_law_parts ?c_law_parts ?kp_law_parts ?x_law ?l_law ?c_law ?kp_law
    (case no_int => k_is)
    (case no_isinstance => k_is)
    (case no_len => k_is)
    (case no_list => k_is)
    (case no_range => k_is)
    (case no_repr => k_is)
    (case no_str => k_is)
    (case no_tuple => k_is)
    (case e1_PLAIN => k_is)
    (case e2_PLAIN => k_is)
    (case e3_PLAIN => kernel_rfl)
    (case e4_PLAIN => kernel_rfl)
    (case x_Interface_content_names => k_is)
    (case st_ty_Interface_content_names => k_is)
    (case sr_Interface_content_names => k_is)
    (case sg_Interface_content_names => k_is)
    (case sf_Interface_content_names => k_is)
    (case sp_Interface_content_names => k_is)
    (case l_Interface_content_names => k_is)
    (case c_Interface_content_names => k_is)
    (case kp_Interface_content_names => k_is)
    (case x_law_bag => k_is)
    (case l_law_bag => k_is)
    (case c_law_bag => k_is)
    (case kp_law_bag => k_is)
    (case x_law_draw => k_is)
    (case l_law_draw => k_is)
    (case c_law_draw => k_is)
    (case kp_law_draw => k_is)
    (case x_law_of => k_is)
    (case l_law_of => k_is)
    (case c_law_of => k_is)
    (case kp_law_of => k_is)
    (case x_law_same => k_is)
    (case l_law_same => k_is)
    (case c_law_same => k_is)
    (case kp_law_same => k_is)
    (case x_law_names => k_is)
    (case l_law_names => k_is)
    (case c_law_names => k_is)
    (case kp_law_names => k_is)
    (case x_law_value => k_is)
    (case l_law_value => k_is)
    (case c_law_value => k_is)
    (case kp_law_value => k_is)
    (case x_law_content => k_is)
    (case l_law_content => k_is)
    (case c_law_content => k_is)
    (case kp_law_content => k_is)
    (case x_law_parts => k_is)
    (case l_law_parts => k_is)
    (case c_law_parts => k_is)
    (case kp_law_parts => k_is)
    (case x_law => k_is)
    (case l_law => k_is)
    (case c_law => k_is)
    (case kp_law => k_is)
